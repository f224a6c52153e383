import PyProof.Rows.All
import Wide.All
import OpenK.AllK
import Wide.FinOn
import HandS.ForMost
import HandS.IsInst
import HandS.Wide
import HandS.TupAny
import HandS.TupMul
import HandS.Conv
import HandS.Deep
import HandS.Zip
import HandS.Flow
import HandS.Style
import KE.KDictPairs
import HandS.Text
import HandS.Strs
import KE.GoesMore
import KE.GoesZip
import KE.GoesEnum
import HandS.StrMore
import HandS.RaiseMore
import PyProof.Rows.StrFirst
import PySem.Challenge.RW_closedhand_k01_sheets
set_option Elab.async false
set_option linter.all false
set_option maxRecDepth 100000
set_option maxHeartbeats 4000000
set_option autoImplicit false
namespace CH
open PySem PySem.Spec L2

/-! ## data -/
inductive D where
  | non | bl (b : Bool) | int (i : Int) | str (x : Str)
  | tup (xs : List D) | lst (xs : List D) | dct (kvs : List (D × D)) | ins (c : Nat) (fs : List (Str × D))
/-- what a slot holds: a value that never changes, or a tree of own objects -/
inductive O where
  | val (d : D) | lst (xs : List O) | tup (xs : List O) | dct (kvs : List (D × D)) | ins (c : Nat) (fs : List (Str × O))

inductive Res (α : Type) where
  | ok (a : α) | err (c : Nat) | stuck
def Res.bind {α β : Type} (r : Res α) (f : α → Res β) : Res β := match r with
  | .ok a => f a
  | .err c => .err c
  | .stuck => .stuck
@[simp] theorem Res.bind_ok {α β : Type} (a : α) (f : α → Res β) : (Res.ok a).bind f = f a := rfl
@[simp] theorem Res.bind_err {α β : Type} (c : Nat) (f : α → Res β) : (Res.err c : Res α).bind f = .err c := rfl
@[simp] theorem Res.bind_stuck {α β : Type} (f : α → Res β) : (Res.stuck : Res α).bind f = .stuck := rfl
/-- where no error may leave -/
def Res.calm {α : Type} : Res α → Res α
  | .err _ => .stuck
  | r => r
@[simp] theorem Res.calm_ok {α : Type} (a : α) : (Res.ok a).calm = .ok a := rfl

abbrev Env := List (Option O)
abbrev ME := Env → Res D

/-! ## what represents a datum -/
def dKey : Key → D
  | .inl i => .int i
  | .inr x => .str x
/-- a tuple whose object is known to bear no dict -/
def Tp (K : PySem.W.Frag) (F : Hp) (a : Addr) (vs : List V) : Prop := (∃ o : Obj, F a = some (.frz o (.tup vs)) ∧ o.dict = none) ∨
  ∃ (o : Obj) (its : Array Value) (n : Nat), K.lookup a = some o ∧ o.cls = .type "tuple" ∧ o.dict = none ∧ o.data = .seq its n ∧ its.size ≤ sizeLine ∧ Vals vs its.toList
theorem Tp.sq {K : PySem.W.Frag} {F : Hp} {a : Addr} {vs : List V} (h : Tp K F a vs) : SqT K F a vs := by
  rcases h with ⟨o, h, _⟩ | ⟨o, its, n, h1, h2, _, h3⟩
  · exact .inl (.inr ⟨o, h⟩)
  · exact .inr ⟨o, its, n, h1, h2, h3⟩
mutual
inductive Rep (K : PySem.W.Frag) (cl : Nat → Addr) (F : Hp) : V → D → Prop
  | non : Rep K cl F .non .non
  | bl (b : Bool) : Rep K cl F (.bl b) (.bl b)
  | int (i : Int) : Rep K cl F (.int i) (.int i)
  | str (x : Str) : Rep K cl F (.str x) (.str x)
  | tup {a : Addr} {vs : List V} {ds : List D} : Tp K F a vs → RepL K cl F vs ds → Rep K cl F (.ref a) (.tup ds)
  | lst {a : Addr} {vs : List V} {ds : List D} : SqL K F a vs → RepL K cl F vs ds → Rep K cl F (.ref a) (.lst ds)
  | dct {a : Addr} {kvs : List (Key × V)} {ds : List (D × D)} : Rd F a (.dK kvs) → RepD K cl F kvs ds → Rep K cl F (.ref a) (.dct ds)
  | ins {a dx : Addr} {c : Nat} {fs : List (Str × V)} {ds : List (Str × D)} : F a = some (.ins (cl c) dx fs) → RepF K cl F fs ds → Rep K cl F (.ref a) (.ins c ds)
inductive RepL (K : PySem.W.Frag) (cl : Nat → Addr) (F : Hp) : List V → List D → Prop
  | nil : RepL K cl F [] []
  | cons {v : V} {d : D} {vs : List V} {ds : List D} : Rep K cl F v d → RepL K cl F vs ds → RepL K cl F (v :: vs) (d :: ds)
inductive RepD (K : PySem.W.Frag) (cl : Nat → Addr) (F : Hp) : List (Key × V) → List (D × D) → Prop
  | nil : RepD K cl F [] []
  | cons {k : Key} {v : V} {d : D} {vs : List (Key × V)} {ds : List (D × D)} : Rep K cl F v d → RepD K cl F vs ds → RepD K cl F ((k, v) :: vs) ((dKey k, d) :: ds)
inductive RepF (K : PySem.W.Frag) (cl : Nat → Addr) (F : Hp) : List (Str × V) → List (Str × D) → Prop
  | nil : RepF K cl F [] []
  | cons {x : Str} {v : V} {d : D} {vs : List (Str × V)} {ds : List (Str × D)} : Rep K cl F v d → RepF K cl F vs ds → RepF K cl F ((x, v) :: vs) ((x, d) :: ds)
end

theorem Same.rd {H H' : Hp} {a : Addr} {u : HO} (e : Same H H') (h : Rd H a u) : Rd H' a u := by
  rcases h with h | ⟨o, h⟩
  · exact .inl (e _ _ h)
  · exact .inr ⟨o, e _ _ h⟩
theorem Same.sqt {K : PySem.W.Frag} {H H' : Hp} {a : Addr} {xs : List V} (e : Same H H') (h : SqT K H a xs) : SqT K H' a xs := by
  rcases h with h | h
  · exact .inl (Same.rd e h)
  · exact .inr h
theorem Same.tp {K : PySem.W.Frag} {H H' : Hp} {a : Addr} {xs : List V} (e : Same H H') (h : Tp K H a xs) : Tp K H' a xs := by
  rcases h with ⟨o, h, z⟩ | h
  · exact .inl ⟨o, e _ _ h, z⟩
  · exact .inr h
theorem Same.sql {K : PySem.W.Frag} {H H' : Hp} {a : Addr} {xs : List V} (e : Same H H') (h : SqL K H a xs) : SqL K H' a xs := Same.seq e h

section
variable {K : PySem.W.Frag} {cl : Nat → Addr} {F F' : Hp}
mutual
theorem Rep.mono (s : Same F F') : ∀ {v : V} {d : D}, Rep K cl F v d → Rep K cl F' v d
  | _, _, .non => .non
  | _, _, .bl b => .bl b
  | _, _, .int i => .int i
  | _, _, .str x => .str x
  | _, _, .tup h r => .tup (Same.tp s h) (RepL.mono s r)
  | _, _, .lst h r => .lst (Same.sql s h) (RepL.mono s r)
  | _, _, .dct h r => .dct (Same.rd s h) (RepD.mono s r)
  | _, _, .ins h r => .ins (s _ _ h) (RepF.mono s r)
theorem RepL.mono (s : Same F F') : ∀ {vs : List V} {ds : List D}, RepL K cl F vs ds → RepL K cl F' vs ds
  | _, _, .nil => .nil
  | _, _, .cons h r => .cons (Rep.mono s h) (RepL.mono s r)
theorem RepD.mono (s : Same F F') : ∀ {vs : List (Key × V)} {ds : List (D × D)}, RepD K cl F vs ds → RepD K cl F' vs ds
  | _, _, .nil => .nil
  | _, _, .cons h r => .cons (Rep.mono s h) (RepD.mono s r)
theorem RepF.mono (s : Same F F') : ∀ {vs : List (Str × V)} {ds : List (Str × D)}, RepF K cl F vs ds → RepF K cl F' vs ds
  | _, _, .nil => .nil
  | _, _, .cons h r => .cons (Rep.mono s h) (RepF.mono s r)
end
theorem RepL.length : ∀ {vs : List V} {ds : List D}, RepL K cl F vs ds → vs.length = ds.length
  | _, _, .nil => rfl
  | _, _, .cons _ r => by rw [List.length_cons, List.length_cons, RepL.length r]
theorem RepL.get : ∀ {vs : List V} {ds : List D} {i : Nat} {d : D}, RepL K cl F vs ds → ds[i]? = some d → ∃ v, vs[i]? = some v ∧ Rep K cl F v d
  | _, _, _, _, .nil, e => by simp at e
  | _, _, 0, _, .cons h _, e => by simp at e; subst e; exact ⟨_, rfl, h⟩
  | _, _, i + 1, _, .cons _ r, e => by
    obtain ⟨v, h1, h2⟩ := RepL.get (i := i) r (by simpa using e)
    exact ⟨v, by simpa using h1, h2⟩
theorem RepL.append : ∀ {vs ws : List V} {ds es : List D}, RepL K cl F vs ds → RepL K cl F ws es → RepL K cl F (vs ++ ws) (ds ++ es)
  | _, _, _, _, .nil, s => s
  | _, _, _, _, .cons h r, s => .cons h (RepL.append r s)
theorem RepL.drop : ∀ {vs : List V} {ds : List D} (n : Nat), RepL K cl F vs ds → RepL K cl F (vs.drop n) (ds.drop n)
  | _, _, 0, r => r
  | _, _, _ + 1, .nil => .nil
  | _, _, n + 1, .cons _ r => RepL.drop n r
theorem RepL.take : ∀ {vs : List V} {ds : List D} (n : Nat), RepL K cl F vs ds → RepL K cl F (vs.take n) (ds.take n)
  | _, _, 0, _ => .nil
  | _, _, _ + 1, .nil => .nil
  | _, _, n + 1, .cons h r => .cons h (RepL.take n r)
theorem RepL.reverse : ∀ {vs : List V} {ds : List D}, RepL K cl F vs ds → RepL K cl F vs.reverse ds.reverse
  | _, _, .nil => .nil
  | _, _, .cons h r => by
    rw [List.reverse_cons, List.reverse_cons]
    exact (RepL.reverse r).append (.cons h .nil)
theorem RepL.getV : ∀ {vs : List V} {ds : List D} {i : Nat} {v : V}, RepL K cl F vs ds → vs[i]? = some v → ∃ d, ds[i]? = some d ∧ Rep K cl F v d
  | _, _, _, _, .nil, e => by simp at e
  | _, _, 0, _, .cons h _, e => by simp at e; subst e; exact ⟨_, rfl, h⟩
  | _, _, i + 1, _, .cons _ r, e => by
    obtain ⟨v, h1, h2⟩ := RepL.getV (i := i) r (by simpa using e)
    exact ⟨v, by simpa using h1, h2⟩
end

/-! ## containers that may be own ones: the items never change -/
def RepB (K : PySem.W.Frag) (cl : Nat → Addr) (F H : Hp) (v : V) : D → Prop
  | .lst ds => ∃ a vs, v = .ref a ∧ SqL K H a vs ∧ RepL K cl F vs ds
  | .dct ds => ∃ a kvs, v = .ref a ∧ Rd H a (.dK kvs) ∧ RepD K cl F kvs ds
  | d => Rep K cl F v d
section
variable {K : PySem.W.Frag} {cl : Nat → Addr} {F F' H H' : Hp}
theorem Rep.toB {v : V} {d : D} (s : Same F H) (h : Rep K cl F v d) : RepB K cl F H v d := by
  cases d with
  | lst ds => cases h with | lst h r => exact ⟨_, _, rfl, Same.sql s h, r⟩
  | dct ds => cases h with | dct h r => exact ⟨_, _, rfl, Same.rd s h, r⟩
  | _ => exact h
theorem RepB.mono {v : V} {d : D} (s : Same F F') (t : Same H H') (h : RepB K cl F H v d) : RepB K cl F' H' v d := by
  cases d with
  | lst ds => obtain ⟨a, vs, e, h, r⟩ := h; exact ⟨a, vs, e, Same.sql t h, r.mono s⟩
  | dct ds => obtain ⟨a, vs, e, h, r⟩ := h; exact ⟨a, vs, e, Same.rd t h, r.mono s⟩
  | non => exact Rep.mono s h
  | bl _ => exact Rep.mono s h
  | int _ => exact Rep.mono s h
  | str _ => exact Rep.mono s h
  | tup _ => exact Rep.mono s h
  | ins _ _ => exact Rep.mono s h
end

/-! ## the frozen part and how it grows -/
/-- every tuple is frozen -/
def isT : HO → Bool
  | .tup _ => true
  | .frz _ (.tup _) => true
  | _ => false
def TupC (F H : Hp) : Prop := ∀ a u, H a = some u → isT u = true → F a = some u
structure Grow (F H F' H' : Hp) : Prop where
  sub : Same F' H'
  tups : TupC F' H'
  hh : Same H H'
  old : ∀ a o, H a = some o → F' a = F a
theorem Grow.ff {F H F' H' : Hp} (g : Grow F H F' H') (s : Same F H) : Same F F' := fun a o e => by
  rw [g.old a o (s a o e)]; exact e
theorem Grow.refl {F H : Hp} (s : Same F H) (t : TupC F H) : Grow F H F H := ⟨s, t, Same.refl H, fun _ _ _ => rfl⟩
theorem Grow.trans {F H F1 H1 F2 H2 : Hp} (a : Grow F H F1 H1) (b : Grow F1 H1 F2 H2) : Grow F H F2 H2 :=
  ⟨b.sub, b.tups, a.hh.trans b.hh, fun c o e => (b.old c o (a.hh c o e)).trans (a.old c o e)⟩
/-- a new frozen object -/
theorem Grow.new {F H : Hp} {p : Addr} {o : HO} (s : Same F H) (t : TupC F H) (n : H p = none) : Grow F H (upd F p o) (upd H p o) := by
  have nf : F p = none := s.free n
  refine ⟨fun a u e => ?_, fun a u e z => ?_, fun a u e => ?_, fun a u e => ?_⟩
  · by_cases h : a = p
    · subst h; rw [upd_same] at e ⊢; exact e
    · rw [upd_ne h] at e ⊢; exact s a u e
  · by_cases h : a = p
    · subst h; rw [upd_same] at e ⊢; exact e
    · rw [upd_ne h] at e ⊢; exact t a u e z
  · rw [upd_ne (ne_of_none e n)]; exact e
  · rw [upd_ne (ne_of_none e n)]
/-- a new object that is not frozen (no tuple) -/
theorem Grow.own {F H : Hp} {p : Addr} {o : HO} (s : Same F H) (t : TupC F H) (n : H p = none) (nt : isT o = false) : Grow F H F (upd H p o) := by
  refine ⟨fun a u e => ?_, fun a u e z => ?_, fun a u e => ?_, fun a u e => rfl⟩
  · rw [upd_ne (ne_of_none (s a u e) n)]; exact s a u e
  · by_cases h : a = p
    · subst h; rw [upd_same] at e; cases e; rw [nt] at z; cases z
    · rw [upd_ne h] at e; exact t a u e z
  · rw [upd_ne (ne_of_none e n)]; exact e

/-! ## own trees -/
mutual
inductive Own (K : PySem.W.Frag) (cl : Nat → Addr) (F H : Hp) : V → O → List Addr → Prop
  | val {v : V} {d : D} : Rep K cl F v d → Own K cl F H v (.val d) []
  | lst {a : Addr} {vs : List V} {os : List O} {fp : List Addr} : H a = some (.lst vs) → OwnL K cl F H vs os fp → Own K cl F H (.ref a) (.lst os) (a :: fp)
  | tup {a : Addr} {vs : List V} {os : List O} {fp : List Addr} : Rd H a (.tup vs) → OwnL K cl F H vs os fp → Own K cl F H (.ref a) (.tup os) fp
  | dct {a : Addr} {kvs : List (Key × V)} {ds : List (D × D)} : H a = some (.dK kvs) → RepD K cl F kvs ds → Own K cl F H (.ref a) (.dct ds) [a]
  | ins {a dx : Addr} {c : Nat} {fs : List (Str × V)} {os : List (Str × O)} {fp : List Addr} : H a = some (.ins (cl c) dx fs) → OwnF K cl F H fs os fp → Own K cl F H (.ref a) (.ins c os) (a :: fp)
inductive OwnL (K : PySem.W.Frag) (cl : Nat → Addr) (F H : Hp) : List V → List O → List Addr → Prop
  | nil : OwnL K cl F H [] [] []
  | cons {v : V} {o : O} {vs : List V} {os : List O} {fp fq : List Addr} : Own K cl F H v o fp → OwnL K cl F H vs os fq → OwnL K cl F H (v :: vs) (o :: os) (fp ++ fq)
inductive OwnF (K : PySem.W.Frag) (cl : Nat → Addr) (F H : Hp) : List (Str × V) → List (Str × O) → List Addr → Prop
  | nil : OwnF K cl F H [] [] []
  | cons {x : Str} {v : V} {o : O} {vs : List (Str × V)} {os : List (Str × O)} {fp fq : List Addr} : Own K cl F H v o fp → OwnF K cl F H vs os fq → OwnF K cl F H ((x, v) :: vs) ((x, o) :: os) (fp ++ fq)
end
section
variable {K : PySem.W.Frag} {cl : Nat → Addr} {F H F' H' : Hp}
mutual
theorem Own.keep (s : Same F F') (t : ∀ a xs, Rd H a (.tup xs) → Rd H' a (.tup xs)) : ∀ {v : V} {o : O} {fp : List Addr}, Own K cl F H v o fp → (∀ a ∈ fp, H' a = H a) → Own K cl F' H' v o fp
  | _, _, _, .val h, _ => .val (h.mono s)
  | _, _, _, .lst h r, k => .lst ((k _ List.mem_cons_self).trans h) (OwnL.keep s t r fun a m => k a (List.mem_cons_of_mem _ m))
  | _, _, _, .tup h r, k => .tup (t _ _ h) (OwnL.keep s t r k)
  | _, _, _, .dct h r, k => .dct ((k _ List.mem_cons_self).trans h) (r.mono s)
  | _, _, _, .ins h r, k => .ins ((k _ List.mem_cons_self).trans h) (OwnF.keep s t r fun a m => k a (List.mem_cons_of_mem _ m))
theorem OwnL.keep (s : Same F F') (t : ∀ a xs, Rd H a (.tup xs) → Rd H' a (.tup xs)) : ∀ {vs : List V} {os : List O} {fp : List Addr}, OwnL K cl F H vs os fp → (∀ a ∈ fp, H' a = H a) → OwnL K cl F' H' vs os fp
  | _, _, _, .nil, _ => .nil
  | _, _, _, .cons h r, k => .cons (Own.keep s t h fun a m => k a (List.mem_append_left _ m)) (OwnL.keep s t r fun a m => k a (List.mem_append_right _ m))
theorem OwnF.keep (s : Same F F') (t : ∀ a xs, Rd H a (.tup xs) → Rd H' a (.tup xs)) : ∀ {vs : List (Str × V)} {os : List (Str × O)} {fp : List Addr}, OwnF K cl F H vs os fp → (∀ a ∈ fp, H' a = H a) → OwnF K cl F' H' vs os fp
  | _, _, _, .nil, _ => .nil
  | _, _, _, .cons h r, k => .cons (Own.keep s t h fun a m => k a (List.mem_append_left _ m)) (OwnF.keep s t r fun a m => k a (List.mem_append_right _ m))
end
mutual
theorem Own.there : ∀ {v : V} {o : O} {fp : List Addr}, Own K cl F H v o fp → ∀ a ∈ fp, ∃ u, H a = some u ∧ isT u = false
  | _, _, _, .val _, _, m => by simp at m
  | _, _, _, .lst h r, b, m => by
    rcases List.mem_cons.mp m with e | m
    · subst e; exact ⟨_, h, rfl⟩
    · exact OwnL.there r b m
  | _, _, _, .tup h r, b, m => OwnL.there r b m
  | _, _, _, .dct h r, b, m => by
    rcases List.mem_cons.mp m with e | m
    · subst e; exact ⟨_, h, rfl⟩
    · simp at m
  | _, _, _, .ins h r, b, m => by
    rcases List.mem_cons.mp m with e | m
    · subst e; exact ⟨_, h, rfl⟩
    · exact OwnF.there r b m
theorem OwnL.there : ∀ {vs : List V} {os : List O} {fp : List Addr}, OwnL K cl F H vs os fp → ∀ a ∈ fp, ∃ u, H a = some u ∧ isT u = false
  | _, _, _, .nil, _, m => by simp at m
  | _, _, _, .cons h r, b, m => by
    rcases List.mem_append.mp m with m | m
    · exact Own.there h b m
    · exact OwnL.there r b m
theorem OwnF.there : ∀ {vs : List (Str × V)} {os : List (Str × O)} {fp : List Addr}, OwnF K cl F H vs os fp → ∀ a ∈ fp, ∃ u, H a = some u ∧ isT u = false
  | _, _, _, .nil, _, m => by simp at m
  | _, _, _, .cons h r, b, m => by
    rcases List.mem_append.mp m with m | m
    · exact Own.there h b m
    · exact OwnF.there r b m
end
end

/-! ## the slots -/
/-- B: the addresses that stood at the def's entry and are not its own -/
structure Rel (K : PySem.W.Frag) (cl : Nat → Addr) (B : Hp) (F H : Hp) (σ : St) (ρ : Env) : Prop where
  sub : Same F H
  tups : TupC F H
  len : σ.length = ρ.length
  slots : ∃ fp : Nat → List Addr, (∀ i o, ρ[i]? = some (some o) → ∃ v, σ[i]? = some (some v) ∧ Own K cl F H v o (fp i)) ∧
    (∀ i, (fp i).Nodup) ∧ (∀ i j a, i ≠ j → a ∈ fp i → a ∉ fp j) ∧ ∀ i a, a ∈ fp i → F a = none ∧ B a = none ∧ ∃ u, H a = some u

section
variable {K : PySem.W.Frag} {cl : Nat → Addr} {B F H F' H' : Hp} {σ : St} {ρ : Env}
theorem Rel.grow (R : Rel K cl B F H σ ρ) (g : Grow F H F' H') : Rel K cl B F' H' σ ρ := by
  obtain ⟨fp, h1, h2, h3, h4⟩ := R.slots
  refine ⟨g.sub, g.tups, R.len, fp, fun i o e => ?_, h2, h3, fun i a m => ?_⟩
  · obtain ⟨v, e1, w⟩ := h1 i o e
    refine ⟨v, e1, w.keep (g.ff R.sub) (fun a xs q => Same.rd g.hh q) fun a m => ?_⟩
    obtain ⟨_, _, u, q⟩ := h4 i a m
    rw [q]; exact g.hh a u q
  · obtain ⟨p1, p2, u, q⟩ := h4 i a m
    exact ⟨(g.old a u q).trans p1, p2, u, g.hh a u q⟩
/-- a slot gets a value -/
theorem Rel.set (R : Rel K cl B F H σ ρ) {v : V} {d : D} (i : Nat) (r : Rep K cl F v d) : Rel K cl B F H (σ.set i (some v)) (ρ.set i (some (.val d))) := by
  obtain ⟨fp, h1, h2, h3, h4⟩ := R.slots
  refine ⟨R.sub, R.tups, by simp [R.len], fun j => if j = i then [] else fp j, fun j o e => ?_, fun j => ?_, fun j k a n m => ?_, fun j a m => ?_⟩
  · by_cases hj : j = i
    · subst hj
      have hl : j < ρ.length := by
        have := (List.getElem?_eq_some_iff.mp e).1
        simpa using this
      rw [List.getElem?_set_self hl] at e
      cases e
      exact ⟨v, by rw [List.getElem?_set_self (by rw [R.len]; exact hl)], by simp only [if_true]; exact .val r⟩
    · rw [List.getElem?_set_ne (Ne.symm hj)] at e
      obtain ⟨v', e1, w⟩ := h1 j o e
      exact ⟨v', by rw [List.getElem?_set_ne (Ne.symm hj)]; exact e1, by simp only [if_neg hj]; exact w⟩
  · by_cases hj : j = i
    · simp [hj]
    · simp only [if_neg hj]; exact h2 j
  · by_cases hj : j = i
    · simp [hj] at m
    · simp only [if_neg hj] at m
      by_cases hk : k = i
      · simp [hk]
      · simp only [if_neg hk]; exact h3 j k a n m
  · by_cases hj : j = i
    · simp [hj] at m
    · simp only [if_neg hj] at m
      exact h4 j a m
theorem Rel.get (R : Rel K cl B F H σ ρ) {i : Nat} {o : O} (e : ρ[i]? = some (some o)) : ∃ v fp, σ[i]? = some (some v) ∧ Own K cl F H v o fp := by
  obtain ⟨fp, h1, _⟩ := R.slots
  obtain ⟨v, e1, w⟩ := h1 i o e
  exact ⟨v, _, e1, w⟩
/-- forgetting slots -/
theorem Rel.weak (R : Rel K cl B F H σ ρ) {σ' : St} {ρ' : Env} (hl : σ'.length = ρ'.length) (h : ∀ (i : Nat) (o : O), ρ'[i]? = some (some o) → ρ[i]? = some (some o) ∧ σ'[i]? = σ[i]?) : Rel K cl B F H σ' ρ' := by
  obtain ⟨fp, h1, h2, h3, h4⟩ := R.slots
  refine ⟨R.sub, R.tups, hl, fp, fun i o e => ?_, h2, h3, h4⟩
  obtain ⟨e1, e2⟩ := h i o e
  obtain ⟨v, e3, w⟩ := h1 i o e1
  exact ⟨v, e2.trans e3, w⟩
end

/-! ## readings of expressions -/
/-- W: what is wanted of an error of the class c -/
abbrev Wish := Nat → Hp → Prop
abbrev noW : Wish := fun _ _ => False
def out (K : PySem.W.Frag) (cl : Nat → Addr) (W : Wish) (r : Res D) (F H : Hp) (Q : VK) : Prop := match r with
  | .ok d => ∀ F' H' v, Grow F H F' H' → Rep K cl F' v d → Q v H'
  | .err c => ∀ H', Same H H' → W c H'
  | .stuck => False
def outB (K : PySem.W.Frag) (cl : Nat → Addr) (W : Wish) (r : Res D) (F H : Hp) (Q : VK) : Prop := match r with
  | .ok d => ∀ F' H' v, Grow F H F' H' → RepB K cl F' H' v d → Q v H'
  | .err c => ∀ H', Same H H' → W c H'
  | .stuck => False
def outT (W : Wish) (r : Res Bool) (F H : Hp) (Q : Bool → Hp → Prop) : Prop := match r with
  | .ok b => ∀ F' H', Grow F H F' H' → Q b H'
  | .err c => ∀ H', Same H H' → W c H'
  | .stuck => False
def outA (K : PySem.W.Frag) (cl : Nat → Addr) (W : Wish) (r : Res (List D)) (F H : Hp) (Q : List V → Hp → Prop) : Prop := match r with
  | .ok ds => ∀ F' H' vs, Grow F H F' H' → RepL K cl F' vs ds → Q vs H'
  | .err c => ∀ H', Same H H' → W c H'
  | .stuck => False
def tE (K : PySem.W.Frag) (cl : Nat → Addr) (W : Wish) (m : ME) : TE := fun σ H Q => ∃ B F ρ, Rel K cl B F H σ ρ ∧ out K cl W (m ρ) F H Q
def tB (K : PySem.W.Frag) (cl : Nat → Addr) (W : Wish) (m : ME) : TE := fun σ H Q => ∃ B F ρ, Rel K cl B F H σ ρ ∧ outB K cl W (m ρ) F H Q
def tT (K : PySem.W.Frag) (cl : Nat → Addr) (W : Wish) (m : Env → Res Bool) : TT := fun σ H Q => ∃ B F ρ, Rel K cl B F H σ ρ ∧ outT W (m ρ) F H Q
def tA (K : PySem.W.Frag) (cl : Nat → Addr) (W : Wish) (m : Env → Res (List D)) : TA := fun σ H Q => ∃ B F ρ, Rel K cl B F H σ ρ ∧ outA K cl W (m ρ) F H Q

theorem PEi {X : Cx} {e : Expr} {t t' : TE} (h : PE X e t) (i : ∀ σ H Q, t' σ H Q → t σ H Q) : PE X e t' := ⟨fun pins s σ H Q I q => h.run pins s σ H Q I (i σ H Q q)⟩
theorem PTi {X : Cx} {e : Expr} {t t' : TT} (h : PT X e t) (i : ∀ σ H Q, t' σ H Q → t σ H Q) : PT X e t' := ⟨fun pins s σ H Q I q => h.run pins s σ H Q I (i σ H Q q)⟩
theorem PWi {X : Cx} {e : Expr} {t t' : TT} (h : PW X e t) (i : ∀ σ H Q, t' σ H Q → t σ H Q) : PW X e t' := ⟨fun wh pins s σ H Q I q => h.run wh pins s σ H Q I (i σ H Q q)⟩
theorem PAi {X : Cx} {e : List Expr} {t t' : TA} (h : PA X e t) (i : ∀ σ H Q, t' σ H Q → t σ H Q) : PA X e t' := ⟨fun pos pins s σ H Q I q => h.run pos pins s σ H Q I (i σ H Q q)⟩
theorem PSi {X : Cx} {e : Stmt} {t t' : TS} (h : PS X e t) (i : ∀ D σ H, t' D σ H → t D σ H) : PS X e t' := ⟨fun pins s σ H D I q => h.run pins s σ H D I (i D σ H q)⟩
theorem PSsi {X : Cx} {e : List Stmt} {t t' : TS} (h : PSs X e t) (i : ∀ D σ H, t' D σ H → t D σ H) : PSs X e t' := ⟨fun pins s σ H D I q => h.run pins s σ H D I (i D σ H q)⟩

section
variable {K : PySem.W.Frag} {cl : Nat → Addr} {W : Wish} {B F H : Hp} {σ : St} {ρ : Env}
theorem out_toB {r : Res D} {Q : VK} (h : outB K cl W r F H Q) : out K cl W r F H Q := by
  cases r with
  | ok d => exact fun F' H' v g r => h F' H' v g (r.toB g.sub)
  | err c => exact h
  | stuck => exact h
theorem pe_B {X : Cx} {e : Expr} {m : ME} (h : PE X e (tE K cl W m)) : PE X e (tB K cl W m) :=
  PEi h fun σ H Q ⟨B, F, ρ, R, q⟩ => ⟨B, F, ρ, R, out_toB q⟩
/-- run a part, go on with its datum -/
theorem thenE {m : ME} {f : D → Res D} {Q Q' : VK} (R : Rel K cl B F H σ ρ) (q : out K cl W ((m ρ).bind f) F H Q) (k : ∀ d F1 H1 v, m ρ = .ok d → Grow F H F1 H1 → Rep K cl F1 v d → out K cl W (f d) F1 H1 Q → Q' v H1) : tE K cl W m σ H Q' := by
  refine ⟨B, F, ρ, R, ?_⟩
  cases e : m ρ with
  | ok d =>
    rw [e] at q
    intro F1 H1 v g r
    refine k d F1 H1 v e g r ?_
    show out K cl W (f d) F1 H1 Q
    have q : out K cl W (f d) F H Q := q
    cases e2 : f d with
    | ok d2 => rw [e2] at q; exact fun F2 H2 v2 g2 r2 => q F2 H2 v2 (g.trans g2) r2
    | err c => rw [e2] at q; exact fun H2 s2 => q H2 (g.hh.trans s2)
    | stuck => rw [e2] at q; exact q
  | err c => rw [e] at q; exact q
  | stuck => rw [e] at q; exact q
theorem thenB {m : ME} {f : D → Res D} {Q Q' : VK} (R : Rel K cl B F H σ ρ) (q : out K cl W ((m ρ).bind f) F H Q) (k : ∀ d F1 H1 v, m ρ = .ok d → Grow F H F1 H1 → RepB K cl F1 H1 v d → out K cl W (f d) F1 H1 Q → Q' v H1) : tB K cl W m σ H Q' := by
  refine ⟨B, F, ρ, R, ?_⟩
  cases e : m ρ with
  | ok d =>
    rw [e] at q
    intro F1 H1 v g r
    refine k d F1 H1 v e g r ?_
    show out K cl W (f d) F1 H1 Q
    have q : out K cl W (f d) F H Q := q
    cases e2 : f d with
    | ok d2 => rw [e2] at q; exact fun F2 H2 v2 g2 r2 => q F2 H2 v2 (g.trans g2) r2
    | err c => rw [e2] at q; exact fun H2 s2 => q H2 (g.hh.trans s2)
    | stuck => rw [e2] at q; exact q
  | err c => rw [e] at q; exact q
  | stuck => rw [e] at q; exact q
end
end CH
namespace CH
open PySem PySem.Spec L2

/-! ## names, constants -/
def mVar (i : Nat) : ME := fun ρ => match ρ[i]? with
  | some (some (.val d)) => .ok d
  | _ => .stuck
def mC (d : D) : ME := fun _ => .ok d
def vals : List O → Option (List D)
  | [] => some []
  | .val d :: r => (vals r).map (d :: ·)
  | _ :: _ => none
/-- an own container seen as a datum -/
def O.view : O → Res D
  | .val d => .ok d
  | .lst os => match vals os with
    | some ds => .ok (.lst ds)
    | none => .stuck
  | .dct kvs => .ok (.dct kvs)
  | _ => .stuck
def mVarB (i : Nat) : ME := fun ρ => match ρ[i]? with
  | some (some o) => o.view
  | _ => .stuck
section
variable {X : Cx} {cl : Nat → Addr} {W : Wish}
theorem OwnL.vals {K : PySem.W.Frag} {F H : Hp} : ∀ {vs : List V} {os : List O} {fp : List Addr} {ds : List D}, OwnL K cl F H vs os fp → CH.vals os = some ds → RepL K cl F vs ds
  | _, _, _, _, .nil, e => by cases e; exact .nil
  | _, _, _, _, .cons (.val h) r, e => by
    simp only [CH.vals, Option.map_eq_some_iff] at e
    obtain ⟨es, e1, e2⟩ := e
    subst e2
    exact .cons h (OwnL.vals r e1)
  | _, _, _, _, .cons (.lst _ _) _, e => by simp [CH.vals] at e
  | _, _, _, _, .cons (.tup _ _) _, e => by simp [CH.vals] at e
  | _, _, _, _, .cons (.dct _ _) _, e => by simp [CH.vals] at e
  | _, _, _, _, .cons (.ins _ _) _, e => by simp [CH.vals] at e
theorem Own.view {K : PySem.W.Frag} {F H : Hp} {v : V} {o : O} {fp : List Addr} {d : D} (s : Same F H) (h : Own K cl F H v o fp) (e : o.view = .ok d) : RepB K cl F H v d := by
  cases h with
  | val h => cases e; exact h.toB s
  | lst h r =>
    simp only [O.view] at e
    split at e
    · rename_i ds q
      cases e
      exact ⟨_, _, rfl, .inl (.inl h), OwnL.vals r q⟩
    · cases e
  | tup h r => simp [O.view] at e
  | dct h r => cases e; exact ⟨_, _, rfl, .inl h, r⟩
  | ins h r => simp [O.view] at e
theorem ve_var {i : Nat} {x : Str} {pos : Pos} (hN : X.N[i]? = some x) (hv : Vis X.env.scope x) (hd : (x == ("__debug__" : Str)) = false := by decide) (hcd : (x == ("__classdict__" : Str)) = false := by decide) : PE X (.Name x pos) (tE X.K cl W (mVar i)) := by
  refine PEi (pe_var hN hv hd hcd) fun σ H Q ⟨B, F, ρ, R, q⟩ => ?_
  unfold mVar at q
  split at q
  · rename_i d e
    obtain ⟨v, fp, e1, w⟩ := R.get e
    cases w with
    | val r => exact ⟨v, e1, q F H v (Grow.refl R.sub R.tups) r⟩
  · exact False.elim q
theorem ve_varB {i : Nat} {x : Str} {pos : Pos} (hN : X.N[i]? = some x) (hv : Vis X.env.scope x) (hd : (x == ("__debug__" : Str)) = false := by decide) (hcd : (x == ("__classdict__" : Str)) = false := by decide) : PE X (.Name x pos) (tB X.K cl W (mVarB i)) := by
  refine PEi (pe_var hN hv hd hcd) fun σ H Q ⟨B, F, ρ, R, q⟩ => ?_
  unfold mVarB at q
  split at q
  · rename_i o e
    obtain ⟨v, fp, e1, w⟩ := R.get e
    refine ⟨v, e1, ?_⟩
    cases e2 : o.view with
    | ok d => rw [e2] at q; exact q F H v (Grow.refl R.sub R.tups) (w.view R.sub e2)
    | err c => cases o <;> simp [O.view] at e2; split at e2 <;> cases e2
    | stuck => rw [e2] at q; exact False.elim q
  · exact False.elim q
theorem out_c {K : PySem.W.Frag} {F H : Hp} {d : D} {v : V} {Q : VK} (s : Same F H) (t : TupC F H) (r : Rep K cl F v d) (q : out K cl W (.ok d) F H Q) : Q v H := q F H v (Grow.refl s t) r
theorem ve_int {i j pos} : PE X (.Constant (.int i) j pos) (tE X.K cl W (mC (.int i))) := PEi pe_int fun σ H Q ⟨B, F, ρ, R, q⟩ => out_c R.sub R.tups (.int i) q
theorem ve_bl {b j pos} : PE X (.Constant (.bool b) j pos) (tE X.K cl W (mC (.bl b))) := PEi pe_bl fun σ H Q ⟨B, F, ρ, R, q⟩ => out_c R.sub R.tups (.bl b) q
theorem ve_non {j pos} : PE X (.Constant .none j pos) (tE X.K cl W (mC .non)) := PEi pe_non fun σ H Q ⟨B, F, ρ, R, q⟩ => out_c R.sub R.tups .non q
theorem ve_str {x j pos} : PE X (.Constant (.str x) j pos) (tE X.K cl W (mC (.str x))) := PEi pe_str fun σ H Q ⟨B, F, ρ, R, q⟩ => out_c R.sub R.tups (.str x) q
/-- a module's constant -/
theorem ve_glob {x : Str} {v : V} {u : Value} {d : D} {pos : Pos} (hg : Gl X x) (hm : X.mg x = some u) (r : RelV v u) (hr : ∀ F, Rep X.K cl F v d) (hd : (x == ("__debug__" : Str)) = false := by decide) : PE X (.Name x pos) (tE X.K cl W (mC d)) :=
  PEi (pe_glob hg hm r hd) fun σ H Q ⟨B, F, ρ, R, q⟩ => out_c R.sub R.tups (hr F) q
end

/-! ## one and two operands -/
def m1 (f : D → Res D) (a : ME) : ME := fun ρ => (a ρ).bind f
def m2 (f : D → D → Res D) (a b : ME) : ME := fun ρ => (a ρ).bind fun x => (b ρ).bind fun y => f x y
def Op1 (K : PySem.W.Frag) (cl : Nat → Addr) (f : D → Res D) (r : V → Hp → VK → Prop) : Prop := ∀ (W : Wish) (F H : Hp) (Q : VK) (v : V) (x : D), Same F H → TupC F H → RepB K cl F H v x → out K cl W (f x) F H Q → r v H Q
def Op2 (K : PySem.W.Frag) (cl : Nat → Addr) (f : D → D → Res D) (r : R2) : Prop := ∀ (W : Wish) (F H : Hp) (Q : VK) (v w : V) (x y : D), Same F H → TupC F H → RepB K cl F H v x → RepB K cl F H w y → out K cl W (f x y) F H Q → r v w H Q
section
variable {X : Cx} {cl : Nat → Addr} {W : Wish} {a b : Expr} {ma mb : ME} {pos : Pos}
theorem t_1 {f : D → Res D} {r : V → Hp → VK → Prop} (h : Op1 X.K cl f r) : ∀ σ H Q, tE X.K cl W (m1 f ma) σ H Q → tB X.K cl W ma σ H fun x H1 => r x H1 Q :=
  fun σ H Q ⟨B, F, ρ, R, q⟩ => thenB R q fun x F1 H1 v _ g1 r1 q1 => h W F1 H1 Q v x g1.sub g1.tups r1 q1
theorem t_2 {f : D → D → Res D} {r : R2} (h : Op2 X.K cl f r) : ∀ σ H Q, tE X.K cl W (m2 f ma mb) σ H Q → tOp r (tB X.K cl W ma) (tB X.K cl W mb) σ H Q :=
  fun σ H Q ⟨B, F, ρ, R, q⟩ => thenB R q fun x F1 H1 v _ g1 r1 q1 => thenB (R.grow g1) q1 fun y F2 H2 w _ g2 r2 q2 =>
    h W F2 H2 Q v w x y g2.sub g2.tups (r1.mono (g2.ff g1.sub) g2.hh) r2 q2
theorem ve_op {op : Operator} {f : D → D → Res D} {r : R2} (ho : OpR X (binaryOp op) r) (h : Op2 X.K cl f r) (ha : PE X a (tB X.K cl W ma)) (hb : PE X b (tB X.K cl W mb)) : PE X (.BinOp a op b pos) (tE X.K cl W (m2 f ma mb)) :=
  PEi (pe_op ho ha hb) (t_2 h)
theorem ve_un {op : UnaryOp} {f : D → Res D} {r : V → Hp → VK → Prop} (ho : UnR X (unaryOp op) r) (h : Op1 X.K cl f r) (ha : PE X a (tB X.K cl W ma)) : PE X (.UnaryOp op a pos) (tE X.K cl W (m1 f ma)) :=
  PEi (pe_un ho ha) (t_1 h)
theorem ve_cmp {op : CmpOp} {f : D → D → Res D} {r : R2} (ho : OpR X (compareOp op) r) (h : Op2 X.K cl f r) (ha : PE X a (tB X.K cl W ma)) (hb : PE X b (tB X.K cl W mb)) (hm : behindInMarks op b = false) : PE X (.Compare a [op] [b] pos) (tE X.K cl W (m2 f ma mb)) :=
  PEi (pe_cmpR ho ha hb hm) (t_2 h)
theorem ve_ix {f : D → D → Res D} {r : R2} (ho : IxR X r) (h : Op2 X.K cl f r) (ha : PE X a (tB X.K cl W ma)) (hb : PE X b (tB X.K cl W mb)) (hs : PlainIx b) : PE X (.Subscript a b pos) (tE X.K cl W (m2 f ma mb)) :=
  PEi (pe_ix ho ha hb hs) (t_2 h)
/-- f(a), f a built-in -/
theorem ve_callB {x : Str} {id : String} {p : Pos} {f : D → Res D} {r : List V → Hp → VK → Prop} (hc : CallR X (.builtin id) r) (h : Op1 X.K cl f fun v H Q => r [v] H Q) (hg : Gl X x) (hm : X.mg x = none) (hv : bootBuiltins x = some (.builtin id)) (ha : PE X a (tB X.K cl W ma)) (hn : x ≠ "__name__" := by decide) (hdb : (x == ("__debug__" : Str)) = false := by decide)
    (hs : starEach [a] X.env = (false, eval a X.env) :: starEach [] X.env := by rfl) : PE X (.Call (.Name x p) [a] [] pos) (tE X.K cl W (m1 f ma)) :=
  PEi (pe_callB hc hg hm hv (pa_cons ha pa_nil hs) hn hdb hs rfl) fun σ H Q q => t_1 h σ H Q q
theorem ve_callTy {x : Str} {T : String} {p : Pos} {f : D → Res D} {r : List V → Hp → VK → Prop} (hc : CallR X (.type T) r) (h : Op1 X.K cl f fun v H Q => r [v] H Q) (hg : Gl X x) (hm : X.mg x = none) (hv : bootBuiltins x = some (.type T)) (ha : PE X a (tB X.K cl W ma)) (hn : x ≠ "__name__" := by decide) (hdb : (x == ("__debug__" : Str)) = false := by decide)
    (hs : starEach [a] X.env = (false, eval a X.env) :: starEach [] X.env := by rfl) : PE X (.Call (.Name x p) [a] [] pos) (tE X.K cl W (m1 f ma)) :=
  PEi (pe_callTy hc hg hm hv (pa_cons ha pa_nil hs) hn hdb hs rfl) fun σ H Q q => t_1 h σ H Q q
end

/-! ## tests -/
def mTest (a : ME) : Env → Res Bool := fun ρ => (a ρ).bind fun d => match d with
  | .bl b => .ok b
  | _ => .stuck
def mNot (a : Env → Res Bool) : Env → Res Bool := fun ρ => (a ρ).bind fun b => .ok (!b)
def mAnd (a b : Env → Res Bool) : Env → Res Bool := fun ρ => (a ρ).bind fun x => if x then b ρ else .ok false
def mOr (a b : Env → Res Bool) : Env → Res Bool := fun ρ => (a ρ).bind fun x => if x then .ok true else b ρ
def mNotV (a : ME) : ME := fun ρ => (mTest a ρ).bind fun b => .ok (.bl (!b))
def mAndV (a b : ME) : ME := fun ρ => (mTest a ρ).bind fun x => if x then b ρ else .ok (.bl false)
def mOrV (a b : ME) : ME := fun ρ => (mTest a ρ).bind fun x => if x then .ok (.bl true) else b ρ
def mIfE (c : Env → Res Bool) (a b : ME) : ME := fun ρ => (c ρ).bind fun x => if x then a ρ else b ρ
section
variable {X : Cx} {cl : Nat → Addr} {W : Wish} {a b c : Expr} {ma mb : ME} {na nb nc : Env → Res Bool} {pos : Pos} {rest : List Expr}
theorem rep_bl {K : PySem.W.Frag} {F : Hp} {v : V} {d : D} {b : Bool} (r : Rep K cl F v d) (e : d = .bl b) : v = .bl b := by subst e; cases r; rfl
/-- run a test, go on -/
theorem thenT {K : PySem.W.Frag} {B F H : Hp} {σ : St} {ρ : Env} {m : Env → Res Bool} {α : Type} {f : Bool → Res α} {P : Res α → Hp → Hp → Prop} {Q' : Bool → Hp → Prop} (R : Rel K cl B F H σ ρ) (q : P ((m ρ).bind f) F H)
    (he : ∀ c, P (.err c) F H → ∀ H', Same H H' → W c H') (hk : P .stuck F H → False)
    (k : ∀ b F1 H1, m ρ = .ok b → Grow F H F1 H1 → P (f b) F H → Q' b H1) : tT K cl W m σ H Q' := by
  refine ⟨B, F, ρ, R, ?_⟩
  cases e : m ρ with
  | ok b => rw [e] at q; exact fun F1 H1 g => k b F1 H1 e g q
  | err c => rw [e] at q; exact he c q
  | stuck => rw [e] at q; exact hk q
theorem outT_grow {F H F1 H1 : Hp} {r : Res Bool} {Q : Bool → Hp → Prop} (g : Grow F H F1 H1) (q : outT W r F H Q) : outT W r F1 H1 Q := by
  cases r with
  | ok b => exact fun F2 H2 g2 => q F2 H2 (g.trans g2)
  | err c => exact fun H2 s2 => q H2 (g.hh.trans s2)
  | stuck => exact q
theorem out_grow {K : PySem.W.Frag} {F H F1 H1 : Hp} {r : Res D} {Q : VK} (g : Grow F H F1 H1) (q : out K cl W r F H Q) : out K cl W r F1 H1 Q := by
  cases r with
  | ok b => exact fun F2 H2 v g2 => q F2 H2 v (g.trans g2)
  | err c => exact fun H2 s2 => q H2 (g.hh.trans s2)
  | stuck => exact q
theorem thenTT {K : PySem.W.Frag} {B F H : Hp} {σ : St} {ρ : Env} {m : Env → Res Bool} {f : Bool → Res Bool} {Q Q' : Bool → Hp → Prop} (R : Rel K cl B F H σ ρ) (q : outT W ((m ρ).bind f) F H Q)
    (k : ∀ b F1 H1, Grow F H F1 H1 → outT W (f b) F1 H1 Q → Q' b H1) : tT K cl W m σ H Q' :=
  thenT (P := fun r F H => outT W r F H Q) R q (fun c h => h) (fun h => h) fun b F1 H1 _ g q1 => k b F1 H1 g (outT_grow g q1)
theorem thenTE {K : PySem.W.Frag} {B F H : Hp} {σ : St} {ρ : Env} {m : Env → Res Bool} {f : Bool → Res D} {Q : VK} {Q' : Bool → Hp → Prop} (R : Rel K cl B F H σ ρ) (q : out K cl W ((m ρ).bind f) F H Q)
    (k : ∀ b F1 H1, Grow F H F1 H1 → out K cl W (f b) F1 H1 Q → Q' b H1) : tT K cl W m σ H Q' :=
  thenT (P := fun r F H => out K cl W r F H Q) R q (fun c h => h) (fun h => h) fun b F1 H1 _ g q1 => k b F1 H1 g (out_grow g q1)
/-- a value as a test's -/
theorem t_test {K : PySem.W.Frag} : ∀ σ H (Q : Bool → Hp → Prop), tT K cl W (mTest ma) σ H Q → tE K cl W ma σ H fun x H1 => ∃ c, x = .bl c ∧ Q c H1 := by
  rintro σ H Q ⟨B, F, ρ, R, q⟩
  refine ⟨B, F, ρ, R, ?_⟩
  unfold mTest at q
  cases e : ma ρ with
  | ok d =>
    rw [e] at q
    intro F1 H1 v g r
    cases d with
    | bl b => exact ⟨b, by cases r; rfl, q F1 H1 g⟩
    | _ => exact False.elim q
  | err c => rw [e] at q; exact q
  | stuck => rw [e] at q; exact q
theorem vt_val {e : Expr} (h : PE X e (tE X.K cl W ma)) (he : ∀ whole, isTrue e X.env whole = (do let v ← whole; standAt e.pos; holding [v] (truthy v)) := by intro _; rfl) : PT X e (tT X.K cl W (mTest ma)) :=
  PTi (pt_val h he) fun σ H Q q => t_test σ H Q q
theorem vt_cmp {op : CmpOp} {f : D → D → Res D} {r : R2} (ho : OpR X (compareOp op) r) (h : Op2 X.K cl f r) (ha : PE X a (tB X.K cl W ma)) (hb : PE X b (tB X.K cl W mb)) (hm : behindInMarks op b = false) : PT X (.Compare a [op] [b] pos) (tT X.K cl W (mTest (m2 f ma mb))) :=
  PTi (pt_cmpR ho ha hb hm) fun σ H Q q => t_2 h σ H _ (t_test σ H Q q)
theorem vt_not (h : PT X a (tT X.K cl W na)) : PT X (.UnaryOp .Not a pos) (tT X.K cl W (mNot na)) :=
  PTi (pt_not h) fun σ H Q ⟨B, F, ρ, R, q⟩ => thenTT R q fun b F1 H1 g q1 => q1 F1 H1 (Grow.refl g.sub g.tups)
theorem vw_and1 (ha : PT X a (tT X.K cl W na)) : PW X (.BoolOp .And [a] pos) (tT X.K cl W na) := pw_and1 ha
theorem vw_or1 (ha : PT X a (tT X.K cl W na)) : PW X (.BoolOp .Or [a] pos) (tT X.K cl W na) := pw_or1 ha
theorem vw_and (ha : PT X a (tT X.K cl W na)) (hb : PW X (.BoolOp .And (b :: rest) pos) (tT X.K cl W nb)) : PW X (.BoolOp .And (a :: b :: rest) pos) (tT X.K cl W (mAnd na nb)) :=
  PWi (pw_and ha hb) fun σ H Q ⟨B, F, ρ, R, q⟩ => thenTT R q fun b F1 H1 g q1 => by
    cases b with
    | true => exact ⟨B, F1, ρ, R.grow g, q1⟩
    | false => exact q1 F1 H1 (Grow.refl g.sub g.tups)
theorem vw_or (ha : PT X a (tT X.K cl W na)) (hb : PW X (.BoolOp .Or (b :: rest) pos) (tT X.K cl W nb)) : PW X (.BoolOp .Or (a :: b :: rest) pos) (tT X.K cl W (mOr na nb)) :=
  PWi (pw_or ha hb) fun σ H Q ⟨B, F, ρ, R, q⟩ => thenTT R q fun b F1 H1 g q1 => by
    cases b with
    | false => exact ⟨B, F1, ρ, R.grow g, q1⟩
    | true => exact q1 F1 H1 (Grow.refl g.sub g.tups)
/-- .. as values -/
theorem ve_not (h : PE X a (tE X.K cl W ma)) : PE X (.UnaryOp .Not a pos) (tE X.K cl W (mNotV ma)) :=
  PEi (pe_not h) fun σ H Q ⟨B, F, ρ, R, q⟩ => t_test σ H _ (thenTE R q fun b F1 H1 g q1 => q1 F1 H1 _ (Grow.refl g.sub g.tups) (.bl _))
theorem ve_one {op} (h : PE X a (tE X.K cl W ma)) : PE X (.BoolOp op [a] pos) (tE X.K cl W ma) := pe_one h
theorem ve_and (ha : PE X a (tE X.K cl W ma)) (hb : PE X (.BoolOp .And (b :: rest) pos) (tE X.K cl W mb)) : PE X (.BoolOp .And (a :: b :: rest) pos) (tE X.K cl W (mAndV ma mb)) :=
  PEi (pe_and ha hb) fun σ H Q ⟨B, F, ρ, R, q⟩ => t_test σ H _ (thenTE R q fun b F1 H1 g q1 => by
    cases b with
    | true => exact ⟨B, F1, ρ, R.grow g, q1⟩
    | false => exact q1 F1 H1 _ (Grow.refl g.sub g.tups) (.bl _))
theorem ve_or (ha : PE X a (tE X.K cl W ma)) (hb : PE X (.BoolOp .Or (b :: rest) pos) (tE X.K cl W mb)) : PE X (.BoolOp .Or (a :: b :: rest) pos) (tE X.K cl W (mOrV ma mb)) :=
  PEi (pe_or ha hb) fun σ H Q ⟨B, F, ρ, R, q⟩ => t_test σ H _ (thenTE R q fun b F1 H1 g q1 => by
    cases b with
    | false => exact ⟨B, F1, ρ, R.grow g, q1⟩
    | true => exact q1 F1 H1 _ (Grow.refl g.sub g.tups) (.bl _))
theorem ve_ifE (hc : PT X c (tT X.K cl W nc)) (ha : PE X a (tE X.K cl W ma)) (hb : PE X b (tE X.K cl W mb)) : PE X (.IfExp c a b pos) (tE X.K cl W (mIfE nc ma mb)) :=
  PEi (pe_ifExp hc ha hb) fun σ H Q ⟨B, F, ρ, R, q⟩ => thenTE R q fun b F1 H1 g q1 => by
    cases b with
    | true => exact ⟨B, F1, ρ, R.grow g, q1⟩
    | false => exact ⟨B, F1, ρ, R.grow g, q1⟩
end

/-! ## argument lists, displays, calls -/
def evL : List ME → Env → Res (List D)
  | [], _ => .ok []
  | m :: ms, ρ => (m ρ).bind fun d => (evL ms ρ).bind fun ds => .ok (d :: ds)
theorem evL_len : ∀ {ms : List ME} {ρ : Env} {ds : List D}, evL ms ρ = .ok ds → ds.length = ms.length
  | [], _, _, e => by cases e; rfl
  | m :: ms, ρ, ds, e => by
    unfold evL at e
    cases e1 : m ρ with
    | ok d =>
      rw [e1] at e
      simp only [Res.bind_ok] at e
      cases e2 : evL ms ρ with
      | ok es => rw [e2] at e; cases e; rw [List.length_cons, List.length_cons, evL_len e2]
      | err c => rw [e2] at e; cases e
      | stuck => rw [e2] at e; cases e
    | err c => rw [e1] at e; cases e
    | stuck => rw [e1] at e; cases e
def mTup (ms : List ME) : ME := fun ρ => (evL ms ρ).bind fun ds => .ok (.tup ds)
def mLst (ms : List ME) : ME := fun ρ => (evL ms ρ).bind fun ds => .ok (.lst ds)
def mCall (f : List D → Res D) (ms : List ME) : ME := fun ρ => (evL ms ρ).bind f
section
variable {X : Cx} {cl : Nat → Addr} {W : Wish} {e : Expr} {es : List Expr} {m : ME} {ms : List ME} {pos : Pos}
theorem thenA {K : PySem.W.Frag} {B F H : Hp} {σ : St} {ρ : Env} {m : Env → Res (List D)} {f : List D → Res D} {Q : VK} {Q' : List V → Hp → Prop} (R : Rel K cl B F H σ ρ) (q : out K cl W ((m ρ).bind f) F H Q) (k : ∀ d F1 H1 v, m ρ = .ok d → Grow F H F1 H1 → RepL K cl F1 v d → out K cl W (f d) F1 H1 Q → Q' v H1) : tA K cl W m σ H Q' := by
  refine ⟨B, F, ρ, R, ?_⟩
  cases e : m ρ with
  | ok d => rw [e] at q; exact fun F1 H1 v g r => k d F1 H1 v e g r (out_grow g q)
  | err c => rw [e] at q; exact q
  | stuck => rw [e] at q; exact q
theorem va_nil : PA X [] (tA X.K cl W (evL [])) := PAi pa_nil fun σ H Q ⟨B, F, ρ, R, q⟩ => q F H [] (Grow.refl R.sub R.tups) .nil
theorem va_cons (he : PE X e (tE X.K cl W m)) (hr : PA X es (tA X.K cl W (evL ms))) (hs : starEach (e :: es) X.env = (false, eval e X.env) :: starEach es X.env := by rfl) : PA X (e :: es) (tA X.K cl W (evL (m :: ms))) := by
  refine PAi (pa_cons he hr hs) fun σ H Q ⟨B, F, ρ, R, q⟩ => ⟨B, F, ρ, R, ?_⟩
  unfold evL at q
  cases e1 : m ρ with
  | ok d =>
    rw [e1] at q
    intro F1 H1 v g1 r1
    refine ⟨B, F1, ρ, R.grow g1, ?_⟩
    simp only [Res.bind_ok] at q
    cases e2 : evL ms ρ with
    | ok ds => rw [e2] at q; exact fun F2 H2 vs g2 r2 => q F2 H2 (v :: vs) (g1.trans g2) (.cons (r1.mono (g2.ff g1.sub)) r2)
    | err c => rw [e2] at q; exact fun H2 s2 => q H2 (g1.hh.trans s2)
    | stuck => rw [e2] at q; exact q
  | err c => rw [e1] at q; exact q
  | stuck => rw [e1] at q; exact q
end
/-- a new tuple at a new place -/
def NewT (H : Hp) (xs : List V) (Q : VK) : Prop := ∀ p (o : Obj), H p = none → o.dict = none → Q (.ref p) (upd H p (.frz o (.tup xs)))
section
variable {X : Cx} {pins : List (Addr × Obj)} {σ : St} {H : Hp} {s : Shared} {cl : Nat → Addr} {W : Wish}
theorem Inv.newT {xs : List V} {its : List Value} {t' : Nat} (I : Inv X pins σ H s) (hv : Vals xs its) (hz : xs.length ≤ sizeLine) :
    Inv X pins σ (upd H s.heap.objs.size (.frz { cls := .type "tuple", data := .seq its.toArray } (.tup xs))) { s with heap := s.heap.push { cls := .type "tuple", data := .seq its.toArray }, toks := t' } :=
  I.laid (fun _ _ q => Heap.get?_push_of_some _ q) (Nat.le_refl _) ⟨Heap.get?_push_size _ rfl, hz, its, hv, ⟨_, Heap.get?_push_size _ rfl, rfl, _, rfl⟩⟩
theorem newT_out {K : PySem.W.Frag} {F : Hp} {xs : List V} {ds : List D} {Q : VK} (s : Same F H) (t : TupC F H) (r : RepL K cl F xs ds) (q : out K cl W (.ok (.tup ds)) F H Q) : NewT H xs Q := fun p o n z =>
  q _ _ _ (Grow.new s t n) (.tup (.inl ⟨o, upd_same, z⟩) (r.mono fun a u e => by rw [upd_ne (ne_of_none (s a u e) n)]; exact e))
theorem newL_out {K : PySem.W.Frag} {F : Hp} {xs : List V} {ds : List D} {Q : VK} {p : Addr} (s : Same F H) (t : TupC F H) (r : RepL K cl F xs ds) (q : out K cl W (.ok (.lst ds)) F H Q) (n : H p = none) : Q (.ref p) (upd H p (.lst xs)) :=
  q _ _ _ (Grow.new s t n) (.lst (.inl (.inl upd_same)) (r.mono fun a u e => by rw [upd_ne (ne_of_none (s a u e) n)]; exact e))
end
section
variable {X : Cx} {cl : Nat → Addr} {W : Wish} {e : Expr} {es : List Expr} {t : TA} {ms : List ME} {pos : Pos}
def tTupF (t : TA) : TE := fun σ H Q => t σ H fun xs H1 => xs.length ≤ sizeLine ∧ NewT H1 xs Q
theorem pe_tupF {x1} (h : PA X es t) : PE X (.Tuple es x1 pos) (tTupF t) := by
  refine ⟨fun pins s σ H Q I hq => ?_⟩
  refine wpAny_Tuple_spliced (thn (h.run pos pins s σ H _ I hq) fun us s1 ⟨xs, H1, I1, r, z, q⟩ => ⟨by rw [← r.length]; exact z, ?_⟩)
  exact ⟨.ref s1.heap.objs.size, _, Inv.newT (t' := s1.toks) I1 r z, rfl, q _ _ (I1.hok.fresh (Nat.le_refl _)) rfl⟩
theorem ve_tup {x1} (h : PA X es (tA X.K cl W (evL ms))) (hl : ms.length ≤ sizeLine := by exact Nat.le_of_ble_eq_true rfl) : PE X (.Tuple es x1 pos) (tE X.K cl W (mTup ms)) :=
  PEi (pe_tupF h) fun σ H Q ⟨B, F, ρ, R, q⟩ => thenA R q fun ds F1 H1 vs e g r q1 => ⟨by rw [r.length, evL_len e]; exact hl, newT_out g.sub g.tups r q1⟩
theorem ve_lst (h : PA X es (tA X.K cl W (evL ms))) (hl : ms.length ≤ sizeLine := by exact Nat.le_of_ble_eq_true rfl) : PE X (.List es pos) (tE X.K cl W (mLst ms)) :=
  PEi (pe_lst h) fun σ H Q ⟨B, F, ρ, R, q⟩ => thenA R q fun ds F1 H1 vs e g r q1 => ⟨by rw [r.length, evL_len e]; exact hl, fun p n => newL_out g.sub g.tups r q1 n⟩
end

/-! ## a def's promise -/
/-- of a def that raises nothing -/
def spF (K : PySem.W.Frag) (cl : Nat → Addr) (n : Nat) (f : List D → Res D) : Sp := fun vs H Q _ => vs.length = n ∧ ∃ F ds, Same F H ∧ TupC F H ∧ RepL K cl F vs ds ∧ out K cl noW (f ds) F H Q
section
variable {X : Cx} {cl : Nat → Addr} {W : Wish} {k : Nat} {f : Addr} {fd : FuncData} {ps : List Str} {g : List D → Res D} {x : Str} {p pos : Pos} {e : Expr} {es : List Expr} {ms : List ME}
theorem out_noW {K : PySem.W.Frag} {r : Res D} {F H : Hp} {Q : VK} (q : out K cl W r.calm F H Q) : out K cl noW r F H Q := by
  cases r with
  | ok d => exact q
  | err c => exact False.elim q
  | stuck => exact q
/-- a call of a def that raises nothing -/
theorem ve_call (G : FnOk X.prog X.w X.K X.mg X.base CX0 k f fd ps (spF X.K cl ps.length g)) (hr : Room k X.A) (hg : Gl X x) (hm : X.mg x = some (.ref f)) (hk : PySem.W.keepIn X.K (.ref f) = true) (hb : Binds X.K fd ps [])
    (ha : PA X (e :: es) (tA X.K cl W (evL ms))) (hl : ms.length = ps.length := by rfl) (hdb : (x == ("__debug__" : Str)) = false := by decide) (he : starEach (e :: es) X.env = (false, eval e X.env) :: starEach es X.env := by rfl) (hpl : (backTo pos (starEach es X.env)).any (·.1) = false := by rfl) :
    PE X (.Call (.Name x p) (e :: es) [] pos) (tE X.K cl W (mCall (fun ds => (g ds).calm) ms)) := by
  refine PEi (pe_call (E := E0) G hr hg hm hk hb .nil pass0 ha hdb he hpl) fun σ H Q ⟨B, F, ρ, R, q⟩ => thenA R q fun ds F1 H1 vs e g r q1 => ?_
  show spF X.K cl ps.length _ (vs ++ []) H1 Q E0
  rw [List.append_nil]
  exact ⟨by rw [r.length, evL_len e, hl], F1, ds, g.sub, g.tups, r, out_noW q1⟩
end
end CH
namespace CH
open PySem PySem.Spec L2

inductive Flw where
  | nx (ρ : Env) | rt (d : D) | bk (ρ : Env) | ct (ρ : Env)
abbrev MS := Env → Res Flw

structure RelS (K : PySem.W.Frag) (cl : Nat → Addr) (H0 F0 F H : Hp) (σ : St) (ρ : Env) : Prop where
  rel : Rel K cl H0 F H σ ρ
  gr : Grow F0 H0 F H
theorem RelS.grow {K : PySem.W.Frag} {cl : Nat → Addr} {H0 F0 F H F1 H1 : Hp} {σ : St} {ρ : Env} (R : RelS K cl H0 F0 F H σ ρ) (g : Grow F H F1 H1) : RelS K cl H0 F0 F1 H1 σ ρ := ⟨R.rel.grow g, R.gr.trans g⟩

def outS (K : PySem.W.Frag) (cl : Nat → Addr) (H0 F0 : Hp) (W : Wish) (Fs : Hp) (r : Res Flw) (D : Ends) : Prop := match r with
  | .ok (.nx ρ) => ∀ F H σ, Same Fs F → RelS K cl H0 F0 F H σ ρ → D.nx σ H
  | .ok (.rt d) => ∀ F H v, Grow F0 H0 F H → Rep K cl F v d → D.rt v H
  | .ok (.bk ρ) => ∀ F H σ, Same Fs F → RelS K cl H0 F0 F H σ ρ → D.bk σ H
  | .ok (.ct ρ) => ∀ F H σ, Same Fs F → RelS K cl H0 F0 F H σ ρ → D.ct σ H
  | .err c => ∀ H, Same H0 H → W c H
  | .stuck => False
def tS (K : PySem.W.Frag) (cl : Nat → Addr) (H0 F0 : Hp) (W : Wish) (m : MS) : TS := fun D σ H => ∃ F ρ, RelS K cl H0 F0 F H σ ρ ∧ outS K cl H0 F0 W F (m ρ) D
theorem outS_mono {K : PySem.W.Frag} {cl : Nat → Addr} {H0 F0 : Hp} {W : Wish} {F F1 : Hp} {r : Res Flw} {D : Ends} (s : Same F F1) (q : outS K cl H0 F0 W F r D) : outS K cl H0 F0 W F1 r D := by
  cases r with
  | ok f => cases f with
    | nx ρ => exact fun F2 H2 σ2 s2 => q F2 H2 σ2 (s.trans s2)
    | rt d => exact q
    | bk ρ => exact fun F2 H2 σ2 s2 => q F2 H2 σ2 (s.trans s2)
    | ct ρ => exact fun F2 H2 σ2 s2 => q F2 H2 σ2 (s.trans s2)
  | err c => exact q
  | stuck => exact q

def sNil : MS := fun ρ => .ok (.nx ρ)
def sBreak : MS := fun ρ => .ok (.bk ρ)
def sCont : MS := fun ρ => .ok (.ct ρ)
def sSeq (a b : MS) : MS := fun ρ => match a ρ with
  | .ok (.nx ρ') => b ρ'
  | r => r
def sRet (a : ME) : MS := fun ρ => (a ρ).bind fun d => .ok (.rt d)
def sRetN : MS := fun _ => .ok (.rt .non)
def sIf (c : Env → Res Bool) (a b : MS) : MS := fun ρ => (c ρ).bind fun x => if x then a ρ else b ρ
def sSet (i : Nat) (a : ME) : MS := fun ρ => (a ρ).bind fun d => .ok (.nx (ρ.set i (some (.val d))))
def sDrop (a : ME) : MS := fun ρ => (a ρ).bind fun _ => .ok (.nx ρ)

section
variable {X : Cx} {cl : Nat → Addr} {H0 F0 : Hp} {W : Wish} {st : Stmt} {rest : List Stmt} {m n : MS} {e : Expr} {me : ME} {pos : Pos}
/-- an expression, then the statement goes on -/
theorem thenS {K : PySem.W.Frag} {F H : Hp} {σ : St} {ρ : Env} {f : D → Res Flw} {D : Ends} {Q' : VK} (R : RelS K cl H0 F0 F H σ ρ) (q : outS K cl H0 F0 W F ((me ρ).bind f) D) (k : ∀ d F1 H1 v, Same F F1 → RelS K cl H0 F0 F1 H1 σ ρ → Rep K cl F1 v d → outS K cl H0 F0 W F1 (f d) D → Q' v H1) : tE K cl W me σ H Q' := by
  refine ⟨H0, F, ρ, R.rel, ?_⟩
  cases e : me ρ with
  | ok d => rw [e] at q; exact fun F1 H1 v g r => k d F1 H1 v (g.ff R.rel.sub) (R.grow g) r (outS_mono (g.ff R.rel.sub) q)
  | err c => rw [e] at q; exact fun H' s' => q H' (R.gr.hh.trans s')
  | stuck => rw [e] at q; exact q
theorem thenSB {K : PySem.W.Frag} {F H : Hp} {σ : St} {ρ : Env} {f : D → Res Flw} {D : Ends} {Q' : VK} (R : RelS K cl H0 F0 F H σ ρ) (q : outS K cl H0 F0 W F ((me ρ).bind f) D) (k : ∀ d F1 H1 v, Same F F1 → RelS K cl H0 F0 F1 H1 σ ρ → RepB K cl F1 H1 v d → outS K cl H0 F0 W F1 (f d) D → Q' v H1) : tB K cl W me σ H Q' := by
  refine ⟨H0, F, ρ, R.rel, ?_⟩
  cases e : me ρ with
  | ok d => rw [e] at q; exact fun F1 H1 v g r => k d F1 H1 v (g.ff R.rel.sub) (R.grow g) r (outS_mono (g.ff R.rel.sub) q)
  | err c => rw [e] at q; exact fun H' s' => q H' (R.gr.hh.trans s')
  | stuck => rw [e] at q; exact q
theorem thenST {K : PySem.W.Frag} {F H : Hp} {σ : St} {ρ : Env} {c : Env → Res Bool} {f : Bool → Res Flw} {D : Ends} {Q' : Bool → Hp → Prop} (R : RelS K cl H0 F0 F H σ ρ) (q : outS K cl H0 F0 W F ((c ρ).bind f) D) (k : ∀ b F1 H1, Same F F1 → RelS K cl H0 F0 F1 H1 σ ρ → outS K cl H0 F0 W F1 (f b) D → Q' b H1) : tT K cl W c σ H Q' := by
  refine ⟨H0, F, ρ, R.rel, ?_⟩
  cases e : c ρ with
  | ok d => rw [e] at q; exact fun F1 H1 g => k d F1 H1 (g.ff R.rel.sub) (R.grow g) (outS_mono (g.ff R.rel.sub) q)
  | err c => rw [e] at q; exact fun H' s' => q H' (R.gr.hh.trans s')
  | stuck => rw [e] at q; exact q
theorem vs_nil : PSs X [] (tS X.K cl H0 F0 W sNil) := PSsi pss_nil fun D σ H ⟨F, ρ, R, q⟩ => q F H σ (Same.refl F) R
theorem vs_cons (h1 : PS X st (tS X.K cl H0 F0 W m)) (h2 : PSs X rest (tS X.K cl H0 F0 W n)) : PSs X (st :: rest) (tS X.K cl H0 F0 W (sSeq m n)) := by
  refine PSsi (pss_cons h1 h2) fun D σ H ⟨F, ρ, R, q⟩ => ⟨F, ρ, R, ?_⟩
  unfold sSeq at q
  split at q
  · rename_i ρ' e
    rw [e]
    exact fun F1 H1 σ1 s1 R1 => ⟨F1, ρ', R1, outS_mono s1 q⟩
  · rename_i r hr
    cases e : m ρ with
    | ok f =>
      rw [e] at q
      cases f with
      | nx ρ' => exact absurd e (hr ρ')
      | _ => exact q
    | err c => rw [e] at q; exact q
    | stuck => rw [e] at q; exact q
theorem vs_one (h1 : PS X st (tS X.K cl H0 F0 W m)) : PSs X [st] (tS X.K cl H0 F0 W m) := pss_one h1
theorem vs_pass : PS X (.Pass pos) (tS X.K cl H0 F0 W sNil) := PSi ps_pass fun D σ H ⟨F, ρ, R, q⟩ => q F H σ (Same.refl F) R
theorem vs_break : PS X (.Break pos) (tS X.K cl H0 F0 W sBreak) := PSi ps_break fun D σ H ⟨F, ρ, R, q⟩ => q F H σ (Same.refl F) R
theorem vs_cont : PS X (.Continue pos) (tS X.K cl H0 F0 W sCont) := PSi ps_continue fun D σ H ⟨F, ρ, R, q⟩ => q F H σ (Same.refl F) R
theorem vs_ret (he : PE X e (tE X.K cl W me)) : PS X (.Return (some e) pos) (tS X.K cl H0 F0 W (sRet me)) :=
  PSi (ps_ret he) fun D σ H ⟨F, ρ, R, q⟩ => thenS R q fun d F1 H1 v _ R1 r q1 => q1 F1 H1 v R1.gr r
theorem vs_retN : PS X (.Return none pos) (tS X.K cl H0 F0 W sRetN) := PSi ps_retN fun D σ H ⟨F, ρ, R, q⟩ => q F H .non R.gr .non
theorem vs_if {c : Expr} {a b : List Stmt} {mc : Env → Res Bool} (hc : PT X c (tT X.K cl W mc)) (ha : PSs X a (tS X.K cl H0 F0 W m)) (hb : PSs X b (tS X.K cl H0 F0 W n)) : PS X (.If c a b pos) (tS X.K cl H0 F0 W (sIf mc m n)) :=
  PSi (ps_if hc ha hb) fun D σ H ⟨F, ρ, R, q⟩ => thenST R q fun b F1 H1 _ R1 q1 => by
    cases b with
    | true => exact ⟨F1, ρ, R1, q1⟩
    | false => exact ⟨F1, ρ, R1, q1⟩
theorem vs_set {i : Nat} {x : Str} {pos' : Pos} (hN : X.N.Nodup) (hi : X.N[i]? = some x) (hx : Loc X.env.scope x) (he : PE X e (tE X.K cl W me)) (hs : swapsWith e (some (.Name x pos')) pos.line X.env = pure false := by rfl) (hf : X.fn x = true ∨ X.env.scope.names.lookup x = some .local := by first | exact .inl rfl | exact .inr rfl | assumption) :
    PS X (.Assign [.Name x pos'] e pos) (tS X.K cl H0 F0 W (sSet i me)) :=
  PSi (ps_set hN hi hx he hs hf) fun D σ H ⟨F, ρ, R, q⟩ => thenS R q fun d F1 H1 v _ R1 r q1 => q1 F1 H1 _ (Same.refl _) ⟨R1.rel.set i r, R1.gr⟩
theorem vs_expr (he : PE X e (tE X.K cl W me)) (hs : swapsWith e none pos.line X.env = pure false := by rfl) : PS X (.Expr e pos) (tS X.K cl H0 F0 W (sDrop me)) :=
  PSi (ps_expr he hs) fun D σ H ⟨F, ρ, R, q⟩ => thenS R q fun d F1 H1 v _ R1 r q1 => q1 F1 H1 σ (Same.refl _) R1
theorem vs_doc {x j pos pos'} : PS X (.Expr (.Constant (.str x) j pos) pos') (tS X.K cl H0 F0 W sNil) := PSi ps_doc fun D σ H ⟨F, ρ, R, q⟩ => q F H σ (Same.refl F) R
end

/-! ## targets -/
abbrev BD := D → Env → Res Env
def RepW (K : PySem.W.Frag) (cl : Nat → Addr) (F : Hp) (v : V) (d : D) : Prop := match d with
  | .tup ds => ∃ a vs, v = .ref a ∧ SqT K F a vs ∧ RepL K cl F vs ds
  | d => Rep K cl F v d
def RepX (w : Bool) (K : PySem.W.Frag) (cl : Nat → Addr) (F : Hp) (v : V) (d : D) : Prop := if w = true then RepW K cl F v d else Rep K cl F v d
theorem Rep.toW {K : PySem.W.Frag} {cl : Nat → Addr} {F : Hp} {v : V} {d : D} (h : Rep K cl F v d) : RepW K cl F v d := by
  cases d with
  | tup ds => cases h with | tup h r => exact ⟨_, _, rfl, h.sq, r⟩
  | _ => exact h
theorem Rep.toX {K : PySem.W.Frag} {cl : Nat → Addr} {F : Hp} {v : V} {d : D} (w : Bool) (h : Rep K cl F v d) : RepX w K cl F v d := by
  cases w with
  | true => exact h.toW
  | false => exact h
def tG (w : Bool) (K : PySem.W.Frag) (cl : Nat → Addr) (is : List Nat) (b : BD) : TG := fun v σ H Q => ∃ B F ρ d ρ', Rel K cl B F H σ ρ ∧ RepX w K cl F v d ∧ b d ρ = .ok ρ' ∧
  ∀ σ', Rel K cl B F H σ' ρ' → σ'.length = σ.length → (∀ j, j ∉ is → σ'[j]? = σ[j]?) → Q σ' H
theorem PGi {X : Cx} {e : Expr} {t t' : TG} (h : PG X e t) (i : ∀ v σ H Q, t' v σ H Q → t v σ H Q) : PG X e t' := ⟨fun pins s σ H v u Q I r q => h.run pins s σ H v u Q I r (i v σ H Q q)⟩
def bName (i : Nat) : BD := fun d ρ => .ok (ρ.set i (some (.val d)))
def setAll : List Nat → List D → Env → Env
  | i :: is, d :: ds, ρ => setAll is ds (ρ.set i (some (.val d)))
  | _, _, ρ => ρ
def bTup (is : List Nat) : BD := fun d ρ => match d with
  | .tup ds => if ds.length = is.length then .ok (setAll is ds ρ) else .stuck
  | _ => .stuck
/-- names one after another -/
inductive PNames (X : Cx) : List Expr → List Nat → TGs → Prop
  | nil : PNames X [] [] gNil
  | cons {e : Expr} {es : List Expr} {i : Nat} {is : List Nat} {u : TGs} : PG X e (gName i) → PNames X es is u → (assignEach (e :: es) X.env).map (·.2) = assign e X.env :: (assignEach es X.env).map (·.2) → PNames X (e :: es) (i :: is) (gCons (gName i) u)
theorem PNames.pgs {X : Cx} : ∀ {es : List Expr} {is : List Nat} {u : TGs}, PNames X es is u → PGs X es u
  | _, _, _, .nil => pgs_nil
  | _, _, _, .cons h r e => pgs_cons h (PNames.pgs r) e
section
variable {X : Cx} {cl : Nat → Addr} {pos : Pos}
theorem vg_name {i : Nat} {x : Str} (hN : X.N.Nodup) (hi : X.N[i]? = some x) (hx : Loc X.env.scope x) (hf : X.fn x = true ∨ X.env.scope.names.lookup x = some .local := by first | exact .inl rfl | exact .inr rfl | assumption) : PG X (.Name x pos) (tG false X.K cl [i] (bName i)) :=
  PGi (pg_name hN hi hx hf) fun v σ H Q ⟨B, F, ρ, d, ρ', R, r, e, k⟩ => by
    cases e
    exact k _ (R.set i r) (by simp) fun j hj => by rw [List.getElem?_set_ne (fun z => hj (by simp [z]))]
theorem names_run {K : PySem.W.Frag} {B F H : Hp} {X : Cx} : ∀ {es : List Expr} {is : List Nat} {u : TGs}, PNames X es is u → ∀ {vs : List V} {ds : List D} {σ : St} {ρ : Env} {Q : St → Hp → Prop}, Rel K cl B F H σ ρ → RepL K cl F vs ds → ds.length = is.length →
    (∀ σ', Rel K cl B F H σ' (setAll is ds ρ) → σ'.length = σ.length → (∀ j, j ∉ is → σ'[j]? = σ[j]?) → Q σ' H) → u vs σ H Q
  | _, _, _, .nil, _, _, σ, ρ, Q, R, .nil, _, k => ⟨rfl, k σ R rfl fun _ _ => rfl⟩
  | _, _, _, .cons h r e, _, _, σ, ρ, Q, R, .cons (v := v) (vs := vs) rv rl, hl, k => by
    refine ⟨v, vs, rfl, ?_⟩
    show _
    refine names_run r (R.set _ rv) rl (by simpa using hl) fun σ' R' l' k' => ?_
    refine k σ' R' (by rw [l']; simp) fun j hj => ?_
    rw [k' j (fun z => hj (by simp [z])), List.getElem?_set_ne (fun z => hj (by simp [z]))]
  | _, _, _, .cons _ _ _, _, _, _, _, _, _, .nil, hl, _ => by simp at hl
  | _, _, _, .nil, _, _, _, _, _, _, .cons _ _, hl, _ => by simp at hl
theorem vg_tup {es : List Expr} {k : Nat} {is : List Nat} {t : TGs} (hc : X.calm = true) (h : PNames X es is t) (hn : (assignEach es X.env).length = is.length := by rfl) (hst : (assignEach es X.env).findIdx? (·.1) = none := by rfl) : PG X (.Tuple es k pos) (tG true X.K cl is (bTup is)) :=
  PGi (pg_tup hc h.pgs hn hst) fun v σ H Q ⟨B, F, ρ, d, ρ', R, r, e, q⟩ => by
    cases d with
    | tup ds =>
      obtain ⟨a, vs, rfl, hs, rl⟩ := r
      unfold bTup at e
      dsimp only at e
      split at e
      · rename_i hl
        cases e
        exact ⟨a, vs, rfl, Same.sqt R.sub hs, by rw [rl.length, hl], names_run h R rl hl q⟩
      · cases e
    | _ => cases e
/-- target = value -/
def sAsg (b : BD) (a : ME) : MS := fun ρ => (a ρ).bind fun d => (b d ρ).bind fun ρ' => .ok (.nx ρ')
theorem vs_asg {H0 F0 : Hp} {W : Wish} {w : Bool} {is : List Nat} {b : BD} {tg e : Expr} {me : ME} (he : PE X e (tE X.K cl W me)) (hg : PG X tg (tG w X.K cl is b)) (hs : swapsWithSole [tg] e pos.line X.env = pure false := by rfl) (hw : swappedStores [tg] e X.env = pure none := by rfl)
    (h1 : (assignEach [tg] X.env).map (·.2) = [assign tg X.env] := by rfl) (hbe : ∀ d ρ c, b d ρ ≠ .err c := by intro d ρ c; first | (intro z; cases z; done) | (cases d <;> simp only [bTup] <;> first | (intro z; cases z; done) | (split <;> (intro z; cases z)))) : PS X (.Assign [tg] e pos) (tS X.K cl H0 F0 W (sAsg b me)) :=
  PSi (ps_asg he hg hs hw h1) fun D σ H ⟨F, ρ, R, q⟩ => thenS R q fun d F1 H1 v _ R1 r q1 => by
    cases e2 : b d ρ with
    | ok ρ' =>
      rw [e2] at q1
      exact ⟨H0, F1, ρ, d, ρ', R1.rel, r.toX w, e2, fun σ' R' _ _ => q1 F1 H1 σ' (Same.refl _) ⟨R', R1.gr⟩⟩
    | err c => exact absurd e2 (hbe d ρ c)
    | stuck => rw [e2] at q1; exact False.elim q1
/-- a, b = x, y: two local names, both sides written -/
def sPar (i j : Nat) (a b : ME) : MS := fun ρ => (a ρ).bind fun x => (b ρ).bind fun y => .ok (.nx ((ρ.set i (some (.val x))).set j (some (.val y))))
theorem vs_par {H0 F0 : Hp} {W : Wish} {i j : Nat} {x y : Str} {a b : Expr} {ma mb : ME} {px py pt : Pos} {kt k2 pt2} (hc : X.calm = true) (hN : X.N.Nodup) (hi : X.N[i]? = some x) (hj : X.N[j]? = some y) (hij : i ≠ j)
    (hx : X.env.scope.names.lookup x = some .local) (hy : X.env.scope.names.lookup y = some .local) (ha : PA X [a, b] (tA X.K cl W (evL [ma, mb])))
    (hw : swappedStores [.Tuple [.Name x px, .Name y py] kt pt] (.Tuple [a, b] k2 pt2) X.env = pure (some [x, y]))
    (hs : swapsWithSole [.Tuple [.Name x px, .Name y py] kt pt] (.Tuple [a, b] k2 pt2) pos.line X.env = pure false := by rfl) :
    PS X (.Assign [.Tuple [.Name x px, .Name y py] kt pt] (.Tuple [a, b] k2 pt2) pos) (tS X.K cl H0 F0 W (sPar i j ma mb)) :=
  PSi (ps_par hc hN hi hj hij hx hy ha hw hs) fun D σ H ⟨F, ρ, R, q⟩ => by
    refine ⟨H0, F, ρ, R.rel, ?_⟩
    unfold sPar at q
    simp only [evL]
    cases e1 : ma ρ with
    | ok d1 =>
      rw [e1] at q
      simp only [Res.bind_ok] at q ⊢
      cases e2 : mb ρ with
      | ok d2 =>
        rw [e2] at q
        intro F1 H1 vs g r
        cases r with
        | cons r1 r =>
          cases r with
          | cons r2 r =>
            cases r
            exact ⟨_, _, rfl, q F1 H1 _ (g.ff R.rel.sub) ⟨((R.grow g).rel.set i r1).set j r2, (R.grow g).gr⟩⟩
      | err c => rw [e2] at q; exact fun H' s' => q H' (R.gr.hh.trans s')
      | stuck => rw [e2] at q; exact q
    | err c => rw [e1] at q; exact fun H' s' => q H' (R.gr.hh.trans s')
    | stuck => rw [e1] at q; exact q
end

/-! ## what is walked -/
structure IterOf (w : Bool) (K : PySem.W.Frag) (cl : Nat → Addr) (J : It) (F : Hp) (ds : List D) : Prop where
  go : ∀ (i : Nat) (d : D) (F1 H : Hp), ds[i]? = some d → Same F F1 → Same F1 H → TupC F1 H → J.go i H ∧ ∀ x H', J.yld i H x H' → ∃ F2, Grow F1 H F2 H' ∧ RepX w K cl F2 x d
  stop : ∀ (i : Nat) (F1 H : Hp), ds.length = i → Same F F1 → Same F1 H → J.stop i H
def outI (w : Bool) (K : PySem.W.Frag) (cl : Nat → Addr) (W : Wish) (r : Res (List D)) (F H : Hp) (R : It → Hp → Prop) : Prop := match r with
  | .ok ds => ∀ F' H' J, Grow F H F' H' → IterOf w K cl J F' ds → R J H'
  | .err c => ∀ H', Same H H' → W c H'
  | .stuck => False
def tI (w : Bool) (K : PySem.W.Frag) (cl : Nat → Addr) (W : Wish) (mi : Env → Res (List D)) : TI := fun σ H R => ∃ B F ρ, Rel K cl B F H σ ρ ∧ outI w K cl W (mi ρ) F H R
theorem PIi {X : Cx} {tg e : Expr} {t t' : TI} (h : PI X tg e t) (i : ∀ σ H R, t' σ H R → t σ H R) : PI X tg e t' := ⟨fun pins s σ H R I q => h.run pins s σ H R I (i σ H R q)⟩

def forM (b : BD) (mb : MS) : List D → Env → Res Flw
  | [], ρ => .ok (.nx ρ)
  | d :: ds, ρ => match b d ρ with
    | .ok ρ1 => match mb ρ1 with
      | .ok (.nx ρ2) => forM b mb ds ρ2
      | .ok (.ct ρ2) => forM b mb ds ρ2
      | .ok (.bk ρ2) => .ok (.nx ρ2)
      | .ok (.rt d) => .ok (.rt d)
      | .err c => .err c
      | .stuck => .stuck
    | _ => .stuck
def sFor (mi : Env → Res (List D)) (b : BD) (mb : MS) : MS := fun ρ => (mi ρ).bind fun ds => forM b mb ds ρ
section
variable {X : Cx} {cl : Nat → Addr} {H0 F0 : Hp} {W : Wish} {tg iter : Expr} {body : List Stmt} {w : Bool} {mi : Env → Res (List D)} {is : List Nat} {b : BD} {mb : MS} {pos : Pos}
theorem vs_for (hp : PassesOwn (model X.prog X.w) X.A X.env X.xe) (hc : X.calm = true) (hi : PI X tg iter (tI w X.K cl W mi)) (hg : PG X tg (tG w X.K cl is b)) (hb : PSs X body (tS X.K cl H0 F0 W mb))
    (hs : ∀ x, foldedSetIterable iter X.env x = pure x := by intro _; rfl) : PS X (.For tg iter body [] pos) (tS X.K cl H0 F0 W (sFor mi b mb)) := by
  refine PSi (ps_for hp hc hi hg hb hs) fun D σ H ⟨F, ρ, R, q⟩ => ?_
  refine ⟨H0, F, ρ, R.rel, ?_⟩
  unfold sFor at q
  cases e : mi ρ with
  | err c => rw [e] at q; exact fun H' s' => q H' (R.gr.hh.trans s')
  | stuck => rw [e] at q; exact q
  | ok ds =>
    rw [e] at q
    intro F1 H1 J g J1
    have R1 := R.grow g
    refine ⟨fun i m σ H => (m = ds.length - i ∧ i ≤ ds.length) ∧ ∃ F2 ρ2, Same F1 F2 ∧ RelS X.K cl H0 F0 F2 H σ ρ2 ∧ outS X.K cl H0 F0 W F2 (forM b mb (ds.drop i) ρ2) D, ⟨ds.length, ⟨by omega, by omega⟩, F1, ρ, Same.refl _, R1, outS_mono (g.ff R.rel.sub) q⟩, ?_⟩
    rintro i m σ2 H2 ⟨⟨rfl, hil⟩, F2, ρ2, sf, R2, q2⟩
    by_cases hi : i < ds.length
    · have hd : ds.drop i = ds[i] :: ds.drop (i + 1) := List.drop_eq_getElem_cons hi
      rw [hd] at q2
      unfold forM at q2
      obtain ⟨go, yl⟩ := J1.go i ds[i] F2 H2 (List.getElem?_eq_getElem hi) sf R2.rel.sub R2.rel.tups
      refine .inr ⟨go, fun σ' H' => ∃ F3 ρ3, Same F1 F3 ∧ RelS X.K cl H0 F0 F3 H' σ' ρ3 ∧ outS X.K cl H0 F0 W F3 (forM b mb (ds.drop (i + 1)) ρ3) D, fun σ' H' h => ⟨ds.length - (i + 1), by omega, ⟨rfl, by omega⟩, h⟩, fun x H' y => ?_⟩
      obtain ⟨F3, g3, rx⟩ := yl x H' y
      have R3 := R2.grow g3
      have sf3 : Same F2 F3 := g3.ff R2.rel.sub
      cases e3 : b ds[i] ρ2 with
      | err c => rw [e3] at q2; exact False.elim q2
      | stuck => rw [e3] at q2; exact False.elim q2
      | ok ρ3 =>
        rw [e3] at q2
        dsimp only at q2
        refine ⟨H0, F3, ρ2, ds[i], ρ3, R3.rel, rx, e3, fun σ' R' _ _ => ⟨F3, ρ3, ⟨R', R3.gr⟩, ?_⟩⟩
        cases e4 : mb ρ3 with
        | err c => rw [e4] at q2; exact q2
        | stuck => rw [e4] at q2; exact q2
        | ok f =>
          rw [e4] at q2
          cases f with
          | rt d => exact q2
          | bk ρ4 => exact fun F4 H4 σ4 s4 R4 => q2 F4 H4 σ4 (sf3.trans s4) R4
          | nx ρ4 => exact fun F4 H4 σ4 s4 R4 => ⟨F4, ρ4, (sf.trans sf3).trans s4, R4, outS_mono (sf3.trans s4) q2⟩
          | ct ρ4 => exact fun F4 H4 σ4 s4 R4 => ⟨F4, ρ4, (sf.trans sf3).trans s4, R4, outS_mono (sf3.trans s4) q2⟩
    · refine .inl ⟨J1.stop i F2 H2 (by omega) sf R2.rel.sub, ?_⟩
      have hd : ds.drop i = [] := List.drop_eq_nil_of_le (by omega)
      rw [hd] at q2
      exact q2 F2 H2 σ2 (Same.refl _) R2
end

/-! ## while -/
def whileN (c : Env → Res Bool) (b : MS) : Nat → Env → Option (Res Flw)
  | 0, _ => none
  | n + 1, ρ => match c ρ with
    | .ok true => match b ρ with
      | .ok (.nx ρ') => whileN c b n ρ'
      | .ok (.ct ρ') => whileN c b n ρ'
      | .ok (.bk ρ') => some (.ok (.nx ρ'))
      | .ok (.rt d) => some (.ok (.rt d))
      | .err x => some (.err x)
      | .stuck => some .stuck
    | .ok false => some (.ok (.nx ρ))
    | .err x => some (.err x)
    | .stuck => some .stuck
theorem whileN_succ {c : Env → Res Bool} {b : MS} : ∀ {n : Nat} {ρ : Env} {r : Res Flw}, whileN c b n ρ = some r → whileN c b (n + 1) ρ = some r
  | 0, _, _, h => by cases h
  | n + 1, ρ, r, h => by
    unfold whileN at h ⊢
    split at h
    · split at h
      · exact whileN_succ h
      · exact whileN_succ h
      · exact h
      · exact h
      · exact h
      · exact h
    · exact h
    · exact h
    · exact h
theorem whileN_le {c : Env → Res Bool} {b : MS} {n k : Nat} {ρ : Env} {r : Res Flw} (h : whileN c b n ρ = some r) (hk : n ≤ k) : whileN c b k ρ = some r := by
  induction hk with
  | refl => exact h
  | step _ ih => exact whileN_succ ih
open Classical in
noncomputable def sWhile (c : Env → Res Bool) (b : MS) : MS := fun ρ => if h : ∃ n r, whileN c b n ρ = some r then Classical.choose (Classical.choose_spec h) else .stuck
theorem sWhile_of {c : Env → Res Bool} {b : MS} {n : Nat} {ρ : Env} {r : Res Flw} (h : whileN c b n ρ = some r) : sWhile c b ρ = r := by
  have hx : ∃ n r, whileN c b n ρ = some r := ⟨n, r, h⟩
  unfold sWhile
  rw [dif_pos hx]
  have h2 := Classical.choose_spec (Classical.choose_spec hx)
  have h3 := whileN_le h (Nat.le_max_left n (Classical.choose hx))
  have h4 := whileN_le h2 (Nat.le_max_right n (Classical.choose hx))
  rw [h3] at h4
  exact (Option.some.inj h4).symm
theorem sWhile_ex {c : Env → Res Bool} {b : MS} {ρ : Env} : sWhile c b ρ = .stuck ∨ ∃ n, whileN c b n ρ = some (sWhile c b ρ) := by
  by_cases hx : ∃ n r, whileN c b n ρ = some r
  · obtain ⟨n, r, h⟩ := hx
    exact .inr ⟨n, by rw [sWhile_of h]; exact h⟩
  · left
    unfold sWhile
    rw [dif_neg hx]
/-- one turn -/
theorem sWhile_eq (c : Env → Res Bool) (b : MS) (ρ : Env) : sWhile c b ρ = match c ρ with
    | .ok true => match b ρ with
      | .ok (.nx ρ') => sWhile c b ρ'
      | .ok (.ct ρ') => sWhile c b ρ'
      | .ok (.bk ρ') => .ok (.nx ρ')
      | .ok (.rt d) => .ok (.rt d)
      | .err x => .err x
      | .stuck => .stuck
    | .ok false => .ok (.nx ρ)
    | .err x => .err x
    | .stuck => .stuck := by
  cases e1 : c ρ with
  | err x => exact sWhile_of (n := 1) (by unfold whileN; rw [e1])
  | stuck => exact sWhile_of (n := 1) (by unfold whileN; rw [e1])
  | ok x =>
    cases x with
    | false => exact sWhile_of (n := 1) (by unfold whileN; rw [e1])
    | true =>
      have go : ∀ ρ', (∀ n, whileN c b (n + 1) ρ = whileN c b n ρ') → sWhile c b ρ = sWhile c b ρ' := fun ρ' h => by
        rcases sWhile_ex (c := c) (b := b) (ρ := ρ') with z | ⟨n, z⟩
        · rcases sWhile_ex (c := c) (b := b) (ρ := ρ) with y | ⟨n, y⟩
          · rw [y, z]
          · cases n with
            | zero => cases y
            | succ n => rw [h n] at y; rw [sWhile_of y]
        · exact sWhile_of (by rw [h n]; exact z)
      dsimp only
      cases e2 : b ρ with
      | err x => exact sWhile_of (n := 1) (by unfold whileN; rw [e1, e2])
      | stuck => exact sWhile_of (n := 1) (by unfold whileN; rw [e1, e2])
      | ok f =>
        cases f with
        | nx ρ' => exact go ρ' fun n => by rw [whileN, e1, e2]
        | ct ρ' => exact go ρ' fun n => by rw [whileN, e1, e2]
        | bk ρ' => exact sWhile_of (n := 1) (by unfold whileN; rw [e1, e2])
        | rt d => exact sWhile_of (n := 1) (by unfold whileN; rw [e1, e2])
section
variable {X : Cx} {cl : Nat → Addr} {H0 F0 : Hp} {W : Wish} {c : Expr} {body : List Stmt} {mc : Env → Res Bool} {mb : MS} {pos : Pos}
theorem vs_while (hp : PassesOwn (model X.prog X.w) X.A X.env X.xe) (hc : PT X c (tT X.K cl W mc)) (hb : PSs X body (tS X.K cl H0 F0 W mb)) : PS X (.While c body [] pos) (tS X.K cl H0 F0 W (sWhile mc mb)) := by
  refine PSi (ps_while hp hc hb) fun D σ H ⟨F, ρ, R, q⟩ => ?_
  rcases sWhile_ex (c := mc) (b := mb) (ρ := ρ) with z | ⟨n, z⟩
  · rw [z] at q; exact False.elim q
  · refine ⟨fun m σ H => ∃ F2 ρ2 r, RelS X.K cl H0 F0 F2 H σ ρ2 ∧ whileN mc mb m ρ2 = some r ∧ outS X.K cl H0 F0 W F2 r D, ⟨n, F, ρ, _, R, z, q⟩, ?_⟩
    rintro m σ2 H2 ⟨F2, ρ2, r, R2, w2, q2⟩
    refine ⟨H0, F2, ρ2, R2.rel, ?_⟩
    cases m with
    | zero => cases w2
    | succ m =>
      unfold whileN at w2
      cases e1 : mc ρ2 with
      | err x => rw [e1] at w2; cases w2; exact fun H' s' => q2 H' (R2.gr.hh.trans s')
      | stuck => rw [e1] at w2; cases w2; exact q2
      | ok x =>
        rw [e1] at w2
        intro F3 H3 g3
        have R3 := R2.grow g3
        have s3 := g3.ff R2.rel.sub
        cases x with
        | false => cases w2; exact q2 F3 H3 σ2 s3 R3
        | true =>
          dsimp only at w2
          refine ⟨fun σ' H' => ∃ F4 ρ4 r, RelS X.K cl H0 F0 F4 H' σ' ρ4 ∧ whileN mc mb m ρ4 = some r ∧ outS X.K cl H0 F0 W F4 r D, fun σ' H' ⟨F4, ρ4, r, a, b, c⟩ => ⟨m, Nat.lt_succ_self m, F4, ρ4, r, a, b, c⟩, F3, ρ2, R3, ?_⟩
          cases e4 : mb ρ2 with
          | err x => rw [e4] at w2; cases w2; exact q2
          | stuck => rw [e4] at w2; cases w2; exact q2
          | ok f =>
            rw [e4] at w2
            cases f with
            | rt d => cases w2; exact q2
            | bk ρ4 => cases w2; exact fun F4 H4 σ4 s4 R4 => q2 F4 H4 σ4 (s3.trans s4) R4
            | nx ρ4 => exact fun F4 H4 σ4 s4 R4 => ⟨F4, ρ4, r, R4, w2, outS_mono (s3.trans s4) q2⟩
            | ct ρ4 => exact fun F4 H4 σ4 s4 R4 => ⟨F4, ρ4, r, R4, w2, outS_mono (s3.trans s4) q2⟩
end

/-! ## comprehensions -/
def wipeE (ρ : Env) : List Nat → Env
  | [] => ρ
  | v :: vs => (wipeE ρ vs).set v none
theorem wipeE_length (ρ : Env) : ∀ vs : List Nat, (wipeE ρ vs).length = ρ.length
  | [] => rfl
  | v :: vs => by unfold wipeE; rw [List.length_set, wipeE_length ρ vs]
theorem wipeE_some {ρ : Env} {i : Nat} {x : O} : ∀ {vs : List Nat}, (wipeE ρ vs)[i]? = some (some x) → ρ[i]? = some (some x) ∧ i ∉ vs
  | [], h => ⟨h, by simp⟩
  | v :: vs, h => by
    unfold wipeE at h
    by_cases hi : v = i
    · subst hi
      by_cases hv : v < (wipeE ρ vs).length
      · rw [List.getElem?_set_self hv] at h; cases h
      · rw [List.getElem?_eq_none (by simpa using hv)] at h; cases h
    · rw [List.getElem?_set_ne hi] at h
      obtain ⟨h1, h2⟩ := wipeE_some h
      exact ⟨h1, by simp only [List.mem_cons, not_or]; exact ⟨fun e => hi e.symm, h2⟩⟩
theorem wipe_in {σ : St} {i : Nat} : ∀ {vs : List Nat}, i ∈ vs → i < σ.length → (wipe σ vs)[i]? = some none
  | v :: vs, h, hl => by
    unfold wipe
    by_cases hi : v = i
    · subst hi; rw [List.getElem?_set_self (by rw [wipe_length]; exact hl)]
    · rw [List.getElem?_set_ne hi]
      exact wipe_in ((List.mem_cons.mp h).resolve_left fun z => hi z.symm) hl
theorem wipe_again {σ σ' : St} {vs : List Nat} (hl : σ'.length = σ.length) (h : ∀ j, j ∉ vs → σ'[j]? = (wipe σ vs)[j]?) : wipe σ' vs = wipe σ vs := by
  refine List.ext_getElem? fun i => ?_
  by_cases hi : i ∈ vs
  · by_cases hb : i < σ.length
    · rw [wipe_in hi hb, wipe_in hi (by rw [hl]; exact hb)]
    · rw [List.getElem?_eq_none (by rw [wipe_length, hl]; omega), List.getElem?_eq_none (by rw [wipe_length]; omega)]
  · rw [wipe_out hi, h i hi]
theorem Rel.wipe {K : PySem.W.Frag} {cl : Nat → Addr} {B F H : Hp} {σ : St} {ρ : Env} (R : Rel K cl B F H σ ρ) (vs : List Nat) : Rel K cl B F H (L2.wipe σ vs) (wipeE ρ vs) :=
  R.weak (by rw [wipe_length, wipeE_length]; exact R.len) fun i o e => by
    obtain ⟨h1, h2⟩ := wipeE_some e
    exact ⟨h1, wipe_out h2⟩
def lcM (b : BD) (mt : Env → Res Bool) (me : ME) : List D → Env → Res (List D)
  | [], _ => .ok []
  | d :: ds, ρ => (b d ρ).bind fun ρ1 => (mt ρ1).bind fun t => if t then (me ρ1).bind fun x => (lcM b mt me ds ρ).bind fun xs => .ok (x :: xs) else lcM b mt me ds ρ
/-- the list of a comprehension -/
def mLcL (mi : Env → Res (List D)) (b : BD) (mt : Env → Res Bool) (me : ME) (vs : List Nat) : Env → Res (List D) := fun ρ => (mi ρ).bind fun ds =>
  if ds.length ≤ sizeLine then (lcM b mt me ds (wipeE ρ vs)).calm else .stuck
def mLc (mi : Env → Res (List D)) (b : BD) (mt : Env → Res Bool) (me : ME) (vs : List Nat) : ME := fun ρ => (mLcL mi b mt me vs ρ).bind fun xs => .ok (.lst xs)
def mYes : Env → Res Bool := fun _ => .ok true
/-- a new list, not yet frozen -/
def outN (K : PySem.W.Frag) (cl : Nat → Addr) (W : Wish) (r : Res (List D)) (F H : Hp) (Q : VK) : Prop := match r with
  | .ok ds => ∀ F' H' p vs, Grow F H F' H' → H p = none → H' p = some (.lst vs) → F' p = none → RepL K cl F' vs ds → Q (.ref p) H'
  | .err c => ∀ H', Same H H' → W c H'
  | .stuck => False
def tN (K : PySem.W.Frag) (cl : Nat → Addr) (W : Wish) (m : Env → Res (List D)) : TE := fun σ H Q => ∃ B F ρ, Rel K cl B F H σ ρ ∧ outN K cl W (m ρ) F H Q
theorem Grow.poke {F H F' H' : Hp} {p : Addr} {o : HO} (g : Grow F H F' H') (n : H p = none) (nf : F' p = none) (nt : isT o = false) : Grow F H F' (upd H' p o) := by
  refine ⟨fun a u e => ?_, fun a u e z => ?_, fun a u e => ?_, g.old⟩
  · by_cases h : a = p
    · subst h; rw [nf] at e; cases e
    · rw [upd_ne h]; exact g.sub a u e
  · by_cases h : a = p
    · subst h; rw [upd_same] at e; cases e; rw [nt] at z; cases z
    · rw [upd_ne h] at e; exact g.tups a u e z
  · rw [upd_ne (ne_of_none e n)]; exact g.hh a u e
/-- an own thing is frozen -/
theorem Grow.freeze {F H F' H' : Hp} {p : Addr} {o : HO} (g : Grow F H F' H') (n : H p = none) (e : H' p = some o) : Grow F H (upd F' p o) H' := by
  refine ⟨fun a u q => ?_, fun a u q z => ?_, g.hh, fun a u q => ?_⟩
  · by_cases h : a = p
    · subst h; rw [upd_same] at q; rw [e]; exact q
    · rw [upd_ne h] at q; exact g.sub a u q
  · by_cases h : a = p
    · subst h; rw [upd_same, ← e]; exact q
    · rw [upd_ne h]; exact g.tups a u q z
  · rw [upd_ne (ne_of_none q n)]; exact g.old a u q
theorem same_upd {F : Hp} {p : Addr} {o : HO} (n : F p = none) : Same F (upd F p o) := fun a u e => by rw [upd_ne (ne_of_none e n)]; exact e
section
variable {X : Cx} {cl : Nat → Addr} {W : Wish}
theorem outN_E {K : PySem.W.Frag} {r : Res (List D)} {F H : Hp} {Q : VK} (q : out K cl W (r.bind fun xs => .ok (.lst xs)) F H Q) : outN K cl W r F H Q := by
  cases r with
  | ok ds => exact fun F' H' p vs g n e nf rl => q (upd F' p (.lst vs)) H' (.ref p) (g.freeze n e) (.lst (.inl (.inl upd_same)) (rl.mono (same_upd nf)))
  | err c => exact q
  | stuck => exact q
theorem pe_N {e : Expr} {m : Env → Res (List D)} (h : PE X e (tN X.K cl W m)) : PE X e (tE X.K cl W fun ρ => (m ρ).bind fun xs => .ok (.lst xs)) :=
  PEi h fun σ H Q ⟨B, F, ρ, R, q⟩ => ⟨B, F, ρ, R, outN_E q⟩
variable {elt tg iter : Expr} {ifs : List Expr} {scope : Scope} {own : List (Str × Nat)} {pos : Pos} {w : Bool} {mi : Env → Res (List D)} {is : List Nat} {b : BD} {mt : Env → Res Bool} {me : ME}
theorem lc_read (his : ∀ i ∈ is, i ∈ own.map (·.2)) : ∀ σ H Q, tN X.K cl W (mLcL mi b mt me (own.map (·.2))) σ H Q → tLc (tI w X.K cl W mi) (tG w X.K cl is b) (tT X.K cl noW mt) (tE X.K cl noW me) (own.map (·.2)) σ H Q := by
  rintro σ H Q ⟨B, F, ρ, R, q⟩
  refine ⟨B, F, ρ, R, ?_⟩
  unfold mLcL at q
  cases e : mi ρ with
  | err c => rw [e] at q; exact q
  | stuck => rw [e] at q; exact q
  | ok ds =>
    rw [e] at q
    intro F1 H1 J g J1 Da nD
    simp only [Res.bind_ok] at q
    have R1 := (R.grow g).wipe (own.map (·.2))
    have hz : ds.length ≤ sizeLine := by
      by_cases h : ds.length ≤ sizeLine
      · exact h
      · rw [if_neg h] at q; exact False.elim q
    rw [if_pos hz] at q
    cases ez : lcM b mt me ds (wipeE ρ (own.map (·.2))) with
    | err c => rw [ez] at q; exact False.elim q
    | stuck => rw [ez] at q; exact False.elim q
    | ok zs =>
      rw [ez] at q
      refine ⟨fun i m H2 => (m = ds.length - i ∧ i ≤ ds.length) ∧ ∃ F2 acc xs ys, Grow F1 H1 F2 H2 ∧ H2 Da = some (.lst acc) ∧ F2 Da = none ∧ RepL X.K cl F2 acc xs ∧ acc.length ≤ i ∧ lcM b mt me (ds.drop i) (wipeE ρ (own.map (·.2))) = .ok ys ∧ zs = xs ++ ys,
        ⟨ds.length, ⟨by omega, by omega⟩, F1, [], [], zs, Grow.own g.sub g.tups nD rfl, upd_same, g.sub.free nD, .nil, by simp, ez, rfl⟩, ?_⟩
      rintro i m H2 ⟨⟨rfl, hil⟩, F2, acc, xs, ys, g2, hD, nF, rl, ha, el, rfl⟩
      by_cases hi : i < ds.length
      · have hd : ds.drop i = ds[i] :: ds.drop (i + 1) := List.drop_eq_getElem_cons hi
        rw [hd] at el
        unfold lcM at el
        obtain ⟨go, yl⟩ := J1.go i ds[i] F2 H2 (List.getElem?_eq_getElem hi) (g2.ff g.sub) g2.sub g2.tups
        refine .inr ⟨go, fun H' => ∃ F2 acc xs' ys, Grow F1 H1 F2 H' ∧ H' Da = some (.lst acc) ∧ F2 Da = none ∧ RepL X.K cl F2 acc xs' ∧ acc.length ≤ i + 1 ∧ lcM b mt me (ds.drop (i + 1)) (wipeE ρ (own.map (·.2))) = .ok ys ∧ xs ++ _ = xs' ++ ys, fun H' h => ⟨ds.length - (i + 1), by omega, ⟨rfl, by omega⟩, h⟩, fun x H' y => ?_⟩
        obtain ⟨F3, g3, rx⟩ := yl x H' y
        have g13 := g2.trans g3
        cases e3 : b ds[i] (wipeE ρ (own.map (·.2))) with
        | err c => rw [e3] at el; cases el
        | stuck => rw [e3] at el; cases el
        | ok ρ3 =>
          rw [e3] at el
          simp only [Res.bind_ok] at el
          refine ⟨B, F3, _, ds[i], ρ3, R1.grow g13, rx, e3, fun σ' R' hl hk => ⟨?_, ?_⟩⟩
          · exact wipe_again (by rw [hl, wipe_length]) fun j hj => hk j fun z => hj (his j z)
          · refine ⟨B, F3, ρ3, R', ?_⟩
            cases e4 : mt ρ3 with
            | err c => rw [e4] at el; cases el
            | stuck => rw [e4] at el; cases el
            | ok t =>
              rw [e4] at el
              simp only [Res.bind_ok] at el
              intro F4 H4 g4
              have g14 := g13.trans g4
              have hD4 : H4 Da = some (.lst acc) := g4.hh _ _ (g3.hh _ _ hD)
              have nF4 : F4 Da = none := by rw [g4.old _ _ (g3.hh _ _ hD), g3.old _ _ hD]; exact nF
              have s24 : Same F2 F4 := (g3.ff g2.sub).trans (g4.ff g3.sub)
              cases t with
              | false =>
                simp only [Bool.false_eq_true, if_false] at el ⊢
                exact ⟨F4, acc, xs, ys, g14, hD4, nF4, rl.mono s24, Nat.le_succ_of_le ha, el, rfl⟩
              | true =>
                simp only [if_true] at el ⊢
                refine ⟨B, F4, ρ3, R'.grow g4, ?_⟩
                cases e5 : me ρ3 with
                | err c => rw [e5] at el; cases el
                | stuck => rw [e5] at el; cases el
                | ok dx =>
                  rw [e5] at el
                  simp only [Res.bind_ok] at el
                  intro F5 H5 v g5 r5
                  cases e6 : lcM b mt me (ds.drop (i + 1)) (wipeE ρ (own.map (·.2))) with
                  | err c => rw [e6] at el; cases el
                  | stuck => rw [e6] at el; cases el
                  | ok us =>
                    rw [e6] at el
                    cases el
                    have nF5 : F5 Da = none := by rw [g5.old _ _ hD4]; exact nF4
                    refine ⟨acc, g5.hh _ _ hD4, by omega, F5, acc ++ [v], xs ++ [dx], us, Grow.poke (g14.trans g5) nD nF5 rfl, upd_same, nF5, (rl.mono (s24.trans (g5.ff g4.sub))).append (.cons r5 .nil), by simp; omega, rfl, by simp⟩
      · refine .inl ⟨J1.stop i F2 H2 (by omega) (g2.ff g.sub) g2.sub, ?_⟩
        have hd : ds.drop i = [] := List.drop_eq_nil_of_le (by omega)
        rw [hd] at el
        cases el
        rw [List.append_nil] at q
        have nH : H Da = none := g.hh.free nD
        exact q F2 H2 Da acc (g.trans g2) nH hD nF rl
theorem PTsi {X : Cx} {e : List Expr} {t t' : TT} (h : PTs X e t) (i : ∀ σ H Q, t' σ H Q → t σ H Q) : PTs X e t' := ⟨fun pins s σ H Q I q => h.run pins s σ H Q I (i σ H Q q)⟩
theorem vts_nil : PTs X [] (tT X.K cl W mYes) := PTsi pts_nil fun σ H Q ⟨B, F, ρ, R, q⟩ => q F H (Grow.refl R.sub R.tups)
theorem vts_one {c : Expr} {m : Env → Res Bool} (h : PT X c (tT X.K cl W m)) : PTs X [c] (tT X.K cl W m) := pts_one h
theorem ve_lcN (hc : X.calm = true) (hN : X.N.Nodup) (hi : PI X tg iter (tI w X.K cl W mi)) (ok : BlkOk X.N X.env.scope scope own)
    (hg : ∀ (s : Shared) (H : Hp) (C : Addr) (c : List (Str × Addr)) (fp : List Addr), PG (X.blk s H scope (compEnvC scope c C X.env) fp) tg (tG w X.K cl is b)) (his : ∀ i ∈ is, i ∈ own.map (·.2))
    (ht : ∀ (s : Shared) (H : Hp) (C : Addr) (c : List (Str × Addr)) (fp : List Addr), PTs (X.blk s H scope (compEnvC scope c C X.env) fp) ifs (tT X.K cl noW mt))
    (he : ∀ (s : Shared) (H : Hp) (C : Addr) (c : List (Str × Addr)) (fp : List Addr), PE (X.blk s H scope (compEnvC scope c C X.env) fp) elt (tE X.K cl noW me)) (hs : ∀ x, foldedSetIterable iter X.env x = pure x := by intro _; rfl) :
    PE X (.ListComp elt [⟨tg, iter, ifs, 0⟩] scope pos) (tN X.K cl W (mLcL mi b mt me (own.map (·.2)))) :=
  PEi (pe_lc hc hN hi ok hg ht he hs) (lc_read his)
theorem ve_lc (hc : X.calm = true) (hN : X.N.Nodup) (hi : PI X tg iter (tI w X.K cl W mi)) (ok : BlkOk X.N X.env.scope scope own)
    (hg : ∀ (s : Shared) (H : Hp) (C : Addr) (c : List (Str × Addr)) (fp : List Addr), PG (X.blk s H scope (compEnvC scope c C X.env) fp) tg (tG w X.K cl is b)) (his : ∀ i ∈ is, i ∈ own.map (·.2))
    (ht : ∀ (s : Shared) (H : Hp) (C : Addr) (c : List (Str × Addr)) (fp : List Addr), PTs (X.blk s H scope (compEnvC scope c C X.env) fp) ifs (tT X.K cl noW mt))
    (he : ∀ (s : Shared) (H : Hp) (C : Addr) (c : List (Str × Addr)) (fp : List Addr), PE (X.blk s H scope (compEnvC scope c C X.env) fp) elt (tE X.K cl noW me)) (hs : ∀ x, foldedSetIterable iter X.env x = pure x := by intro _; rfl) :
    PE X (.ListComp elt [⟨tg, iter, ifs, 0⟩] scope pos) (tE X.K cl W (mLc mi b mt me (own.map (·.2)))) := pe_N (ve_lcN hc hN hi ok hg his ht he hs)
/-- y = [..] on one line -/
theorem vs_setLc {H0 F0 : Hp} {i : Nat} {y : Str} {py spos : Pos} (hc : X.calm = true) (hN : X.N.Nodup) (hy : X.N[i]? = some y) (hyl : X.env.scope.names.lookup y = some .local)
    (hsw : swapsWith (.ListComp elt [⟨tg, iter, ifs, 0⟩] scope pos) (some (.Name y py)) spos.line X.env = pure true) (hi : PI X tg iter (tI w X.K cl W mi)) (ok : BlkOk X.N X.env.scope scope own)
    (hg : ∀ (s : Shared) (H : Hp) (C : Addr) (c : List (Str × Addr)) (fp : List Addr), PG (X.blk s H scope (compEnvC scope c C X.env) fp) tg (tG w X.K cl is b)) (his : ∀ i ∈ is, i ∈ own.map (·.2))
    (ht : ∀ (s : Shared) (H : Hp) (C : Addr) (c : List (Str × Addr)) (fp : List Addr), PTs (X.blk s H scope (compEnvC scope c C X.env) fp) ifs (tT X.K cl noW mt))
    (he : ∀ (s : Shared) (H : Hp) (C : Addr) (c : List (Str × Addr)) (fp : List Addr), PE (X.blk s H scope (compEnvC scope c C X.env) fp) elt (tE X.K cl noW me)) (hs : ∀ x, foldedSetIterable iter X.env x = pure x := by intro _; rfl) :
    PS X (.Assign [.Name y py] (.ListComp elt [⟨tg, iter, ifs, 0⟩] scope pos) spos) (tS X.K cl H0 F0 W (sSet i (mLc mi b mt me (own.map (·.2))))) :=
  PSi (ps_setLc hc hN hy hyl hsw hi ok hg ht he hs) fun D σ H ⟨F, ρ, R, q⟩ => by
    have z : tE X.K cl W (mLc mi b mt me (own.map (·.2))) σ H (fun v H1 => gName i v σ H1 D.nx) := thenS R q fun d F1 H1 v _ R1 r q1 => q1 F1 H1 _ (Same.refl _) ⟨R1.rel.set i r, R1.gr⟩
    obtain ⟨B, F', ρ', R', q'⟩ := z
    exact lc_read his σ H _ ⟨B, F', ρ', R', outN_E q'⟩
end
end CH
namespace CH
open PySem PySem.Spec L2

/-! ## numbers -/
def dAdd : D → D → Res D
  | .int i, .int j => .ok (.int (i + j))
  | .str x, .str y => if x.length + y.length ≤ sizeLine then .ok (.str (x ++ y)) else .stuck
  | .tup xs, .tup ys => if xs.length + ys.length ≤ sizeLine then .ok (.tup (xs ++ ys)) else .stuck
  | .lst xs, .lst ys => if xs.length + ys.length ≤ sizeLine then .ok (.lst (xs ++ ys)) else .stuck
  | _, _ => .stuck
def dSub : D → D → Res D
  | .int i, .int j => .ok (.int (i - j))
  | _, _ => .stuck
def mulOk (i j : Int) : Bool := !(decide (Builtin.Int.intBits i > shortFactorBits) && decide (Builtin.Int.intBits j > shortFactorBits) && Builtin.Int.intTooBig (Builtin.Int.intBits i + Builtin.Int.intBits j))
theorem mulOk_ok {i j : Int} (h : mulOk i j = true) : IntMulOk i j := by
  unfold mulOk at h
  unfold IntMulOk
  intro z
  rw [z] at h
  cases h
/-- * of numbers; a tuple or a list times a number -/
def dMul : D → D → Res D
  | .int i, .int j => if mulOk i j then .ok (.int (i * j)) else .stuck
  | .tup xs, .int k => if xs ≠ [] ∧ 2 ≤ k ∧ k ≤ 1000 ∧ xs.length ≤ 1000 then .ok (.tup (List.replicate k.toNat xs).flatten) else if xs ≠ [] ∧ k = 1 then .ok (.tup xs) else .stuck
  | .lst xs, .int k => if 0 ≤ k ∧ k < 1000 ∧ xs.length ≤ 1000 then .ok (.lst (List.replicate k.toNat xs).flatten) else .stuck
  | _, _ => .stuck
def dMod : D → D → Res D
  | .int i, .int j => if 0 < j then .ok (.int (i % j)) else .stuck
  | _, _ => .stuck
def dDiv : D → D → Res D
  | .int i, .int j => if 0 < j ∧ Builtin.divisionGoesByPylong i j = false then .ok (.int (i / j)) else .stuck
  | _, _ => .stuck
def dNeg : D → Res D
  | .int i => .ok (.int (-i))
  | _ => .stuck
def dLt : D → D → Res D
  | .int i, .int j => .ok (.bl (decide (i < j)))
  | _, _ => .stuck
def dLe : D → D → Res D
  | .int i, .int j => .ok (.bl (decide (i ≤ j)))
  | _, _ => .stuck
def dGt : D → D → Res D
  | .int i, .int j => .ok (.bl (decide (j < i)))
  | _, _ => .stuck
def dGe : D → D → Res D
  | .int i, .int j => .ok (.bl (decide (j ≤ i)))
  | _, _ => .stuck
section
variable {K : PySem.W.Frag} {cl : Nat → Addr} {F H : Hp} {v : V}
theorem RepB.int {i : Int} (r : RepB K cl F H v (.int i)) : v = .int i := by cases r; rfl
theorem RepB.str {x : Str} (r : RepB K cl F H v (.str x)) : v = .str x := by cases r; rfl
theorem RepB.bl {b : Bool} (r : RepB K cl F H v (.bl b)) : v = .bl b := by cases r; rfl
theorem RepB.non (r : RepB K cl F H v .non) : v = .non := by cases r; rfl
theorem RepB.tup {ds : List D} (r : RepB K cl F H v (.tup ds)) : ∃ a vs, v = .ref a ∧ Tp K F a vs ∧ RepL K cl F vs ds := by
  cases r with | tup h r => exact ⟨_, _, rfl, h, r⟩
theorem sqH {a : Addr} {vs : List V} (s : Same F H) (h : Tp K F a vs) : SqT K H a vs := Same.sqt s h.sq
/-- the answer of an operation is a plain thing -/
theorem out_v {W : Wish} {d : D} {Q : VK} {v : V} (s : Same F H) (t : TupC F H) (q : out K cl W (.ok d) F H Q) (r : Rep K cl F v d) : Q v H := q F H v (Grow.refl s t) r
end
section
variable {X : Cx} {cl : Nat → Addr}
def rCatF (K : PySem.W.Frag) : R2 := fun x y H Q => ∃ a b xs ys, x = .ref a ∧ y = .ref b ∧ SqT K H a xs ∧ SqT K H b ys ∧ xs.length + ys.length ≤ sizeLine ∧
  (xs = [] → Q (.ref b) H) ∧ (xs ≠ [] → ys = [] → Q (.ref a) H) ∧ (xs ≠ [] → ys ≠ [] → NewT H (xs ++ ys) Q)
theorem op_catF : OpR X (binaryOp .Add) (rCatF X.K) := by
  intro pins s σ H x y v u Q I rx ry h
  obtain ⟨a, b, xs, ys, rfl, rfl, ha, hb, hz, q0, q1, q2⟩ := h
  cases rx
  cases ry
  obtain ⟨its, r1, p1, _⟩ := I.tuple ha
  obtain ⟨its2, r2, p2, _⟩ := I.tuple hb
  by_cases hx : xs = []
  · subst hx
    cases r1
    exact cat_tup0 p1 p2 ⟨.ref b, H, I, rfl, q0 rfl⟩
  · refine HT.cat_tup p1 p2 (fun z => hx (r1.nil_iff.mp z)) (fun z => ⟨.ref a, H, I, rfl, q1 hx (r2.nil_iff.mp z)⟩) (fun z => ?_) (by rw [← r1.length, ← r2.length]; exact hz)
    exact ⟨.ref s.heap.objs.size, _, Inv.newT (t' := s.toks) I (r1.append r2) (by rw [List.length_append]; exact hz), rfl, q2 hx (fun w => z (r2.nil_iff.mpr w)) _ _ (I.hok.fresh (Nat.le_refl _)) rfl⟩
def rCatL (K : PySem.W.Frag) : R2 := fun x y H Q => ∃ l b xs zs, x = .ref l ∧ y = .ref b ∧ SqL K H l xs ∧ SqL K H b zs ∧ xs.length + zs.length ≤ sizeLine ∧ ∀ p, H p = none → Q (.ref p) (upd H p (.lst (xs ++ zs)))
theorem op_catL : OpR X (binaryOp .Add) (rCatL X.K) := by
  intro pins s σ H x y v u Q I rx ry h
  obtain ⟨l, b, xs, zs, rfl, rfl, hH, hB, hz, q⟩ := h
  cases rx
  cases ry
  obtain ⟨its, r, pl, z⟩ := I.list hH
  obtain ⟨its2, r2, pl2, z2⟩ := I.list hB
  have hl := r.length
  have hl2 := r2.length
  obtain ⟨⟨cls, dd, data, sl⟩, ho, hc, n, hd⟩ := id pl.isList
  obtain ⟨⟨cls2, dd2, data2, sl2⟩, ho2, hc2, n2, hd2⟩ := id pl2.isList
  simp only at hc hd hc2 hd2
  subst hc hd hc2 hd2
  have ea : its.toArray ++ its2.toArray = (its ++ its2).toArray := by simp
  refine concat_meets ⟨_, ho, rfl⟩ ⟨_, ho2, rfl⟩ noFill_list_add seq_list_add PySem.F.slot_list_add PySem.F.entry_list_add (PySem.F.args_list_add_2 _ _) (PyProof.Rows.list_addW l b its.toArray its2.toArray n n2 dd dd2 sl sl2 (by simp; omega)) ⟨ho, ho2, ?_⟩
  rw [ea]
  exact ⟨.ref _, _, I.lnew (t' := s.toks) (r.append r2) (by rw [List.length_append]; omega), rfl, q _ I.fresh⟩
abbrev rAddA (K : PySem.W.Frag) : R2 := fun x y H Q => (rI0 fun i j => V.int (i + j)) x y H Q ∨ (∃ i j, x = .str i ∧ y = .str j ∧ i.length + j.length ≤ sizeLine ∧ Q (.str (i ++ j)) H) ∨ rCatF K x y H Q ∨ rCatL K x y H Q
theorem o_add : OpR X (binaryOp .Add) (rAddA X.K) := op_add.or (op_add_str.or (op_catF.or op_catL))
theorem f_add : Op2 X.K cl dAdd (rAddA X.K) := by
  intro W F H Q v w x y s t rx ry q
  unfold dAdd at q
  split at q
  · exact .inl ⟨_, _, rx.int, ry.int, out_v s t q (.int _)⟩
  · split at q
    · rename_i h; exact .inr (.inl ⟨_, _, rx.str, ry.str, h, out_v s t q (.str _)⟩)
    · exact False.elim q
  · split at q
    · rename_i xs ys h
      obtain ⟨a, vs, rfl, ha, ra⟩ := rx.tup
      obtain ⟨b, ws, rfl, hb, rb⟩ := ry.tup
      refine .inr (.inr (.inl ⟨a, b, vs, ws, rfl, rfl, sqH s ha, sqH s hb, by rw [ra.length, rb.length]; exact h, fun z => ?_, fun _ z => ?_, fun _ _ => newT_out s t (ra.append rb) q⟩))
      · subst z; cases ra; exact out_v s t q (.tup hb rb)
      · subst z; cases rb; rw [List.append_nil] at q; exact out_v s t q (.tup ha ra)
    · exact False.elim q
  · split at q
    · rename_i xs ys h
      obtain ⟨a, vs, rfl, ha, ra⟩ := rx
      obtain ⟨b, ws, rfl, hb, rb⟩ := ry
      exact .inr (.inr (.inr ⟨a, b, vs, ws, rfl, rfl, ha, hb, by rw [ra.length, rb.length]; exact h, fun p n => newL_out s t (ra.append rb) q n⟩))
    · exact False.elim q
  · exact False.elim q
theorem f_sub : Op2 X.K cl dSub (rI0 fun i j => V.int (i - j)) := by
  intro W F H Q v w x y s t rx ry q
  unfold dSub at q
  split at q
  · exact ⟨_, _, rx.int, ry.int, out_v s t q (.int _)⟩
  · exact False.elim q
theorem f_mod : Op2 X.K cl dMod (rI (fun _ j => 0 < j) fun i j => V.int (i % j)) := by
  intro W F H Q v w x y s t rx ry q
  unfold dMod at q
  split at q
  · split at q
    · rename_i h; exact ⟨_, _, rx.int, ry.int, h, out_v s t q (.int _)⟩
    · exact False.elim q
  · exact False.elim q
theorem o_div : OpR X (binaryOp .FloorDiv) (rI (fun i j => 0 < j ∧ Builtin.divisionGoesByPylong i j = false) fun i j => V.int (i / j)) := opI fun i j _ _ _ _ _ hc q => by
  refine PyProof.Rows.floordiv_int (by omega) ?_ (.inl hc.2)
  rw [Int.fdiv_eq_ediv_of_nonneg _ (by omega)]
  exact q
theorem f_div : Op2 X.K cl dDiv (rI (fun i j => 0 < j ∧ Builtin.divisionGoesByPylong i j = false) fun i j => V.int (i / j)) := by
  intro W F H Q v w x y s t rx ry q
  unfold dDiv at q
  split at q
  · split at q
    · rename_i h; exact ⟨_, _, rx.int, ry.int, h, out_v s t q (.int _)⟩
    · exact False.elim q
  · exact False.elim q
theorem o_mulI : OpR X (binaryOp .Mult) (rI (fun i j => mulOk i j = true) fun i j => V.int (i * j)) := opI fun _ _ _ _ _ _ _ hc q => PyProof.Rows.mul_int q (mulOk_ok hc)
theorem f_neg : Op1 X.K cl dNeg (rU fun i => V.int (-i)) := by
  intro W F H Q v x s t rx q
  unfold dNeg at q
  split at q
  · exact ⟨_, rx.int, out_v s t q (.int _)⟩
  · exact False.elim q
theorem f_lt : Op2 X.K cl dLt (rI0 fun i j => V.bl (decide (i < j))) := by
  intro W F H Q v w x y s t rx ry q
  unfold dLt at q
  split at q
  · exact ⟨_, _, rx.int, ry.int, out_v s t q (.bl _)⟩
  · exact False.elim q
theorem f_le : Op2 X.K cl dLe (rI0 fun i j => V.bl (decide (i ≤ j))) := by
  intro W F H Q v w x y s t rx ry q
  unfold dLe at q
  split at q
  · exact ⟨_, _, rx.int, ry.int, out_v s t q (.bl _)⟩
  · exact False.elim q
theorem f_gt : Op2 X.K cl dGt (rI0 fun i j => V.bl (decide (j < i))) := by
  intro W F H Q v w x y s t rx ry q
  unfold dGt at q
  split at q
  · exact ⟨_, _, rx.int, ry.int, out_v s t q (.bl _)⟩
  · exact False.elim q
theorem f_ge : Op2 X.K cl dGe (rI0 fun i j => V.bl (decide (j ≤ i))) := by
  intro W F H Q v w x y s t rx ry q
  unfold dGe at q
  split at q
  · exact ⟨_, _, rx.int, ry.int, out_v s t q (.bl _)⟩
  · exact False.elim q
/-- * -/
def rRepF (K : PySem.W.Frag) : R2 := fun x y H Q => ∃ l k xs, x = .ref l ∧ y = .int k ∧ SqT K H l xs ∧ xs ≠ [] ∧ 2 ≤ k ∧ k ≤ 1000 ∧ xs.length ≤ 1000 ∧ NewT H (List.replicate k.toNat xs).flatten Q
end

/-! ## == -/
mutual
def D.py : D → Option PyData
  | .non => some .none
  | .bl b => some (.bool b)
  | .int i => some (.int i)
  | .str x => some (.str x)
  | .tup xs => (pyL xs).map .tuple
  | .lst xs => (pyL xs).map .list
  | .dct _ => none
  | .ins _ _ => none
def pyL : List D → Option (List PyData)
  | [] => some []
  | x :: xs => (D.py x).bind fun a => (pyL xs).map (a :: ·)
end
def dEqB (x y : D) : Res Bool := match x.py, y.py with
  | some p, some q => if SeqAt.shaped p && SeqAt.shaped q then .ok (PyData.eqv p q) else .stuck
  | _, _ => .stuck
def dEq (x y : D) : Res D := (dEqB x y).bind fun b => .ok (.bl b)
def dNe (x y : D) : Res D := (dEqB x y).bind fun b => .ok (.bl (!b))
section
variable {K : PySem.W.Frag} {cl : Nat → Addr} {F H : Hp}
mutual
theorem Rep.dp (s : Same F H) : ∀ {v : V} {d : D} {p : PyData}, Rep K cl F v d → d.py = some p → Dp K H v p
  | _, _, _, .non, e => by simp only [D.py] at e; cases e; exact .non
  | _, _, _, .bl b, e => by simp only [D.py] at e; cases e; exact .bl b
  | _, _, _, .int i, e => by simp only [D.py] at e; cases e; exact .int i
  | _, _, _, .str x, e => by simp only [D.py] at e; cases e; exact .str x
  | _, _, _, .tup h r, e => by
    simp only [D.py, Option.map_eq_some_iff] at e
    obtain ⟨ps, e1, rfl⟩ := e
    exact .tup (Same.sqt s h.sq) (RepL.dp s r e1)
  | _, _, _, .lst h r, e => by
    simp only [D.py, Option.map_eq_some_iff] at e
    obtain ⟨ps, e1, rfl⟩ := e
    exact .lst (Same.sql s h) (RepL.dp s r e1)
  | _, _, _, .dct h r, e => by simp [D.py] at e
  | _, _, _, .ins h r, e => by simp [D.py] at e
theorem RepL.dp (s : Same F H) : ∀ {vs : List V} {ds : List D} {ps : List PyData}, RepL K cl F vs ds → pyL ds = some ps → DpAll K H vs ps
  | _, _, _, .nil, e => by simp only [pyL] at e; cases e; exact .nil
  | _, _, _, .cons h r, e => by
    simp only [pyL, Option.bind_eq_some_iff, Option.map_eq_some_iff] at e
    obtain ⟨a, e1, b, e2, rfl⟩ := e
    exact .cons (Rep.dp s h e1) (RepL.dp s r e2)
end
theorem RepB.dp {v : V} {d : D} {p : PyData} (s : Same F H) (r : RepB K cl F H v d) (e : d.py = some p) : Dp K H v p := by
  cases d with
  | lst ds =>
    obtain ⟨a, vs, rfl, h, r⟩ := r
    simp only [D.py, Option.map_eq_some_iff] at e
    obtain ⟨ps, e1, rfl⟩ := e
    exact .lst h (RepL.dp s r e1)
  | dct ds => simp [D.py] at e
  | non => exact Rep.dp s r e
  | bl _ => exact Rep.dp s r e
  | int _ => exact Rep.dp s r e
  | str _ => exact Rep.dp s r e
  | tup _ => exact Rep.dp s r e
  | ins _ _ => exact Rep.dp s r e
end
section
variable {X : Cx} {cl : Nat → Addr}
theorem f_eq : Op2 X.K cl dEq (rEqD X.K) := by
  intro W F H Q v w x y s t rx ry q
  unfold dEq dEqB at q
  split at q
  · rename_i p p' e1 e2
    split at q
    · rename_i h
      obtain ⟨h1, h2⟩ := Bool.and_eq_true_iff.mp h
      exact ⟨p, p', rx.dp s e1, ry.dp s e2, h1, h2, out_v s t q (.bl _)⟩
    · exact False.elim q
  · exact False.elim q
theorem f_ne : Op2 X.K cl dNe (rNeD X.K) := by
  intro W F H Q v w x y s t rx ry q
  unfold dNe dEqB at q
  split at q
  · rename_i p p' e1 e2
    split at q
    · rename_i h
      obtain ⟨h1, h2⟩ := Bool.and_eq_true_iff.mp h
      exact ⟨p, p', rx.dp s e1, ry.dp s e2, h1, h2, out_v s t q (.bl _)⟩
    · exact False.elim q
  · exact False.elim q
end

/-! ## o[i] -/
def keyEq (j k : D) : Bool := match j, k with
  | .int a, .int b => decide (a = b)
  | .str a, .str b => decide (a = b)
  | _, _ => false
theorem keyEq_key (j k : Key) : keyEq (dKey j) (dKey k) = decide (j = k) := by
  cases j with
  | inl a => cases k with
    | inl b => simp [dKey, keyEq]
    | inr b => simp [dKey, keyEq]
  | inr a => cases k with
    | inl b => simp [dKey, keyEq]
    | inr b => simp [dKey, keyEq]
def lookD (k : D) : List (D × D) → Option D
  | [] => none
  | (j, v) :: r => if keyEq j k then some v else lookD k r
def dIx : D → D → Res D
  | .lst ds, .int i => match atI ds i with | some d => .ok d | none => .stuck
  | .tup ds, .int i => match atI ds i with | some d => .ok d | none => .stuck
  | .str z, .int i => if z.length ≤ sizeLine then match atI z.cps.toList i with | some c => .ok (.str ⟨#[c]⟩) | none => .stuck else .stuck
  | .dct kvs, .int i => match lookD (.int i) kvs with | some d => .ok d | none => .stuck
  | .dct kvs, .str i => match lookD (.str i) kvs with | some d => .ok d | none => .stuck
  | _, _ => .stuck
section
variable {K : PySem.W.Frag} {cl : Nat → Addr} {F H : Hp}
theorem atI_rep {vs : List V} {ds : List D} {i : Int} {d : D} (r : RepL K cl F vs ds) (e : atI ds i = some d) : ∃ v, atI vs i = some v ∧ Rep K cl F v d := by
  unfold atI at e ⊢
  rw [r.length]
  cases h : ixN ds.length i with
  | none => rw [h] at e; cases e
  | some j =>
    rw [h] at e
    obtain ⟨v, h1, h2⟩ := r.get (i := j) e
    exact ⟨v, h1, h2⟩
theorem lookD_rep (k : Key) : ∀ {kvs : List (Key × V)} {ds : List (D × D)}, RepD K cl F kvs ds → (lookD (dKey k) ds = none → valV kvs k = none) ∧ ∀ d, lookD (dKey k) ds = some d → ∃ v, valV kvs k = some v ∧ Rep K cl F v d
  | _, _, .nil => ⟨fun _ => rfl, fun d e => by cases e⟩
  | _, _, .cons (k := j) (v := v) h r => by
    obtain ⟨ih1, ih2⟩ := lookD_rep k r
    unfold lookD
    rw [keyEq_key]
    by_cases e : j = k
    · rw [if_pos (by simpa using e)]
      refine ⟨fun z => by (cases z), fun d z => ?_⟩
      cases z
      exact ⟨v, valV_pos e, h⟩
    · rw [if_neg (by simpa using e)]
      rw [valV_neg e]
      exact ⟨ih1, ih2⟩
end
section
variable {X : Cx} {cl : Nat → Addr}
def rIxD : R2 := fun x y H Q => ∃ a v, x = .ref a ∧ DGet H a y (some v) ∧ Q v H
theorem ix_dict (hu : X.A.units + 1 < cLine) : IxR X rIxD := by
  intro value slice pins s σ H x y v u Q I rx ry q hs
  obtain ⟨a, z, rfl, g, q⟩ := q
  cases rx
  exact PyProof.Rows.tail_any (dict_typeIs I g) PySem.F.slot_dict_getitem.lookup (d_getItem hu I g ry fun w' s3 I3 rw' => ⟨z, H, I3, rw', q⟩) hs
theorem o_ix (hu : X.A.units + 1 < cLine) : IxR X (fun x y H Q => rIx X.K x y H Q ∨ rIxD x y H Q) := ix_seq.or (ix_dict hu)
theorem f_ix : Op2 X.K cl dIx (fun x y H Q => rIx X.K x y H Q ∨ rIxD x y H Q) := by
  intro W F H Q v w x y s t rx ry q
  unfold dIx at q
  split at q
  · split at q
    · rename_i e
      obtain ⟨a, vs, rfl, h, r⟩ := rx
      obtain ⟨z, e1, r1⟩ := atI_rep r e
      exact .inl (.inl ⟨a, vs, _, z, rfl, ry.int, h, e1, out_v s t q r1⟩)
    · exact False.elim q
  · split at q
    · rename_i e
      obtain ⟨a, vs, rfl, h, r⟩ := rx.tup
      obtain ⟨z, e1, r1⟩ := atI_rep r e
      exact .inl (.inr (.inl ⟨a, vs, _, z, rfl, ry.int, sqH s h, e1, out_v s t q r1⟩))
    · exact False.elim q
  · split at q
    · rename_i hz
      split at q
      · rename_i e
        exact .inl (.inr (.inr ⟨_, _, _, rx.str, ry.int, hz, e, out_v s t q (.str _)⟩))
      · exact False.elim q
    · exact False.elim q
  · split at q
    · rename_i kvs i _ d e
      obtain ⟨a, vs, rfl, h, r⟩ := rx
      obtain ⟨z, e1, r1⟩ := (lookD_rep (.inl i) r).2 d e
      exact .inr ⟨a, z, rfl, .inl ⟨vs, .inl i, h, ry.int, e1.symm⟩, out_v s t q r1⟩
    · exact False.elim q
  · split at q
    · rename_i kvs i _ d e
      obtain ⟨a, vs, rfl, h, r⟩ := rx
      obtain ⟨z, e1, r1⟩ := (lookD_rep (.inr i) r).2 d e
      exact .inr ⟨a, z, rfl, .inl ⟨vs, .inr i, h, ry.str, e1.symm⟩, out_v s t q r1⟩
    · exact False.elim q
  · exact False.elim q
end
end CH
namespace CH
open PySem PySem.Spec L2

/-! ## * -/
section
variable {X : Cx} {cl : Nat → Addr}
theorem op_repF : OpR X (binaryOp .Mult) (rRepF X.K) := by
  intro pins s σ H x y v u Q I rx ry h
  obtain ⟨l, k, xs, rfl, rfl, hT, hne, h1, h2, hz, q⟩ := h
  cases rx
  obtain ⟨t, rfl⟩ := ry
  obtain ⟨its, r, ⟨⟨cls, dd, data, sl⟩, ho, hc, n, hd⟩, hs⟩ := I.tuple hT
  simp only at hc hd
  subst hc hd
  have hle : its.length = xs.length := r.length.symm
  have hn : its ≠ [] := fun e => hne (by
    rw [e] at hle
    exact List.eq_nil_of_length_eq_zero hle.symm)
  have hi : its.toArray.isEmpty = false := by
    cases its with
    | nil => exact absurd rfl hn
    | cons a b => rfl
  have hsz0 : its.toArray.size = xs.length := by rw [List.size_toArray, hle]
  have hm : ((its.toArray.size : Nat) : Int) * k ≤ 1000000 := by
    rw [hsz0]
    have a1 : ((xs.length : Nat) : Int) * k ≤ 1000 * k := Int.mul_le_mul_of_nonneg_right (by omega) (by omega)
    omega
  have flen : (List.replicate k.toNat its).flatten.length ≤ sizeLine := by
    rw [PyProof.Rows.lm_len_rep_flat, hle, sizeLine_eq]
    have a1 : k.toNat * xs.length ≤ 1000 * 1000 := Nat.mul_le_mul (by omega) hz
    omega
  have c0 : (decide (k < -(2 ^ 63)) || decide (k ≥ 2 ^ 63)) = false := by
    rw [decide_eq_false (by omega), decide_eq_false (by omega)] <;> rfl
  have c1 : (its.toArray.isEmpty || k == 1) = false := by
    rw [hi, Bool.false_or]
    exact beq_eq_false_iff_ne.mpr (by omega)
  have c2 : (decide (k ≤ 0) || its.toArray.isEmpty) = false := by
    rw [hi, Bool.or_false]
    exact decide_eq_false (by omega)
  have c4 : Builtin.Tuple.tupleTooMany (((its.toArray.size : Nat) : Int) * k) = false := by
    unfold Builtin.Tuple.tupleTooMany
    rw [sizeLine_eq]
    exact decide_eq_false (by omega)
  refine wpAny_binaryOp_repeat_ref (T := "tuple") (U := "int") (by decide) ⟨_, ho, rfl⟩ (fun s' => typeIs_int s' k t) noFill_tuple_mul F.fills_int_mul F.slot_int_rmul repeat_tuple F.slot_int_index.lookup
    (call_meets F.slot_int_rmul (typeIs_int s k t) F.entry_int_rmul (F.args_int_rmul_2 _ _) (int_rmul_tuple k t l its.toArray n dd sl)
      ⟨ho, rfl, ⟨_, ho, rfl⟩, call_meets F.slot_tuple_mul ⟨_, ho, rfl⟩ F.entry_tuple_mul (F.args_tuple_mul_2 _ _) (tuple_mulW l its.toArray n dd sl k t c0 c1 c2 (by omega) c4 (by rw [size_rep, List.size_toArray]; exact flen)) ⟨ho, ?_⟩⟩)
  rw [size_rep]
  exact ⟨.ref s.heap.objs.size, _, Inv.newT (t' := s.toks) I (r.rep k.toNat) (by rw [PyProof.Rows.lm_len_rep_flat, sizeLine_eq]; have a1 : k.toNat * xs.length ≤ 1000 * 1000 := Nat.mul_le_mul (by omega) hz; omega), rfl, q _ _ (I.hok.fresh (Nat.le_refl _)) rfl⟩
theorem RepL.rep {K : PySem.W.Frag} {F : Hp} {vs : List V} {ds : List D} (r : RepL K cl F vs ds) : ∀ k : Nat, RepL K cl F (List.replicate k vs).flatten (List.replicate k ds).flatten
  | 0 => .nil
  | k + 1 => by
    rw [List.replicate_succ, List.replicate_succ, List.flatten_cons, List.flatten_cons]
    exact r.append (RepL.rep r k)
end

/-! ## len, int, abs, isinstance -/
def dLen : D → Res D
  | .lst ds => .ok (.int ds.length)
  | .tup ds => .ok (.int ds.length)
  | .str x => if x.length ≤ sizeLine then .ok (.int x.length) else .stuck
  | _ => .stuck
def dInt : D → Res D
  | .int i => .ok (.int i)
  | .bl b => .ok (.int (if b then 1 else 0))
  | _ => .stuck
def dAbs : D → Res D
  | .int i => .ok (.int (if i < 0 then -i else i))
  | _ => .stuck
def D.ty : D → Option String
  | .non => some "NoneType"
  | .bl _ => some "bool"
  | .int _ => some "int"
  | .str _ => some "str"
  | .tup _ => some "tuple"
  | .lst _ => some "list"
  | .dct _ => some "dict"
  | .ins _ _ => none
def isiB (t T : String) : Bool := (t == T) || (t == "bool" && T == "int")
def dIsi (T : String) (d : D) : Res D := match d.ty with
  | some t => .ok (.bl (isiB t T))
  | none => .stuck
section
variable {X : Cx} {cl : Nat → Addr} {W : Wish} {a : Expr} {ma : ME} {pos : Pos}
abbrev rLenA (K : PySem.W.Frag) : List V → Hp → VK → Prop := fun xs H Q => (∃ p ys, xs = [.ref p] ∧ (SqL K H p ys ∨ SqT K H p ys) ∧ Q (.int ys.length) H) ∨ ∃ z, xs = [.str z] ∧ z.length ≤ sizeLine ∧ Q (.int z.length) H
theorem o_len : CallR X (.builtin "len") (rLenA X.K) := call_len_seq.or call_len_str
theorem f_len : Op1 X.K cl dLen (fun v H Q => rLenA X.K [v] H Q) := by
  intro W F H Q v x s t rx q
  unfold dLen at q
  split at q
  · obtain ⟨a, vs, rfl, h, r⟩ := rx
    exact .inl ⟨a, vs, rfl, .inl h, by rw [r.length]; exact out_v s t q (.int _)⟩
  · obtain ⟨a, vs, rfl, h, r⟩ := rx.tup
    exact .inl ⟨a, vs, rfl, .inr (sqH s h), by rw [r.length]; exact out_v s t q (.int _)⟩
  · split at q
    · rename_i h
      exact .inr ⟨_, by rw [rx.str], h, out_v s t q (.int _)⟩
    · exact False.elim q
  · exact False.elim q
theorem f_int : Op1 X.K cl dInt (fun v H Q => (∃ i, [v] = [V.int i] ∧ Q (.int i) H) ∨ ∃ k, [v] = [V.bl k] ∧ Q (.int (if k then 1 else 0)) H) := by
  intro W F H Q v x s t rx q
  unfold dInt at q
  split at q
  · exact .inl ⟨_, by rw [rx.int], out_v s t q (.int _)⟩
  · exact .inr ⟨_, by rw [rx.bl], out_v s t q (.int _)⟩
  · exact False.elim q
theorem f_abs : Op1 X.K cl dAbs (fun v H Q => ∃ i, [v] = [V.int i] ∧ Q (.int (if i < 0 then -i else i)) H) := by
  intro W F H Q v x s t rx q
  unfold dAbs at q
  split at q
  · exact ⟨_, by rw [rx.int], out_v s t q (.int _)⟩
  · exact False.elim q
theorem RepB.ty {K : PySem.W.Frag} {F H : Hp} {v : V} {x : D} {T : String} (s : Same F H) (r : RepB K cl F H v x) (e : x.ty = some T) : TyX K H v (.type T) := by
  cases x with
  | non => cases e; cases r; exact .base .non
  | bl b => cases e; cases r; exact .base (.bl b)
  | int i => cases e; cases r; exact .base (.int i)
  | str z => cases e; cases r; exact .base (.str z)
  | tup ds =>
    cases e
    obtain ⟨a, vs, rfl, h, _⟩ := RepB.tup r
    rcases h with ⟨o, h, _⟩ | ⟨o, its, n, h1, h2, _⟩
    · exact .fTuple (s _ _ h)
    · exact .kTuple h1 h2
  | lst ds =>
    cases e
    obtain ⟨a, vs, rfl, h, _⟩ := r
    rcases h with (h | ⟨o, h⟩) | ⟨o, its, n, h1, h2, _⟩
    · exact .base (.lst h)
    · exact .base (.frz h)
    · exact .kList h1 h2
  | dct ds =>
    cases e
    obtain ⟨a, vs, rfl, h, _⟩ := r
    rcases h with h | ⟨o, h⟩
    · exact .base (.dK h)
    · exact .fDict h
  | ins c fs => cases e
/-- the answers for the built-in classes that are asked for -/
def askd : List String := ["int", "str", "bool", "tuple", "list"]
theorem kit_all : (["NoneType", "bool", "int", "str", "tuple", "list", "dict"].all fun t => askd.all fun T => decide (kitB t T = some (isiB t T))) = true := by decide +kernel
theorem kit_isi {x : D} {t T : String} (e : x.ty = some t) (h : T ∈ askd) : kitB t T = some (isiB t T) := by
  have k := kit_all
  rw [List.all_eq_true] at k
  have ht : t ∈ ["NoneType", "bool", "int", "str", "tuple", "list", "dict"] := by
    cases x <;> simp only [D.ty] at e <;> first | (cases e; simp) | cases e
  have k1 := k t ht
  rw [List.all_eq_true] at k1
  exact of_decide_eq_true (k1 T h)
theorem ve_isi {T : String} {x : Str} {p p2 : Pos} (hT : T ∈ askd) (hg : Gl X "isinstance") (hm : X.mg "isinstance" = none) (hgT : Gl X x) (hmT : X.mg x = none) (hv : bootBuiltins x = some (.type T)) (ha : PE X a (tB X.K cl W ma))
    (hn : x ≠ "__name__" := by decide) (hdb : (x == ("__debug__" : Str)) = false := by decide) (hs : starEach [a, .Name x p2] X.env = (false, eval a X.env) :: starEach [.Name x p2] X.env := by rfl) : PE X (.Call (.Name "isinstance" p) [a, .Name x p2] [] pos) (tE X.K cl W (m1 (dIsi T) ma)) := by
  refine PEi (pe_callB call_isi hg hm PyProof.Rows.boot_isinstance (pa_cons ha (pa_cons (pe_bltn (v := .ty T) hgT hmT hv rfl hn hdb) pa_nil rfl) hs) (by decide) (by decide) hs rfl) fun σ H Q ⟨B, F, ρ, R, q⟩ => thenB R q fun d F1 H1 v _ g r q1 => ?_
  unfold dIsi at q1
  cases e : d.ty with
  | none => rw [e] at q1; exact False.elim q1
  | some t =>
    rw [e] at q1
    exact ⟨v, .ty T, .type t, .type T, isiB t T, rfl, .ty T, r.ty g.sub e, kit_ty (kit_isi e hT), out_v g.sub g.tups q1 (.bl _)⟩
end

/-! ## dicts, read -/
def asKey : D → Option Key
  | .int i => some (.inl i)
  | .str x => some (.inr x)
  | _ => none
def putD (kvs : List (D × D)) (k v : D) : List (D × D) :=
  if (kvs.any fun kv => keyEq kv.1 k) = true then kvs.map (fun kv => if keyEq kv.1 k then (kv.1, v) else kv) else kvs ++ [(k, v)]
def pairsD : List D → Option (List (D × D))
  | [] => some []
  | .tup [k, v] :: r => match asKey k with
    | some _ => (pairsD r).map ((k, v) :: ·)
    | none => none
  | _ => none
def mergeD (kvs more : List (D × D)) : List (D × D) := more.foldl (fun acc kv => putD acc kv.1 kv.2) kvs
def dDict : D → Res D
  | .tup ds => match pairsD ds with
    | some kvs => .ok (.dct (mergeD [] kvs))
    | none => .stuck
  | .lst ds => match pairsD ds with
    | some kvs => .ok (.dct (mergeD [] kvs))
    | none => .stuck
  | _ => .stuck
/-- d.get(k, x) -/
def dGet2 (d k x : D) : Res D := match d, asKey k with
  | .dct kvs, some _ => .ok ((lookD k kvs).getD x)
  | _, _ => .stuck
theorem asKey_key {k : D} {j : Key} (e : asKey k = some j) : k = dKey j := by
  cases k <;> simp only [asKey] at e <;> first | (cases e; rfl) | cases e
section
variable {K : PySem.W.Frag} {cl : Nat → Addr} {F : Hp}
theorem RepD.any (k : Key) : ∀ {kvs : List (Key × V)} {ds : List (D × D)}, RepD K cl F kvs ds → (kvs.any fun kv => decide (kv.1 = k)) = ds.any fun kv => keyEq kv.1 (dKey k)
  | _, _, .nil => rfl
  | _, _, .cons h r => by rw [List.any_cons, List.any_cons, RepD.any k r, keyEq_key]
theorem RepD.repl (k : Key) {v : V} {d : D} (rv : Rep K cl F v d) : ∀ {kvs : List (Key × V)} {ds : List (D × D)}, RepD K cl F kvs ds → RepD K cl F (kvs.map fun kv => if kv.1 = k then (kv.1, v) else kv) (ds.map fun kv => if keyEq kv.1 (dKey k) then (kv.1, d) else kv)
  | _, _, .nil => .nil
  | _, _, .cons (k := j) h r => by
    rw [List.map_cons, List.map_cons]
    dsimp only
    rw [keyEq_key]
    by_cases e : j = k
    · rw [if_pos e, if_pos (by simpa using e)]
      exact .cons rv (RepD.repl k rv r)
    · rw [if_neg e, if_neg (by simpa using e)]
      exact .cons h (RepD.repl k rv r)
theorem RepD.snoc {k : Key} {v : V} {d : D} (rv : Rep K cl F v d) : ∀ {kvs : List (Key × V)} {ds : List (D × D)}, RepD K cl F kvs ds → RepD K cl F (kvs ++ [(k, v)]) (ds ++ [(dKey k, d)])
  | _, _, .nil => .cons rv .nil
  | _, _, .cons h r => .cons h (RepD.snoc rv r)
theorem RepD.put {kvs : List (Key × V)} {ds : List (D × D)} {k : Key} {v : V} {d : D} (r : RepD K cl F kvs ds) (rv : Rep K cl F v d) : RepD K cl F (putK kvs k v) (putD ds (dKey k) d) := by
  unfold putK putD
  rw [RepD.any k r]
  split
  · exact r.repl k rv
  · exact r.snoc rv
theorem RepD.merge : ∀ {more kvs : List (Key × V)} {ms ds : List (D × D)}, RepD K cl F more ms → RepD K cl F kvs ds → RepD K cl F (mergeK kvs more) (mergeD ds ms)
  | _, _, _, _, .nil, r => r
  | _, _, _, _, .cons h q, r => by
    unfold mergeK mergeD
    rw [List.foldl_cons, List.foldl_cons]
    exact RepD.merge q (r.put h)
theorem RepD.length : ∀ {kvs : List (Key × V)} {ds : List (D × D)}, RepD K cl F kvs ds → kvs.length = ds.length
  | _, _, .nil => rfl
  | _, _, .cons _ r => by rw [List.length_cons, List.length_cons, RepD.length r]
/-- pairs of a key and a value, at addresses -/
theorem pairs_rep : ∀ {vs : List V} {ds : List D} {kvs : List (D × D)}, RepL K cl F vs ds → pairsD ds = some kvs → ∃ (ps : List Addr) (qs : List (Key × V)), vs = ps.map V.ref ∧ Paired (fun p kv => Tp K F p [kV kv.1, kv.2]) ps qs ∧ RepD K cl F qs kvs
  | _, _, _, .nil, e => by cases e; exact ⟨[], [], rfl, .nil, .nil⟩
  | _, _, _, .cons (d := d) h r, e => by
    unfold pairsD at e
    split at e
    · rename_i e0; cases e0
    · rename_i k v r' e0
      cases e0
      split at e
      · rename_i j ej
        rw [Option.map_eq_some_iff] at e
        obtain ⟨more, e1, rfl⟩ := e
        obtain ⟨ps, qs, rfl, hp, rq⟩ := pairs_rep r e1
        have ek := asKey_key ej
        subst ek
        cases h with
        | tup ht hr =>
          cases hr with
          | cons h1 hr =>
            cases hr with
            | cons h2 hr =>
              cases hr
              rename_i a v1 v2
              have e1 : v1 = kV j := by
                cases j with
                | inl i => cases h1; rfl
                | inr x => cases h1; rfl
              subst e1
              exact ⟨a :: ps, (j, v2) :: qs, rfl, .cons ht hp, .cons h2 rq⟩
      · cases e
    · cases e
theorem tps_sq {H : Hp} (s : Same F H) : ∀ {ps : List Addr} {qs : List (Key × V)}, Paired (fun p kv => Tp K F p [kV kv.1, kv.2]) ps qs → Paired (fun p kv => SqT K H p [kV kv.1, kv.2]) ps qs
  | _, _, .nil => .nil
  | _, _, .cons h r => .cons (sqH s h) (tps_sq s r)
end
section
variable {X : Cx} {cl : Nat → Addr} {W : Wish} {a b c : Expr} {ma mb mc : ME} {pos : Pos}
/-- dict(t) of a tuple of pairs -/
def rDictT (K : PySem.W.Frag) : List V → Hp → VK → Prop := fun xs H Q => ∃ (a : Addr) (ps : List Addr) (kvs : List (Key × V)), xs = [.ref a] ∧ Tp K H a (ps.map V.ref) ∧ Paired (fun p kv => SqT K H p [kV kv.1, kv.2]) ps kvs ∧
    ∀ p, H p = none → Q (.ref p) (upd H p (.dK (mergeK [] kvs)))
theorem pairs_two {pins : List (Addr × Obj)} {σ : St} {H : Hp} {s : Shared} (I : Inv X pins σ H s) : ∀ {ps : List Addr} {kvs : List (Key × V)}, Paired (fun p kv => SqT X.K H p [kV kv.1, kv.2]) ps kvs →
    ∃ (prs : List (Key × Value)) (kws : List (Value × Value)), KV kvs prs ∧ prs.length = ps.length ∧ kws.length = ps.length ∧ ∀ (j : Nat) (u v : Value), kws[j]? = some (u, v) → ∃ (b : Addr) (k : Key), ps[j]? = some b ∧ PyProof.Rows.IsTup s.heap b #[u, v] ∧ prs[j]? = some (k, v) ∧ keyIs k u = true
  | _, _, .nil => ⟨[], [], .nil, rfl, rfl, fun j u v e => by simp at e⟩
  | _, _, .cons (a := p) (b := kv) h t => by
    obtain ⟨prs, kws, r, hl, hl2, hp⟩ := pairs_two I t
    obtain ⟨its, rv, ht, _⟩ := I.tuple h
    obtain ⟨u, y, ei, ru, ry⟩ := vals2 rv
    subst ei
    refine ⟨(kv.1, y) :: prs, (u, y) :: kws, .cons ⟨rfl, ry⟩ r, by rw [List.length_cons, List.length_cons, hl], by rw [List.length_cons, List.length_cons, hl2], fun j u' v' e => ?_⟩
    cases j with
    | zero =>
      have e' : (u, y) = (u', v') := Option.some.inj e
      cases e'
      exact ⟨p, kv.1, rfl, ht, rfl, kV_is (P := X.prog) (w := X.w) ru⟩
    | succ j =>
      obtain ⟨b, k, e1, e2, e3, e4⟩ := hp j u' v' (by simpa using e)
      exact ⟨b, k, by simpa using e1, e2, by simpa using e3, e4⟩
theorem call_dictT (hcalm : X.calm = true) : CallR X (.type "dict") (rDictT X.K) := by
  intro pins s σ H xs us Q I r q
  obtain ⟨a, ps, kvs, ex, hq, hp, q⟩ := q
  subst ex
  obtain ⟨u, eu, rx⟩ := vals1 r
  subst eu
  cases rx
  obtain ⟨its, rv, pl, hz⟩ := I.tuple hq.sq
  have ei := refs_at rv
  subst ei
  rw [List.length_map] at hz
  obtain ⟨prs, kws, rel, hl, hl2, hpr⟩ := pairs_two I hp
  have plain : PlainSeq "tuple" s.heap a (ps.map Value.ref).toArray := by
    rcases hq with ⟨o, h, hd⟩ | ⟨o, its', n, h1, h2, hd, h3, _⟩
    · obtain ⟨e, _⟩ := I.hok a _ h
      obtain ⟨o', e', c', n', d'⟩ := pl
      rw [e] at e'; cases e'
      exact ⟨o, n', e, c', hd, d'⟩
    · have e := I.kIn a o h1
      obtain ⟨o', e', c', n', d'⟩ := pl
      rw [e] at e'; cases e'
      exact ⟨o, n', e, c', hd, d'⟩
  refine PySem.call_dict_pairs (knd := mixKind X.prog X.w) (kvs := prs) (PairArg.tuple a (ps.map Value.ref).toArray (fun j => ps.getD j 0) kws) (I.ok.hd hcalm) ⟨plain, by simp [hl2], fun j k v e => ?_⟩ ⟨by rw [hl, hl2], fun i key v e => ?_⟩ (by rw [hl2]; exact hz) fun h' tk hd' k => ?_
  · obtain ⟨b, k', e1, e2, _⟩ := hpr j k v e
    have : ps.getD j 0 = b := by rw [List.getD_eq_getElem?_getD, e1]; rfl
    dsimp only
    rw [this]
    exact ⟨by simp [e1], .inl e2⟩
  · obtain ⟨b, k', _, _, e3, e4⟩ := hpr i key v e
    exact ⟨k', e3, e4⟩
  · have hm : (s.heap.objs.size == sysModules) = false := beq_eq_false_iff_ne.mpr (Nat.ne_of_gt I.big)
    have hlen : (mergeK [] kvs).length ≤ sizeLine := by
      refine Nat.le_trans (length_mergeK kvs []) ?_
      rw [List.length_nil, Nat.zero_add, rel.length, hl]
      exact hz
    exact ⟨.ref s.heap.objs.size, upd H s.heap.objs.size (.dK (mergeK [] kvs)), I.laid (t' := tk) (fun b o e => k b o (by simp) e) (Nat.le_refl _) (show ObjOk X.prog X.w _ _ _ (.dK (mergeK [] kvs)) from ⟨hlen, hm, merged [] prs, KV.merge rel .nil, hd'⟩), rfl, q _ (I.hok.fresh (Nat.le_refl _))⟩
abbrev rDictA (K : PySem.W.Frag) : List V → Hp → VK → Prop := fun xs H Q => rDictT K xs H Q ∨ ∃ (a : Addr) (ps : List Addr) (kvs : List (Key × V)), xs = [.ref a] ∧ SqL K H a (ps.map V.ref) ∧ Paired (fun p kv => SqT K H p [kV kv.1, kv.2]) ps kvs ∧
    ∀ p, H p = none → Q (.ref p) (upd H p (.dK (mergeK [] kvs)))
theorem o_dict (hcalm : X.calm = true) : CallR X (.type "dict") (rDictA X.K) := (call_dictT hcalm).or (call_dictP hcalm)
theorem newD_out {K : PySem.W.Frag} {F H : Hp} {kvs : List (Key × V)} {ds : List (D × D)} {Q : VK} {p : Addr} (s : Same F H) (t : TupC F H) (r : RepD K cl F kvs ds) (q : out K cl W (.ok (.dct ds)) F H Q) (n : H p = none) : Q (.ref p) (upd H p (.dK kvs)) :=
  q _ _ _ (Grow.new s t n) (.dct (.inl upd_same) (r.mono fun a u e => by rw [upd_ne (ne_of_none (s a u e) n)]; exact e))
theorem f_dict : Op1 X.K cl dDict (fun v H Q => rDictA X.K [v] H Q) := by
  intro W F H Q v x s t rx q
  unfold dDict at q
  split at q
  · split at q
    · rename_i kvs e
      obtain ⟨a, vs, rfl, h, r⟩ := rx.tup
      obtain ⟨ps, qs, rfl, hp, rq⟩ := pairs_rep r e
      exact .inl ⟨a, ps, qs, rfl, Same.tp s h, tps_sq s hp, fun p n => newD_out s t (RepD.merge rq .nil) q n⟩
    · exact False.elim q
  · split at q
    · rename_i kvs e
      obtain ⟨a, vs, rfl, h, r⟩ := rx
      obtain ⟨ps, qs, rfl, hp, rq⟩ := pairs_rep r e
      exact .inr ⟨a, ps, qs, rfl, h, tps_sq s hp, fun p n => newD_out s t (RepD.merge rq .nil) q n⟩
    · exact False.elim q
  · exact False.elim q
/-- d.get(k, x) -/
def mGet (a b c : ME) : ME := fun ρ => (a ρ).bind fun d => match d with
  | .dct kvs => (b ρ).bind fun k => (c ρ).bind fun x => match asKey k with
    | some _ => .ok ((lookD k kvs).getD x)
    | none => .stuck
  | _ => .stuck
theorem ve_get {apos : Pos} (hu : X.A.units + 1 < cLine) (ha : PE X a (tB X.K cl W ma)) (hb : PE X b (tE X.K cl W mb)) (hc : PE X c (tE X.K cl W mc)) (m : M2 X a "get" apos b c pos) : PE X (.Call (.Attribute a "get" apos) [b, c] [] pos) (tE X.K cl W (mGet ma mb mc)) := by
  refine PEi (pe_dget2 hu ha hb hc m) fun σ H Q ⟨B, F, ρ, R, q⟩ => thenB R q fun d F1 H1 v _ g1 r1 q1 => ?_
  cases d with
  | dct kvs =>
    obtain ⟨a, vs, rfl, h, r⟩ := r1
    refine ⟨a, rfl, .inl ⟨vs, h⟩, thenE (R.grow g1) q1 fun k F2 H2 w _ g2 r2 q2 => thenE ((R.grow g1).grow g2) q2 fun x F3 H3 z _ g3 r3 q3 => ?_⟩
    cases ek : asKey k with
    | none => rw [ek] at q3; exact False.elim q3
    | some j =>
      rw [ek] at q3
      have e := asKey_key ek
      subst e
      have ew : w = kV j := by
        cases j with
        | inl i => cases r2; rfl
        | inr x => cases r2; rfl
      subst ew
      have r' := (r.mono (g2.ff g1.sub)).mono (g3.ff g2.sub)
      obtain ⟨l1, l2⟩ := lookD_rep j r'
      refine ⟨valV vs j, .inl ⟨vs, j, Same.rd g3.hh (Same.rd g2.hh h), rfl, rfl⟩, out_v g3.sub g3.tups q3 ?_⟩
      cases el : lookD (dKey j) kvs with
      | none => rw [l1 el]; exact r3
      | some d =>
        obtain ⟨y, e1, r1⟩ := l2 d el
        rw [e1]
        exact r1
  | _ => exact False.elim q1
/-- xs[::-1] -/
def dRev : D → Res D
  | .lst ds => .ok (.lst ds.reverse)
  | _ => .stuck
theorem ve_rev {k : Nat} {p1 p2 p3 : Pos} (ha : PE X a (tB X.K cl W ma)) : PE X (.Subscript a (.Slice none none (some (.UnaryOp .USub (.Constant (.int 1) k p1) p2)) p3) pos) (tE X.K cl W (m1 dRev ma)) :=
  PEi (pe_revL ha) fun σ H Q ⟨B, F, ρ, R, q⟩ => thenB R q fun d F1 H1 v _ g r q1 => by
    cases d with
    | lst ds =>
      obtain ⟨a, vs, rfl, h, r⟩ := r
      exact ⟨a, vs, rfl, h, fun p n => newL_out g.sub g.tups r.reverse q1 n⟩
    | _ => exact False.elim q1
end

/-! ## what is walked -/
def dItems : D → Res (List D)
  | .lst ds => .ok ds
  | .tup ds => .ok ds
  | .str x => .ok (x.cps.toList.map fun c => .str ⟨#[c]⟩)
  | _ => .stuck
def mItems (a : ME) : Env → Res (List D) := fun ρ => (a ρ).bind dItems
def rangeD (lo : Int) (n : Nat) : List D := (List.range n).map fun (i : Nat) => .int (lo + (i : Int))
/-- a number that range() takes -/
def rgB (j : Int) : Bool := Nat.ble j.natAbs 4611686018427387903
theorem rgB_lt {j : Int} (h : rgB j = true) : -(2 ^ 62) ≤ j ∧ j < 2 ^ 62 := by
  have h1 : j.natAbs ≤ 4611686018427387903 := Nat.le_of_ble_eq_true h
  omega
theorem rgB_ok {j : Int} (h1 : -(2 ^ 62) < j) (h2 : j < 2 ^ 62) : rgB j = true := by
  have h : j.natAbs ≤ 4611686018427387903 := by omega
  exact Nat.ble_eq_true_of_le h
def mRange1 (a : ME) : Env → Res (List D) := fun ρ => (a ρ).bind fun d => match d with
  | .int j => if rgB j = true then .ok (rangeD 0 j.toNat) else .stuck
  | _ => .stuck
def mRange2 (a b : ME) : Env → Res (List D) := fun ρ => (a ρ).bind fun x => (b ρ).bind fun y => match x, y with
  | .int i, .int j => if (rgB i && rgB j) = true then .ok (rangeD i (j - i).toNat) else .stuck
  | _, _ => .stuck
section
variable {K : PySem.W.Frag} {cl : Nat → Addr} {F : Hp}
theorem it_list {a : Addr} {vs : List V} {ds : List D} (w : Bool) (h : SqL K F a vs) (r : RepL K cl F vs ds) : IterOf w K cl (Itl K a) F ds where
  go := fun i d F1 H e s1 s2 t => by
    obtain ⟨v, e1, rv⟩ := r.get e
    have hq : SqL K H a vs := Same.sql (s1.trans s2) h
    refine ⟨⟨vs, v, hq, e1⟩, fun x H' y => ?_⟩
    obtain ⟨rfl, y⟩ := y
    have := y vs hq
    rw [e1] at this
    cases this
    exact ⟨F1, Grow.refl s2 t, (rv.mono s1).toX w⟩
  stop := fun i F1 H l s1 s2 => ⟨vs, Same.sql (s1.trans s2) h, by rw [r.length]; exact Nat.le_of_eq l⟩
theorem it_tup {a : Addr} {vs : List V} {ds : List D} (w : Bool) (h : SqT K F a vs) (r : RepL K cl F vs ds) : IterOf w K cl (Itt K a) F ds where
  go := fun i d F1 H e s1 s2 t => by
    obtain ⟨v, e1, rv⟩ := r.get e
    have hq : SqT K H a vs := Same.sqt (s1.trans s2) h
    refine ⟨⟨vs, v, hq, e1⟩, fun x H' y => ?_⟩
    obtain ⟨rfl, y⟩ := y
    have := y vs hq
    rw [e1] at this
    cases this
    exact ⟨F1, Grow.refl s2 t, (rv.mono s1).toX w⟩
  stop := fun i F1 H l s1 s2 => ⟨vs, Same.sqt (s1.trans s2) h, by rw [r.length]; exact Nat.le_of_eq l⟩
theorem it_range (w : Bool) (lo : Int) (n : Nat) : IterOf w K cl (Itr lo n) F (rangeD lo n) where
  go := fun i d F1 H e s1 s2 t => by
    have hi : i < n := by
      have := (List.getElem?_eq_some_iff.mp e).1
      simpa [rangeD] using this
    refine ⟨hi, fun x H' y => ?_⟩
    obtain ⟨rfl, rfl⟩ := y
    have e' : d = .int (lo + i) := by
      simp only [rangeD, List.getElem?_map, List.getElem?_range hi, Option.map_some, Option.some.injEq] at e
      exact e.symm
    subst e'
    exact ⟨F1, Grow.refl s2 t, (Rep.int _).toX w⟩
  stop := fun i F1 H l s1 s2 => by
    have : n ≤ i := by have := Nat.le_of_eq l; simpa [rangeD] using this
    exact this
theorem it_str (w : Bool) (x : Str) : IterOf w K cl (Its x) F (x.cps.toList.map fun c => .str ⟨#[c]⟩) where
  go := fun i d F1 H e s1 s2 t => by
    have hi : i < x.cps.size := by
      have := (List.getElem?_eq_some_iff.mp e).1
      simpa using this
    refine ⟨hi, fun v H' y => ?_⟩
    obtain ⟨rfl, c, ec, rfl⟩ := y
    simp only [List.getElem?_map, Array.getElem?_toList, ec, Option.map_some, Option.some.injEq] at e
    subst e
    exact ⟨F1, Grow.refl s2 t, (Rep.str _).toX w⟩
  stop := fun i F1 H l s1 s2 => by
    have : x.cps.size ≤ i := by have := Nat.le_of_eq l; simpa using this
    exact this
end
section
variable {X : Cx} {cl : Nat → Addr} {W : Wish} {tg e e2 : Expr} {te : TE} {ma mb : ME} {pos : Pos}
/-- anything that is walked item by item: a list, a tuple, a text -/
def iAny (K : PySem.W.Frag) (te : TE) : TI := fun σ H R => te σ H fun x H1 => (∃ a xs, x = .ref a ∧ SqL K H1 a xs ∧ R (Itl K a) H1) ∨ (∃ a xs, x = .ref a ∧ SqT K H1 a xs ∧ R (Itt K a) H1) ∨ ∃ z, x = .str z ∧ R (Its z) H1
theorem pi_any (he : PE X e te) : PI X tg e (iAny X.K te) := by
  refine ⟨fun pins s σ H R I h => ?_⟩
  refine thn (he.run pins s σ H _ I h) fun v s1 ⟨x, H1, I1, r1, q1⟩ => ?_
  rcases q1 with ⟨a, xs, e, hq, q⟩ | ⟨a, xs, e, hq, q⟩ | ⟨z, e, q⟩
  · subst e
    cases r1
    obtain ⟨its, rv, p, hz⟩ := I1.list hq
    refine wpAny_pyIter_list p.isList ?_
    refine ⟨s1.heap.objs.size, [s1.heap.objs.size], _, _, H1, rfl, I1.kept (t' := s1.toks) fun b o e => Heap.get?_push_of_some _ e, turn_list a _, ⟨_, Heap.get?_push_size _ rfl, rfl, rfl⟩, fun b hb => ?_, q⟩
    have e : b = s1.heap.objs.size := by simpa using hb
    subst e
    exact I1.fpOk (Nat.le_refl _) (I1.hok.fresh (Nat.le_refl _))
  · subst e
    cases r1
    obtain ⟨its, rv, p, hz⟩ := I1.tuple hq
    refine wpAny_pyIter_tuple (show s1.heap.IsTuple a its.toArray from p) ?_
    refine ⟨s1.heap.objs.size, [s1.heap.objs.size], _, _, H1, rfl, I1.kept (t' := s1.toks) fun b o e => Heap.get?_push_of_some _ e, turn_tuple a _, ⟨_, Heap.get?_push_size _ rfl, rfl, rfl⟩, fun b hb => ?_, q⟩
    have e : b = s1.heap.objs.size := by simpa using hb
    subst e
    exact I1.fpOk (Nat.le_refl _) (I1.hok.fresh (Nat.le_refl _))
  · subst e
    obtain ⟨t, rfl⟩ := r1
    cases ha : z.cps.all (· < 128)
    · exact wpAny_pyIter_wide ha (pi_one (tk := s1.toks) I1 _ (turn_str _ z t "str_iterator" (.inr rfl)) ⟨_, Heap.get?_push_size _ rfl, rfl, rfl⟩ q)
    · exact wpAny_pyIter_ascii ha (pi_one (tk := s1.toks) I1 _ (turn_str _ z t "str_ascii_iterator" (.inl rfl)) ⟨_, Heap.get?_push_size _ rfl, rfl, rfl⟩ q)
theorem vi_any {w : Bool} (he : PE X e (tE X.K cl W ma)) : PI X tg e (tI w X.K cl W (mItems ma)) := by
  refine PIi (pi_any he) fun σ H R0 ⟨B, F, ρ, R, q⟩ => ⟨B, F, ρ, R, ?_⟩
  unfold mItems at q
  cases e1 : ma ρ with
  | err c => rw [e1] at q; exact q
  | stuck => rw [e1] at q; exact q
  | ok d =>
    rw [e1] at q
    intro F1 H1 v g r
    cases d with
    | lst ds => cases r with | lst h r => exact .inl ⟨_, _, rfl, Same.sql g.sub h, q F1 H1 _ g (it_list w h r)⟩
    | tup ds => cases r with | tup h r => exact .inr (.inl ⟨_, _, rfl, sqH g.sub h, q F1 H1 _ g (it_tup w h.sq r)⟩)
    | str x => cases r; exact .inr (.inr ⟨_, rfl, q F1 H1 _ g (it_str w x)⟩)
    | _ => exact False.elim q
theorem vi_range1 {w : Bool} {p : Pos} (hg : Gl X "range") (hm : X.mg "range" = none) (he : PE X e (tE X.K cl W ma)) (hs : starEach [e] X.env = [(false, eval e X.env)] := by rfl) : PI X tg (.Call (.Name "range" p) [e] [] pos) (tI w X.K cl W (mRange1 ma)) := by
  refine PIi (pi_range1 hg hm (pa_cons he pa_nil hs) hs) fun σ H R0 ⟨B, F, ρ, R, q⟩ => ⟨B, F, ρ, R, ?_⟩
  unfold mRange1 at q
  cases e1 : ma ρ with
  | err c => rw [e1] at q; exact q
  | stuck => rw [e1] at q; exact q
  | ok d =>
    rw [e1] at q
    intro F1 H1 v g r
    cases d with
    | int j =>
      cases r
      simp only [Res.bind_ok] at q
      split at q
      · rename_i h
        exact ⟨j, rfl, (rgB_lt h).1, (rgB_lt h).2, q F1 H1 _ g (it_range w 0 _)⟩
      · exact False.elim q
    | _ => exact False.elim q
theorem vi_range2 {w : Bool} {p : Pos} (hg : Gl X "range") (hm : X.mg "range" = none) (he : PE X e (tE X.K cl W ma)) (he2 : PE X e2 (tE X.K cl W mb)) (hs : starEach [e, e2] X.env = [(false, eval e X.env), (false, eval e2 X.env)] := by rfl) (hs2 : starEach [e2] X.env = [(false, eval e2 X.env)] := by rfl) : PI X tg (.Call (.Name "range" p) [e, e2] [] pos) (tI w X.K cl W (mRange2 ma mb)) := by
  refine PIi (pi_range2 hg hm (pa_cons he (pa_cons he2 pa_nil hs2) (by rw [hs, hs2])) hs hs2) fun σ H R0 ⟨B, F, ρ, R, q⟩ => ⟨B, F, ρ, R, ?_⟩
  unfold mRange2 at q
  cases e1 : ma ρ with
  | err c => rw [e1] at q; exact q
  | stuck => rw [e1] at q; exact q
  | ok d =>
    rw [e1] at q
    intro F1 H1 v g r
    refine ⟨B, F1, ρ, R.grow g, ?_⟩
    simp only [Res.bind_ok] at q
    cases e3 : mb ρ with
    | err c => rw [e3] at q; exact fun H2 s2 => q H2 (g.hh.trans s2)
    | stuck => rw [e3] at q; exact q
    | ok d2 =>
      rw [e3] at q
      intro F2 H2 v2 g2 r2
      cases d with
      | int i =>
        cases d2 with
        | int j =>
          cases r
          cases r2
          simp only [Res.bind_ok] at q
          split at q
          · rename_i h
            obtain ⟨h1, h2⟩ := Bool.and_eq_true_iff.mp h
            exact ⟨i, j, rfl, ⟨(rgB_lt h1).1, (rgB_lt h1).2, (rgB_lt h2).1, (rgB_lt h2).2⟩, q F2 H2 _ (g.trans g2) (it_range w i _)⟩
          · exact False.elim q
        | _ => exact False.elim q
      | _ => cases d2 <;> exact False.elim q
end

/-! ## a def's body -/
/-- what a def gives back -/
def runM (n : Nat) (m : MS) : List D → Res D := fun ds => match m (ds.map (fun d => some (.val d)) ++ List.replicate (n - ds.length) none) with
  | .ok (.rt d) => .ok d
  | .ok (.nx _) => .ok .non
  | .err c => .err c
  | _ => .stuck
section
variable {P : Program} {w : World} {K : PySem.W.Frag} {cl : Nat → Addr} {mg : Str → Option Value} {base : Heap} 
theorem rel_start {F H : Hp} {N : List Str} {vs : List V} {ds : List D} (s : Same F H) (t : TupC F H) (r : RepL K cl F vs ds) : Rel K cl H F H (L2.start N vs) (ds.map (fun d => some (O.val d)) ++ List.replicate (N.length - ds.length) none) := by
  refine ⟨s, t, ?_, fun _ => [], fun i o e => ?_, fun _ => List.nodup_nil, fun _ _ _ _ m => by simp at m, fun _ _ m => by simp at m⟩
  · unfold L2.start
    simp [r.length]
  · unfold L2.start
    by_cases hi : i < ds.length
    · rw [List.getElem?_append_left (by simpa using hi), List.getElem?_map] at e
      cases ed : ds[i]? with
      | none => rw [ed] at e; cases e
      | some d =>
        rw [ed] at e
        cases e
        obtain ⟨v, e1, rv⟩ := r.get ed
        refine ⟨v, ?_, .val rv⟩
        rw [List.getElem?_append_left (by simpa [r.length] using hi), List.getElem?_map, e1]
        rfl
    · rw [List.getElem?_append_right (by simpa using hi), List.getElem?_replicate] at e
      split at e <;> cases e
theorem ok_zero {f : Addr} {fd : FuncData} {ps : List Str} : FnOk P w K mg base CX0 0 f fd ps (spF K cl ps.length fun _ => .stuck) :=
  ⟨fun vs H Q E h => h.1, fun A outer s H args us vs Q E hr e0 hb hv hs => by obtain ⟨_, F, ds, _, _, _, q⟩ := hs; exact False.elim q⟩
theorem fn_ok {x qual : Str} {st : Stmt} {f : Addr} {fd : FuncData} {N ps : List Str} {k : Nat} {m : MS} (F : Fun K x qual st f fd) (S : FnScope N ps (defScope st))
    (hbody : ∀ (cdv : Value) (A : Around) (outer : List PySem.Env) (s : Shared) (H : Hp) (E : XK) (H0 F0 : Hp), Room k (A.deeper (PyProof.Rows.envOfC qual (defScope st) s.heap.objs.size f cdv)) →
      PSs (cxOf CX0 P w K mg base N qual (defScope st) f cdv A outer s H E).nox (defBody st) (tS K cl H0 F0 noW m)) : FnOk P w K mg base CX0 (k + 1) f fd ps (spF K cl ps.length (runM N.length m)) := by
  refine F.ok S (fun vs H Q E h => h.1) fun cdv A outer s H vs Q E hr h => ?_
  obtain ⟨hl, Fz, ds, sf, tf, r, q⟩ := h
  refine ⟨_, hbody cdv A outer s H E H Fz hr, Fz, _, ⟨rel_start sf tf r, Grow.refl sf tf⟩, ?_⟩
  unfold runM at q
  cases e : m (ds.map (fun d => some (O.val d)) ++ List.replicate (N.length - ds.length) none) with
  | err c => rw [e] at q; exact q
  | stuck => rw [e] at q; exact False.elim q
  | ok fl =>
    rw [e] at q
    cases fl with
    | nx ρ => exact fun F2 H2 σ2 _ R2 => q F2 H2 .non R2.gr .non
    | rt d => exact fun F2 H2 v g2 r2 => q F2 H2 v g2 r2
    | bk ρ => exact False.elim q
    | ct ρ => exact False.elim q
end
end CH
namespace CH
open PySem PySem.Spec L2

/-! ## * -/
section
variable {X : Cx} {cl : Nat → Addr}
def rRepL (K : PySem.W.Frag) : R2 := fun x y H Q => ∃ l k xs, x = .ref l ∧ y = .int k ∧ H l = some (.lst xs) ∧ 0 ≤ k ∧ k < 1000 ∧ xs.length ≤ 1000 ∧ ∀ p, H p = none → Q (.ref p) (upd H p (.lst (List.replicate k.toNat xs).flatten))
abbrev rMulA (K : PySem.W.Frag) : R2 := fun x y H Q => (rI (fun i j => mulOk i j = true) fun i j => V.int (i * j)) x y H Q ∨ rRepF K x y H Q
theorem o_mul : OpR X (binaryOp .Mult) (rMulA X.K) := o_mulI.or op_repF
end
def dMulA : D → D → Res D
  | .int i, .int j => if mulOk i j then .ok (.int (i * j)) else .stuck
  | .tup xs, .int k => if xs ≠ [] ∧ 2 ≤ k ∧ k ≤ 1000 ∧ xs.length ≤ 1000 then .ok (.tup (List.replicate k.toNat xs).flatten) else .stuck
  | _, _ => .stuck
section
variable {X : Cx} {cl : Nat → Addr}
theorem f_mul : Op2 X.K cl dMulA (rMulA X.K) := by
  intro W F H Q v w x y s t rx ry q
  unfold dMulA at q
  split at q
  · split at q
    · rename_i h; exact .inl ⟨_, _, rx.int, ry.int, h, out_v s t q (.int _)⟩
    · exact False.elim q
  · split at q
    · rename_i h
      obtain ⟨a, vs, rfl, ha, ra⟩ := rx.tup
      refine .inr ⟨a, _, vs, rfl, ry.int, sqH s ha, fun z => h.1 ?_, h.2.1, h.2.2.1, by rw [ra.length]; exact h.2.2.2, newT_out s t (ra.rep _) q⟩
      subst z
      cases ra
      rfl
    · exact False.elim q
  · exact False.elim q
end

/-! ## blocks -/
theorem blk_local {scope : Scope} {c : List (Str × Addr)} {C : Addr} {env : PySem.Env} {x : Str} (h : scope.names.lookup x = some .local) : (compEnvC scope c C env).scope.names.lookup x = some .local := lookup_relS_keep (sc := env.scope) (by decide) h
theorem blk_glob {scope : Scope} {c : List (Str × Addr)} {C : Addr} {env : PySem.Env} {x : Str} (h : scope.names.lookup x = some .globalImplicit) : (compEnvC scope c C env).scope.names.lookup x = some .globalImplicit := lookup_relS_keep (sc := env.scope) (by decide) h
theorem lookup_relS_free {sc : Scope} : ∀ {names : List (Str × NameKind)} {x : Str}, names.lookup x = some .free →
    (names.map fun (n, k) => if (k == NameKind.free && sc.kind == .function && sc.names.lookup n == some .cell) then (n, NameKind.cell) else (n, k)).lookup x = some .cell ∨
    (names.map fun (n, k) => if (k == NameKind.free && sc.kind == .function && sc.names.lookup n == some .cell) then (n, NameKind.cell) else (n, k)).lookup x = some .free
  | [], _, h => by simp at h
  | (n, k0) :: r, x, h => by
    have ih := @lookup_relS_free sc r x
    rw [List.map_cons]
    dsimp only
    cases hx : x == n with
    | true =>
      simp only [List.lookup_cons, hx] at h
      cases h
      by_cases hc : (NameKind.free == NameKind.free && sc.kind == .function && sc.names.lookup n == some .cell) = true
      · rw [if_pos hc]; left; simp only [List.lookup_cons, hx]
      · rw [if_neg hc]; right; simp only [List.lookup_cons, hx]
    | false =>
      simp only [List.lookup_cons, hx] at h
      by_cases hc : (k0 == NameKind.free && sc.kind == .function && sc.names.lookup n == some .cell) = true
      · rw [if_pos hc]; simp only [List.lookup_cons, hx]; exact ih h
      · rw [if_neg hc]; simp only [List.lookup_cons, hx]; exact ih h
theorem blk_free {scope : Scope} {c : List (Str × Addr)} {C : Addr} {env : PySem.Env} {x : Str} (h : scope.names.lookup x = some .free) : Vis (compEnvC scope c C env).scope x := by
  rcases lookup_relS_free (sc := env.scope) h with z | z
  · exact .inr (.inl z)
  · exact .inr (.inr z)

abbrev lk (st : Stmt) (x : Str) : Option NameKind := (defScope st).names.lookup x
/-! ## built-in names -/
theorem bt_len : bootBuiltins "len" = some (.builtin "len") := by decide +kernel
theorem bt_abs : bootBuiltins "abs" = some (.builtin "abs") := by decide +kernel
theorem bt_int : bootBuiltins "int" = some (.type "int") := by decide +kernel
theorem bt_str : bootBuiltins "str" = some (.type "str") := by decide +kernel
theorem bt_bool : bootBuiltins "bool" = some (.type "bool") := by decide +kernel
theorem bt_tuple : bootBuiltins "tuple" = some (.type "tuple") := by decide +kernel
theorem bt_list : bootBuiltins "list" = some (.type "list") := by decide +kernel
theorem bt_dict : bootBuiltins "dict" = some (.type "dict") := by decide +kernel
theorem reps_int {K : PySem.W.Frag} {cl : Nat → Addr} {F : Hp} : ∀ ns : List Int, RepL K cl F (ns.map V.int) (ns.map D.int)
  | [] => .nil
  | n :: ns => .cons (.int n) (reps_int ns)
end CH
namespace CH
open PySem PySem.Spec L2
/-! ## reckoning with meanings -/
def Res.seq (r : Res Flw) (b : MS) : Res Flw := match r with
  | .ok (.nx ρ) => b ρ
  | r => r
def Res.bif {α : Type} (r : Res Bool) (a b : Env → Res α) (ρ : Env) : Res α := r.bind fun x => if x then a ρ else b ρ
def Res.ret (r : Res D) : Res Flw := r.bind fun d => .ok (.rt d)
def Res.put (i : Nat) (r : Res D) (ρ : Env) : Res Flw := r.bind fun d => .ok (.nx (ρ.set i (some (.val d))))
def Res.outv (r : Res Flw) : Res D := match r with
  | .ok (.rt d) => .ok d
  | .ok (.nx _) => .ok .non
  | .err c => .err c
  | _ => .stuck
def Res.ap2 (f : D → D → Res D) (x y : Res D) : Res D := x.bind fun a => y.bind fun b => f a b
def Res.bol (r : Res D) : Res Bool := r.bind fun d => match d with
  | .bl b => .ok b
  | _ => .stuck
def Res.neg (r : Res Bool) : Res Bool := r.bind fun b => .ok (!b)
def Res.bl (r : Res Bool) : Res D := r.bind fun b => .ok (.bl b)
def Res.cons (r : Res D) (s : Res (List D)) : Res (List D) := r.bind fun d => s.bind fun ds => .ok (d :: ds)
def getv : Option (Option O) → Res D
  | some (some (.val d)) => .ok d
  | _ => .stuck
def getb : Option (Option O) → Res D
  | some (some o) => o.view
  | _ => .stuck
def Res.tupl (r : Res (List D)) : Res D := r.bind fun ds => .ok (.tup ds)
def Res.lstl (r : Res (List D)) : Res D := r.bind fun ds => .ok (.lst ds)
def Res.loop (r : Res (List D)) (b : BD) (mb : MS) (ρ : Env) : Res Flw := r.bind fun ds => forM b mb ds ρ
section
variable {ρ : Env} {a b c : ME} {x y z : D} {s t : MS} {n m : Env → Res Bool} {k : Bool} {i : Nat} {ms : List ME} {f : D → Res D} {g : D → D → Res D} {h : List D → Res D} {e : Nat} {α : Type} {u w : Env → Res α} {xs : List D}
theorem e_run {N : Nat} : runM N s xs = (s (xs.map (fun d => some (.val d)) ++ List.replicate (N - xs.length) none)).outv := rfl
theorem e_seq : sSeq s t ρ = (s ρ).seq t := rfl
theorem e_nil : sNil ρ = .ok (.nx ρ) := rfl
theorem e_brk : sBreak ρ = .ok (.bk ρ) := rfl
theorem e_cnt : sCont ρ = .ok (.ct ρ) := rfl
theorem e_if : sIf n s t ρ = Res.bif (n ρ) s t ρ := rfl
theorem e_ret : sRet a ρ = (a ρ).ret := rfl
theorem e_retN : sRetN ρ = .ok (.rt .non) := rfl
theorem e_set : sSet i a ρ = Res.put i (a ρ) ρ := rfl
theorem e_for {mi : Env → Res (List D)} {bd : BD} : sFor mi bd s ρ = Res.loop (mi ρ) bd s ρ := rfl
theorem e_test : mTest a ρ = (a ρ).bol := rfl
theorem e_not : mNot n ρ = (n ρ).neg := rfl
theorem e_and : mAnd n m ρ = Res.bif (n ρ) m (fun _ => .ok false) ρ := rfl
theorem e_or : mOr n m ρ = Res.bif (n ρ) (fun _ => .ok true) m ρ := rfl
theorem e_notV : mNotV a ρ = (a ρ).bol.neg.bl := by
  unfold mNotV mTest
  cases a ρ with
  | ok d => cases d <;> rfl
  | err c => rfl
  | stuck => rfl
theorem e_andV : mAndV a b ρ = Res.bif (a ρ).bol b (fun _ => .ok (.bl false)) ρ := rfl
theorem e_orV : mOrV a b ρ = Res.bif (a ρ).bol (fun _ => .ok (.bl true)) b ρ := rfl
theorem e_ifE : mIfE n a b ρ = Res.bif (n ρ) a b ρ := rfl
theorem e_m1 : m1 f a ρ = (a ρ).bind f := rfl
theorem e_m2 : m2 g a b ρ = Res.ap2 g (a ρ) (b ρ) := rfl
theorem e_c : mC x ρ = .ok x := rfl
theorem e_var : mVar i ρ = getv ρ[i]? := by
  unfold mVar getv
  split <;> simp_all
theorem e_varB : mVarB i ρ = getb ρ[i]? := by
  unfold mVarB getb
  split <;> simp_all
theorem e_evN : evL [] ρ = .ok [] := rfl
theorem e_evC : evL (a :: ms) ρ = Res.cons (a ρ) (evL ms ρ) := rfl
theorem e_tup : mTup ms ρ = (evL ms ρ).tupl := rfl
theorem e_lst : mLst ms ρ = (evL ms ρ).lstl := rfl
theorem e_call : mCall h ms ρ = (evL ms ρ).bind h := rfl
theorem e_items : mItems a ρ = (a ρ).bind dItems := rfl
theorem e_yes : mYes ρ = .ok true := rfl
theorem r_seqN : (Res.ok (.nx ρ)).seq s = s ρ := rfl
theorem r_seqR : (Res.ok (.rt x)).seq s = .ok (.rt x) := rfl
theorem r_seqB : (Res.ok (.bk ρ)).seq s = .ok (.bk ρ) := rfl
theorem r_seqC : (Res.ok (.ct ρ)).seq s = .ok (.ct ρ) := rfl
theorem r_seqE : (Res.err e).seq s = .err e := rfl
theorem r_seqS : Res.stuck.seq s = .stuck := rfl
theorem r_bifT : Res.bif (.ok true) u w ρ = u ρ := rfl
theorem r_bifF : Res.bif (.ok false) u w ρ = w ρ := rfl
theorem r_bifE : Res.bif (.err e) u w ρ = .err e := rfl
theorem r_ret : (Res.ok x).ret = .ok (.rt x) := rfl
theorem r_retE : (Res.err e).ret = .err e := rfl
theorem r_put : Res.put i (.ok x) ρ = .ok (.nx (ρ.set i (some (.val x)))) := rfl
theorem r_putE : Res.put i (.err e) ρ = .err e := rfl
theorem r_outR : (Res.ok (.rt x)).outv = .ok x := rfl
theorem r_outN : (Res.ok (.nx ρ)).outv = .ok .non := rfl
theorem r_outE : (Res.err e : Res Flw).outv = .err e := rfl
theorem r_ap2 : Res.ap2 g (.ok x) (.ok y) = g x y := rfl
theorem r_bol : (Res.ok (.bl k)).bol = .ok k := rfl
theorem r_neg : (Res.ok k).neg = .ok (!k) := rfl
theorem r_bl : (Res.ok k).bl = .ok (.bl k) := rfl
theorem r_cons : Res.cons (.ok x) (.ok xs) = .ok (x :: xs) := rfl
theorem r_getv : getv (some (some (.val x))) = .ok x := rfl
theorem r_getb {o : O} : getb (some (some o)) = o.view := rfl
theorem r_tupl : (Res.ok xs).tupl = .ok (.tup xs) := rfl
theorem r_lstl : (Res.ok xs).lstl = .ok (.lst xs) := rfl
theorem r_loop {bd : BD} : Res.loop (.ok xs) bd s ρ = forM bd s xs ρ := rfl
@[simp] theorem view_val : (O.val x).view = .ok x := rfl
end
theorem mulOk_of {i j : Int} (z : IntMulOk i j) : mulOk i j = true := by
  unfold mulOk
  unfold IntMulOk at z
  cases h : (decide (Builtin.Int.intBits i > shortFactorBits) && decide (Builtin.Int.intBits j > shortFactorBits) && Builtin.Int.intTooBig (Builtin.Int.intBits i + Builtin.Int.intBits j)) with
  | true => exact absurd h z
  | false => rfl
/-- products that are small enough -/
theorem mulOk_wide {i j : Int} {p q : Nat} (hi : i.natAbs < 2 ^ p) (hj : j.natAbs < 2 ^ q) (h : p + q ≤ 999998) : mulOk i j = true := by
  refine mulOk_of (wide_mul (a := p + 1) (b := q + 1) (Nat.lt_of_lt_of_le hi (Nat.pow_le_pow_right (by decide) (by omega))) (Nat.lt_of_lt_of_le hj (Nat.pow_le_pow_right (by decide) (by omega))) (by omega) (by omega) (by omega)).ok
/-- the right factor is small -/
theorem mulOk_right {i j : Int} (h1 : -(2 ^ 64) < j) (h2 : j < 2 ^ 64) : mulOk i j = true := mulOk_of (CMul.ok (.inr ⟨h1, h2⟩))
theorem mulOk_left {i j : Int} (h1 : -(2 ^ 64) < i) (h2 : i < 2 ^ 64) : mulOk i j = true := mulOk_of (CMul.ok (.inl ⟨h1, h2⟩))
theorem noPy {i j : Int} (h : j.natAbs < 1073741824) : Builtin.divisionGoesByPylong i j = false := PyProof.noPylong_small h
@[simp] theorem dAdd_int (i j : Int) : dAdd (.int i) (.int j) = .ok (.int (i + j)) := rfl
@[simp] theorem dSub_int (i j : Int) : dSub (.int i) (.int j) = .ok (.int (i - j)) := rfl
@[simp] theorem dLt_int (i j : Int) : dLt (.int i) (.int j) = .ok (.bl (decide (i < j))) := rfl
@[simp] theorem dLe_int (i j : Int) : dLe (.int i) (.int j) = .ok (.bl (decide (i ≤ j))) := rfl
@[simp] theorem dGt_int (i j : Int) : dGt (.int i) (.int j) = .ok (.bl (decide (j < i))) := rfl
@[simp] theorem dGe_int (i j : Int) : dGe (.int i) (.int j) = .ok (.bl (decide (j ≤ i))) := rfl
@[simp] theorem dNeg_int (i : Int) : dNeg (.int i) = .ok (.int (-i)) := rfl
theorem dMod_int {i j : Int} (h : 0 < j) : dMod (.int i) (.int j) = .ok (.int (i % j)) := by simp [dMod, h]
theorem dDiv_int {i j : Int} (h : 0 < j) (h2 : j < 1073741824) : dDiv (.int i) (.int j) = .ok (.int (i / j)) := by
  simp [dDiv, h, noPy (i := i) (j := j) (by omega)]
theorem dMul_int {i j : Int} (h : mulOk i j = true) : dMulA (.int i) (.int j) = .ok (.int (i * j)) := by simp [dMulA, h]
@[simp] theorem dInt_bl (b : Bool) : dInt (.bl b) = .ok (.int (if b then 1 else 0)) := rfl
@[simp] theorem dInt_int (i : Int) : dInt (.int i) = .ok (.int i) := rfl
theorem shaped_flat {p : PyData} (h : p.canLay0 = true) (hd : p.depth ≤ 64) : SeqAt.shaped p = true := by unfold SeqAt.shaped; rw [h]; simpa using hd
@[simp] theorem dEqB_int (i j : Int) : dEqB (.int i) (.int j) = .ok (decide (i = j)) := by
  have h : ∀ i : Int, SeqAt.shaped (.int i) = true := fun i => shaped_flat (by simp [PyData.canLay0]) (by simp [PyData.depth])
  simp only [dEqB, D.py, h, Bool.and_self, if_true, PyData.eqv]
  by_cases e : i = j <;> simp [e]
@[simp] theorem dEq_int (i j : Int) : dEq (.int i) (.int j) = .ok (.bl (decide (i = j))) := by simp [dEq]
@[simp] theorem dNe_int (i j : Int) : dNe (.int i) (.int j) = .ok (.bl (!decide (i = j))) := by simp [dNe]
/-- a text of signs that Python has -/
def okS (x : Str) : Bool := PyData.strOk x
theorem shaped_str {x : Str} (h : okS x = true) : SeqAt.shaped (.str x) = true := shaped_flat (by simpa [PyData.canLay0, okS] using h) (by simp [PyData.depth])
theorem dEqB_str {x y : Str} (h : okS x = true) (h2 : okS y = true) : dEqB (.str x) (.str y) = .ok (decide (x = y)) := by
  simp only [dEqB, D.py, shaped_str h, shaped_str h2, Bool.and_self, if_true, PyData.eqv]
  by_cases e : x = y <;> simp [e]
theorem dEq_str {x y : Str} (h : okS x = true) (h2 : okS y = true) : dEq (.str x) (.str y) = .ok (.bl (decide (x = y))) := by
  simp [dEq, dEqB_str h h2]
theorem map_toNat_inj : ∀ {a b : List Char}, a.map Char.toNat = b.map Char.toNat → a = b
  | [], [], _ => rfl
  | [], _ :: _, h => by simp at h
  | _ :: _, [], h => by simp at h
  | x :: xs, y :: ys, h => by
    simp only [List.map_cons, List.cons.injEq] at h
    rw [map_toNat_inj h.2, Char.toNat_inj.mp h.1]
theorem ofS_eq (a b : String) : (Str.ofString a = Str.ofString b) = (a = b) := by
  apply propext
  constructor
  · intro h
    rw [Str.ofString_eq_toList, Str.ofString_eq_toList] at h
    have h1 : (a.toList.map Char.toNat).toArray = (b.toList.map Char.toNat).toArray := by injection h
    have h2 : a.toList.map Char.toNat = b.toList.map Char.toNat := by simpa using h1
    exact String.toList_inj.mp (map_toNat_inj h2)
  · intro h; rw [h]
/-! ## loops, comprehensions -/
section
variable {ρ : Env} {s : MS} {bd : BD} {x : D} {xs : List D} {i : Nat}
theorem for_nil : forM bd s [] ρ = .ok (.nx ρ) := rfl
theorem for_name {ρ2 : Env} (h : s (ρ.set i (some (.val x))) = .ok (.nx ρ2)) : forM (bName i) s (x :: xs) ρ = forM (bName i) s xs ρ2 := by
  simp only [forM, bName, h]
theorem for_name_rt {d : D} (h : s (ρ.set i (some (.val x))) = .ok (.rt d)) : forM (bName i) s (x :: xs) ρ = .ok (.rt d) := by
  simp only [forM, bName, h]
/-- every turn goes on -/
theorem for_inv (P : List D → Env → Prop) : ∀ (xs : List D) (ρ : Env), P xs ρ → (∀ x xs ρ, P (x :: xs) ρ → ∃ ρ1 ρ2, bd x ρ = .ok ρ1 ∧ s ρ1 = .ok (.nx ρ2) ∧ P xs ρ2) → ∃ ρ', P [] ρ' ∧ forM bd s xs ρ = .ok (.nx ρ')
  | [], ρ, h, _ => ⟨ρ, h, rfl⟩
  | x :: xs, ρ, h, st => by
    obtain ⟨ρ1, ρ2, e1, e2, h2⟩ := st x xs ρ h
    obtain ⟨ρ', h3, e3⟩ := for_inv P xs ρ2 h2 st
    exact ⟨ρ', h3, by simp only [forM, e1, e2]; exact e3⟩
theorem lc_map {me : ME} {f : D → D} : ∀ (xs : List D), (∀ x ∈ xs, me (ρ.set i (some (.val x))) = .ok (f x)) → lcM (bName i) mYes me xs ρ = .ok (xs.map f)
  | [], _ => rfl
  | x :: xs, h => by
    simp only [lcM, bName, Res.bind_ok, mYes, if_true, h x List.mem_cons_self, lc_map xs fun y hy => h y (List.mem_cons_of_mem _ hy), List.map_cons]
theorem mLc_map {mi : Env → Res (List D)} {me : ME} {f : D → D} (h1 : mi ρ = .ok xs) (hl : xs.length ≤ sizeLine) (h : ∀ x ∈ xs, me ((wipeE ρ [i]).set i (some (.val x))) = .ok (f x)) : mLc mi (bName i) mYes me [i] ρ = .ok (.lst (xs.map f)) := by
  simp only [mLc, mLcL, h1, Res.bind_ok, if_pos hl, lc_map xs h, Res.calm_ok]
end
theorem e_rng1 {a : ME} {ρ : Env} {j : Int} (h : a ρ = .ok (.int j)) (h1 : -(2 ^ 62) < j) (h2 : j < 2 ^ 62) : mRange1 a ρ = .ok (rangeD 0 j.toNat) := by
  simp only [mRange1, h, Res.bind_ok, if_pos (rgB_ok h1 h2)]
/-! ## dicts of numbers by texts -/
def SI (n : Nat) (kvs : List (D × D)) : Prop := ∀ kv ∈ kvs, ∃ (x : Str) (i : Int), kv = (.str x, .int i) ∧ i.natAbs ≤ n
theorem SI.put {n : Nat} {kvs : List (D × D)} {x : Str} {i : Int} (h : SI n kvs) (hi : i.natAbs ≤ n) : SI n (putD kvs (.str x) (.int i)) := by
  unfold putD
  intro kv hk
  split at hk
  · obtain ⟨kv0, h0, e⟩ := List.mem_map.mp hk
    obtain ⟨y, j, rfl, hj⟩ := h kv0 h0
    split at e
    · exact ⟨y, i, e.symm, hi⟩
    · exact ⟨y, j, e.symm, hj⟩
  · rcases List.mem_append.mp hk with hk | hk
    · exact h kv hk
    · simp only [List.mem_singleton] at hk
      exact ⟨x, i, hk, hi⟩
theorem SI.merge {n : Nat} : ∀ {more kvs : List (D × D)}, SI n more → SI n kvs → SI n (mergeD kvs more)
  | [], _, _, h => h
  | kv :: more, kvs, hm, h => by
    obtain ⟨x, i, rfl, hi⟩ := hm kv List.mem_cons_self
    unfold mergeD
    rw [List.foldl_cons]
    exact SI.merge (fun kv hk => hm kv (List.mem_cons_of_mem _ hk)) (h.put hi)
theorem SI.look {n : Nat} (x : D) : ∀ {kvs : List (D × D)}, SI n kvs → lookD x kvs = none ∨ ∃ i : Int, lookD x kvs = some (.int i) ∧ i.natAbs ≤ n
  | [], _ => .inl rfl
  | kv :: kvs, h => by
    obtain ⟨y, i, rfl, hi⟩ := h kv List.mem_cons_self
    unfold lookD
    split
    · exact .inr ⟨i, rfl, hi⟩
    · exact SI.look x fun kv hk => h kv (List.mem_cons_of_mem _ hk)
theorem pairsD_map : ∀ (hs : List (Str × Int)), pairsD (hs.map fun p => .tup [.str p.1, .int p.2]) = some (hs.map fun p => (.str p.1, .int p.2))
  | [] => rfl
  | p :: hs => by simp only [List.map_cons, pairsD, asKey, pairsD_map hs, Option.map_some]
theorem dIx_str {z x : Str} {i : Int} {c : Nat} (h : z.length ≤ sizeLine) (e : atI z.cps.toList i = some c) (ex : (⟨#[c]⟩ : Str) = x) : dIx (.str z) (.int i) = .ok (.str x) := by
  subst ex
  simp only [dIx, if_pos h, e]
end CH
namespace CH
open PySem PySem.Spec L2

/-! ## a < b < c -/
def mChain (f g : D → D → Res D) (a b c : ME) : ME := fun ρ => (a ρ).bind fun x => (b ρ).bind fun y => (f x y).bind fun r => match r with
  | .bl true => (c ρ).bind fun z => g y z
  | .bl false => .ok (.bl false)
  | _ => .stuck
/-- an operation whose answer is a truth -/
def OpT (K : PySem.W.Frag) (cl : Nat → Addr) (f : D → D → Res D) (r : R2) : Prop := ∀ (F H : Hp) (Q : VK) (v w : V) (x y : D) (b : Bool), Same F H → TupC F H → RepB K cl F H v x → RepB K cl F H w y → f x y = .ok (.bl b) → Q (.bl b) H → r v w H Q
section
variable {X : Cx} {cl : Nat → Addr} {W : Wish} {a b c : Expr} {ma mb mc : ME} {pos : Pos}
theorem t_lt : OpT X.K cl dLt (rI0 fun i j => V.bl (decide (i < j))) := by
  intro F H Q v w x y b s t rx ry e q
  unfold dLt at e
  split at e
  · cases e; exact ⟨_, _, rx.int, ry.int, q⟩
  · cases e
theorem t_le : OpT X.K cl dLe (rI0 fun i j => V.bl (decide (i ≤ j))) := by
  intro F H Q v w x y b s t rx ry e q
  unfold dLe at e
  split at e
  · cases e; exact ⟨_, _, rx.int, ry.int, q⟩
  · cases e
theorem chain_read {f g : D → D → Res D} {r r' : R2} (h : OpT X.K cl f r) (h' : Op2 X.K cl g r') (hf : ∀ x y c, f x y ≠ .err c) : ∀ σ H Q, tE X.K cl W (mChain f g ma mb mc) σ H Q → tChain r r' (tB X.K cl W ma) (tB X.K cl W mb) (tB X.K cl W mc) σ H Q := by
  rintro σ H Q ⟨B, F, ρ, R, q⟩
  refine thenB R q fun x F1 H1 v _ g1 r1 q1 => thenB (R.grow g1) q1 fun y F2 H2 w _ g2 r2 q2 => ?_
  cases e : f x y with
  | err c => exact absurd e (hf x y c)
  | stuck => rw [e] at q2; exact False.elim q2
  | ok d =>
    rw [e] at q2
    cases d with
    | bl k =>
      refine h F2 H2 _ v w x y k g2.sub g2.tups (r1.mono (g2.ff g1.sub) g2.hh) r2 e ⟨k, rfl, ?_⟩
      cases k with
      | false => exact out_v g2.sub g2.tups q2 (.bl _)
      | true => exact thenB ((R.grow g1).grow g2) q2 fun z F3 H3 u _ g3 r3 q3 => h' W F3 H3 Q w u y z g3.sub g3.tups (r2.mono (g3.ff g2.sub) g3.hh) r3 q3
    | _ => exact False.elim q2
theorem ve_chain {op op' : CmpOp} {f g : D → D → Res D} {r r' : R2} (ho : OpR X (compareOp op) r) (h : OpT X.K cl f r) (ho' : OpR X (compareOp op') r') (h' : Op2 X.K cl g r') (ha : PE X a (tB X.K cl W ma)) (hb : PE X b (tB X.K cl W mb)) (hc : PE X c (tB X.K cl W mc))
    (hf : ∀ x y c, f x y ≠ .err c := by intro x y c; cases x <;> cases y <;> (intro z; cases z)) (hm : lastMarks [op, op'] [b, c] = false := by with_unfolding_all rfl) : PE X (.Compare a [op, op'] [b, c] pos) (tE X.K cl W (mChain f g ma mb mc)) :=
  PEi (pe_chain ho ho' ha hb hc hm) (chain_read h h' hf)
theorem vt_chain {op op' : CmpOp} {f g : D → D → Res D} {r r' : R2} (ho : OpR X (compareOp op) r) (h : OpT X.K cl f r) (ho' : OpR X (compareOp op') r') (h' : Op2 X.K cl g r') (ha : PE X a (tB X.K cl W ma)) (hb : PE X b (tB X.K cl W mb)) (hc : PE X c (tB X.K cl W mc))
    (hf : ∀ x y c, f x y ≠ .err c := by intro x y c; cases x <;> cases y <;> (intro z; cases z)) (hm : lastMarks [op, op'] [b, c] = false := by with_unfolding_all rfl) : PT X (.Compare a [op, op'] [b, c] pos) (tT X.K cl W (mTest (mChain f g ma mb mc))) :=
  PTi (pt_chain ho ho' ha hb hc hm) fun σ H Q q => chain_read h h' hf σ H _ (t_test σ H Q q)
end

/-! ## in, not in -/
def dInB : D → D → Res Bool
  | x, .tup ys => match x.py, pyL ys with
    | some p, some qs => if SeqAt.shaped p && SeqAt.shaped (.tuple qs) then .ok (qs.any fun z => PyData.eqv z p) else .stuck
    | _, _ => .stuck
  | x, .lst ys => match x.py, pyL ys with
    | some p, some qs => if SeqAt.shaped p && SeqAt.shaped (.list qs) then .ok (qs.any fun z => PyData.eqv z p) else .stuck
    | _, _ => .stuck
  | .str x, .str y => match x.cps.toList with
    | [c] => .ok (decide (c ∈ y.cps.toList))
    | _ => .stuck
  | _, _ => .stuck
def dIn (x y : D) : Res D := (dInB x y).bind fun b => .ok (.bl b)
def dNotIn (x y : D) : Res D := (dInB x y).bind fun b => .ok (.bl (!b))
section
variable {X : Cx} {cl : Nat → Addr}
def rInT (K : PySem.W.Frag) (n : Bool) : R2 := fun x y H Q => ∃ d ds, Dp K H x d ∧ Dp K H y (.tuple ds) ∧ SeqAt.shaped d = true ∧ SeqAt.shaped (.tuple ds) = true ∧ Q (.bl (if n then !(ds.any fun z => PyData.eqv z d) else ds.any fun z => PyData.eqv z d)) H
theorem op_inT (hu : X.A.units + 65 < cLine) : OpR X (compareOp .In) (rInT X.K false) := by
  intro pins s σ H x y v u Q I rx ry h
  obtain ⟨d, ds, hd, he, sd, se, q⟩ := h
  obtain ⟨as, r1⟩ := Dp.reads I d x v hd rx
  obtain ⟨bs, r2⟩ := Dp.reads I (.tuple ds) y u he ry
  exact SeqAt.in_tuple_reads r2 r1 (SeqAt.canLay_of_shaped se) (SeqAt.canLay_of_shaped sd) (PyProof.Rows.room_in_shaped sd hu) ⟨.bl _, H, I, rfl, q⟩
theorem op_notInT (hu : X.A.units + 65 < cLine) : OpR X (compareOp .NotIn) (rInT X.K true) := by
  intro pins s σ H x y v u Q I rx ry h
  obtain ⟨d, ds, hd, he, sd, se, q⟩ := h
  obtain ⟨as, r1⟩ := Dp.reads I d x v hd rx
  obtain ⟨bs, r2⟩ := Dp.reads I (.tuple ds) y u he ry
  exact SeqAt.notIn_tuple_reads r2 r1 (SeqAt.canLay_of_shaped se) (SeqAt.canLay_of_shaped sd) (PyProof.Rows.room_in_shaped sd hu) ⟨.bl _, H, I, rfl, q⟩
abbrev rInA (K : PySem.W.Frag) : R2 := fun x y H Q => rInT K false x y H Q ∨ rInD K x y H Q ∨ ∃ (c : Nat) (z : Str), x = .str ⟨#[c]⟩ ∧ y = .str z ∧ Q (.bl (decide (c ∈ z.cps.toList))) H
abbrev rNotInA (K : PySem.W.Frag) : R2 := fun x y H Q => rInT K true x y H Q ∨ rNotInD K x y H Q ∨ ∃ (c : Nat) (z : Str), x = .str ⟨#[c]⟩ ∧ y = .str z ∧ Q (.bl (!decide (c ∈ z.cps.toList))) H
theorem o_in (hu : X.A.units + 65 < cLine) : OpR X (compareOp .In) (rInA X.K) := (op_inT hu).or ((op_inD hu).or op_in_sign)
theorem o_notIn (hu : X.A.units + 65 < cLine) : OpR X (compareOp .NotIn) (rNotInA X.K) := (op_notInT hu).or ((op_notInD hu).or op_notIn_sign)
theorem hu65 {A : Around} {k : Nat} (hr : Room k A) : A.units + 65 < cLine := by have := hr.un; omega
theorem one_sign {x : Str} {c : Nat} (e : x.cps.toList = [c]) : x = ⟨#[c]⟩ := by
  obtain ⟨cps⟩ := x
  have : cps = #[c] := by
    apply Array.toList_inj.mp
    simpa using e
  rw [this]
theorem in_cases {K : PySem.W.Frag} {F H : Hp} {v w : V} {x y : D} {b : Bool} (s : Same F H) (rx : RepB K cl F H v x) (ry : RepB K cl F H w y) (e : dInB x y = .ok b) :
    (∃ d ds, Dp K H v d ∧ Dp K H w (.tuple ds) ∧ SeqAt.shaped d = true ∧ SeqAt.shaped (.tuple ds) = true ∧ b = ds.any fun z => PyData.eqv z d) ∨
    (∃ d ds, Dp K H v d ∧ Dp K H w (.list ds) ∧ SeqAt.shaped d = true ∧ SeqAt.shaped (.list ds) = true ∧ b = ds.any fun z => PyData.eqv z d) ∨ ∃ (c : Nat) (z : Str), v = .str ⟨#[c]⟩ ∧ w = .str z ∧ b = decide (c ∈ z.cps.toList) := by
  unfold dInB at e
  split at e
  · split at e
    · rename_i p qs e1 e2
      split at e
      · rename_i h
        obtain ⟨h1, h2⟩ := Bool.and_eq_true_iff.mp h
        cases e
        exact .inl ⟨p, qs, rx.dp s e1, ry.dp s (by simp [D.py, e2]), h1, h2, rfl⟩
      · cases e
    · cases e
  · split at e
    · rename_i p qs e1 e2
      split at e
      · rename_i h
        obtain ⟨h1, h2⟩ := Bool.and_eq_true_iff.mp h
        cases e
        exact .inr (.inl ⟨p, qs, rx.dp s e1, ry.dp s (by simp [D.py, e2]), h1, h2, rfl⟩)
      · cases e
    · cases e
  · split at e
    · rename_i c ec
      cases e
      exact .inr (.inr ⟨c, _, by rw [rx.str, one_sign ec], ry.str, rfl⟩)
    · cases e
  · cases e
theorem f_in : Op2 X.K cl dIn (rInA X.K) := by
  intro W F H Q v w x y s t rx ry q
  unfold dIn at q
  cases e : dInB x y with
  | err c => unfold dInB at e; repeat (first | cases e | split at e)
  | stuck => rw [e] at q; exact False.elim q
  | ok b =>
    rw [e] at q
    have z := out_v (v := .bl b) s t q (.bl b)
    rcases in_cases s rx ry e with ⟨d, ds, h1, h2, h3, h4, rfl⟩ | ⟨d, ds, h1, h2, h3, h4, rfl⟩ | ⟨c, y', h1, h2, rfl⟩
    · exact .inl ⟨d, ds, h1, h2, h3, h4, z⟩
    · exact .inr (.inl ⟨d, ds, h1, h2, h3, h4, z⟩)
    · exact .inr (.inr ⟨c, y', h1, h2, z⟩)
theorem f_notIn : Op2 X.K cl dNotIn (rNotInA X.K) := by
  intro W F H Q v w x y s t rx ry q
  unfold dNotIn at q
  cases e : dInB x y with
  | err c => unfold dInB at e; repeat (first | cases e | split at e)
  | stuck => rw [e] at q; exact False.elim q
  | ok b =>
    rw [e] at q
    have z := out_v (v := .bl (!b)) s t q (.bl (!b))
    rcases in_cases s rx ry e with ⟨d, ds, h1, h2, h3, h4, rfl⟩ | ⟨d, ds, h1, h2, h3, h4, rfl⟩ | ⟨c, y', h1, h2, rfl⟩
    · exact .inl ⟨d, ds, h1, h2, h3, h4, z⟩
    · exact .inr (.inl ⟨d, ds, h1, h2, h3, h4, z⟩)
    · exact .inr (.inr ⟨c, y', h1, h2, z⟩)
end

/-! ## all, any, sum; tuple, list -/
def blsOf : List D → Option (List Bool)
  | [] => some []
  | .bl b :: r => (blsOf r).map (b :: ·)
  | _ => none
def intsOf : List D → Option (List Int)
  | [] => some []
  | .int i :: r => (intsOf r).map (i :: ·)
  | _ => none
def dAll : D → Res D
  | .lst ds => match blsOf ds with
    | some bs => .ok (.bl (bs.all id))
    | none => .stuck
  | _ => .stuck
def dAny : D → Res D
  | .lst ds => match blsOf ds with
    | some bs => .ok (.bl (bs.any id))
    | none => .stuck
  | _ => .stuck
def dSum : D → Res D
  | .lst ds => match intsOf ds with
    | some ns => .ok (.int ns.sum)
    | none => .stuck
  | _ => .stuck
def dTuple : D → Res D
  | .lst ds => .ok (.tup ds)
  | .tup ds => .ok (.tup ds)
  | _ => .stuck
def dList : D → Res D
  | .lst ds => .ok (.lst ds)
  | .tup ds => .ok (.lst ds)
  | _ => .stuck
section
variable {X : Cx} {cl : Nat → Addr} {W : Wish} {a : Expr} {ma : ME} {pos : Pos}
theorem bls_rep {K : PySem.W.Frag} {F : Hp} : ∀ {vs : List V} {ds : List D} {bs : List Bool}, RepL K cl F vs ds → blsOf ds = some bs → vs = bs.map V.bl
  | _, _, _, .nil, e => by cases e; rfl
  | _, _, _, .cons (d := d) h r, e => by
    cases d with
    | bl b =>
      simp only [blsOf, Option.map_eq_some_iff] at e
      obtain ⟨cs, e1, rfl⟩ := e
      cases h
      rw [bls_rep r e1]
      rfl
    | _ => cases e
theorem ints_rep {K : PySem.W.Frag} {F : Hp} : ∀ {vs : List V} {ds : List D} {bs : List Int}, RepL K cl F vs ds → intsOf ds = some bs → vs = bs.map V.int
  | _, _, _, .nil, e => by cases e; rfl
  | _, _, _, .cons (d := d) h r, e => by
    cases d with
    | int b =>
      simp only [intsOf, Option.map_eq_some_iff] at e
      obtain ⟨cs, e1, rfl⟩ := e
      cases h
      rw [ints_rep r e1]
      rfl
    | _ => cases e
theorem f_all : Op1 X.K cl dAll (fun v H Q => rAll X.K [v] H Q) := by
  intro W F H Q v x s t rx q
  unfold dAll at q
  split at q
  · split at q
    · rename_i bs e
      obtain ⟨a, vs, rfl, h, r⟩ := rx
      have := bls_rep r e
      subst this
      exact ⟨a, bs, rfl, h, out_v s t q (.bl _)⟩
    · exact False.elim q
  · exact False.elim q
theorem f_any : Op1 X.K cl dAny (fun v H Q => rAny X.K [v] H Q) := by
  intro W F H Q v x s t rx q
  unfold dAny at q
  split at q
  · split at q
    · rename_i bs e
      obtain ⟨a, vs, rfl, h, r⟩ := rx
      have := bls_rep r e
      subst this
      exact ⟨a, bs, rfl, h, out_v s t q (.bl _)⟩
    · exact False.elim q
  · exact False.elim q
theorem f_sum : Op1 X.K cl dSum (fun v H Q => rSum X.K [v] H Q) := by
  intro W F H Q v x s t rx q
  unfold dSum at q
  split at q
  · split at q
    · rename_i bs e
      obtain ⟨a, vs, rfl, h, r⟩ := rx
      have := ints_rep r e
      subst this
      exact ⟨a, bs, rfl, h, out_v s t q (.int _)⟩
    · exact False.elim q
  · exact False.elim q
def rTupF (K : PySem.W.Frag) : List V → Hp → VK → Prop := fun xs H Q => ∃ p ys, xs = [.ref p] ∧ ((SqL K H p ys ∧ NewT H ys Q) ∨ (SqT K H p ys ∧ Q (.ref p) H))
theorem o_tuple : CallR X (.type "tuple") (rTupF X.K) := by
  intro pins s σ H xs us Q I r h
  obtain ⟨p, ys, rfl, h⟩ := h
  obtain ⟨u, rfl, rx⟩ := vals1 r
  cases rx
  rcases h with ⟨hq, q⟩ | ⟨hq, q⟩
  · obtain ⟨its, r', pl, hz⟩ := I.list hq
    have hlen := r'.length
    refine call_tuple_list pl.isList (fun h' kp => ?_) (by simp only [List.size_toArray] <;> omega)
    have I1 : Inv X pins σ H { s with heap := h' } := I.kept (t' := s.toks) kp
    exact ⟨.ref h'.objs.size, _, Inv.newT (t' := s.toks) I1 r' hz, rfl, q _ _ (I1.hok.fresh (Nat.le_refl _)) rfl⟩
  · obtain ⟨its, r', pl, hz⟩ := I.tuple hq
    exact call_tuple_same pl ⟨.ref p, H, I, rfl, q⟩
theorem f_tuple : Op1 X.K cl dTuple (fun v H Q => rTupF X.K [v] H Q) := by
  intro W F H Q v x s t rx q
  unfold dTuple at q
  split at q
  · obtain ⟨a, vs, rfl, h, r⟩ := rx
    exact ⟨a, vs, rfl, .inl ⟨h, newT_out s t r q⟩⟩
  · obtain ⟨a, vs, rfl, h, r⟩ := rx.tup
    exact ⟨a, vs, rfl, .inr ⟨sqH s h, out_v s t q (.tup h r)⟩⟩
  · exact False.elim q
theorem f_list : Op1 X.K cl dList (fun v H Q => ∃ p ys, [v] = [V.ref p] ∧ (SqL X.K H p ys ∨ SqT X.K H p ys) ∧ ∀ l, H l = none → Q (.ref l) (upd H l (.lst ys))) := by
  intro W F H Q v x s t rx q
  unfold dList at q
  split at q
  · obtain ⟨a, vs, rfl, h, r⟩ := rx
    exact ⟨a, vs, rfl, .inl h, fun p n => newL_out s t r q n⟩
  · obtain ⟨a, vs, rfl, h, r⟩ := rx.tup
    exact ⟨a, vs, rfl, .inr (sqH s h), fun p n => newL_out s t r q n⟩
  · exact False.elim q
end

/-! ## slices -/
def cutD (xs : List D) (lo hi : Option Int) : List D := (xs.drop (HT.sIx xs.length 0 lo)).take (HT.sIx xs.length xs.length hi - HT.sIx xs.length 0 lo)
def dSl (x : D) (lo hi : Option Int) : Res D := match x with
  | .lst ds => .ok (.lst (cutD ds lo hi))
  | .tup ds => .ok (.tup (cutD ds lo hi))
  | .str z => if z.length ≤ sizeLine then .ok (.str (cutS z lo hi)) else .stuck
  | _ => .stuck
def evO : Option ME → Env → Res (Option Int)
  | none, _ => .ok none
  | some m, ρ => (m ρ).bind fun d => match d with
    | .int i => .ok (some i)
    | _ => .stuck
def mSl (a : ME) (lo hi : Option ME) : ME := fun ρ => (a ρ).bind fun x => (evO lo ρ).bind fun l => (evO hi ρ).bind fun h => dSl x l h
def tO (K : PySem.W.Frag) (cl : Nat → Addr) (W : Wish) (m : Option ME) : TO := fun σ H Q => ∃ B F ρ, Rel K cl B F H σ ρ ∧ match evO m ρ with
  | .ok o => ∀ F' H', Grow F H F' H' → Q o H'
  | .err c => ∀ H', Same H H' → W c H'
  | .stuck => False
section
variable {X : Cx} {cl : Nat → Addr} {W : Wish} {a e : Expr} {lo hi : Option Expr} {ma me : ME} {ml mh : Option ME} {pos p2 : Pos}
theorem POi {X : Cx} {e : Option Expr} {t t' : TO} (h : PO X e t) (i : ∀ σ H Q, t' σ H Q → t σ H Q) : PO X e t' := ⟨fun pins s σ H Q I q => h.run pins s σ H Q I (i σ H Q q)⟩
theorem vo_none : PO X none (tO X.K cl W none) := POi po_none fun σ H Q ⟨B, F, ρ, R, q⟩ => q F H (Grow.refl R.sub R.tups)
theorem vo_some (h : PE X e (tE X.K cl W me)) : PO X (some e) (tO X.K cl W (some me)) := by
  refine POi (po_some h) fun σ H Q ⟨B, F, ρ, R, q⟩ => ⟨B, F, ρ, R, ?_⟩
  change (match ((me ρ).bind fun d => match d with | .int i => .ok (some i) | _ => .stuck : Res (Option Int)) with | .ok o => ∀ F' H', Grow F H F' H' → Q o H' | .err c => ∀ H', Same H H' → W c H' | .stuck => False) at q
  cases e1 : me ρ with
  | err c => rw [e1] at q; exact q
  | stuck => rw [e1] at q; exact q
  | ok d =>
    rw [e1] at q
    intro F1 H1 v g r
    cases d with
    | int i => cases r; exact ⟨i, rfl, q F1 H1 g⟩
    | _ => exact False.elim q
def rSlF (K : PySem.W.Frag) : V → Option Int → Option Int → Hp → VK → Prop := fun x lo hi H Q => ∃ a xs, x = .ref a ∧ SqT K H a xs ∧
  (HT.sIx xs.length 0 lo = 0 ∧ HT.sIx xs.length xs.length hi = xs.length → Q (.ref a) H) ∧ (¬ (HT.sIx xs.length 0 lo = 0 ∧ HT.sIx xs.length xs.length hi = xs.length) → NewT H (cutV xs lo hi) Q)
theorem sl_tupF : SlR X (rSlF X.K) := by
  intro pins s σ H x v vl vu lo hi sl Q I rx hs pl pu h
  obtain ⟨a, xs, rfl, hx, q1, q2⟩ := h
  cases rx
  obtain ⟨its, r, ht, hz⟩ := I.tuple hx
  have hlen : its.toArray.size = xs.length := by rw [List.size_toArray]; exact r.length.symm
  refine ⟨"tuple", _, PyProof.Rows.slot_tuple_getitem.lookup, ht.typeIs, ?_⟩
  by_cases hw : HT.sIx xs.length 0 lo = 0 ∧ HT.sIx xs.length xs.length hi = xs.length
  · exact getItem_tuple_whole ht hs pl pu (by rw [hlen]; exact hw) ⟨.ref a, H, I, rfl, q1 hw⟩
  · refine HT.getItem_tuple_cut ht hs pl pu (by rw [hlen]; exact hw) ?_ (by rw [hlen]; exact hz)
    rw [hlen]
    exact ⟨.ref s.heap.objs.size, _, Inv.newT (t' := s.toks) I ((r.drop (HT.sIx xs.length 0 lo)).take (HT.sIx xs.length xs.length hi - HT.sIx xs.length 0 lo)) (Nat.le_trans (cutV_length xs lo hi) hz), rfl, q2 hw _ _ (I.hok.fresh (Nat.le_refl _)) rfl⟩
theorem cut_rep {K : PySem.W.Frag} {F : Hp} {vs : List V} {ds : List D} (r : RepL K cl F vs ds) (lo hi : Option Int) : RepL K cl F (cutV vs lo hi) (cutD ds lo hi) := by
  unfold cutV cutD
  rw [r.length]
  exact (r.drop _).take _
theorem cut_all {ds : List D} {lo hi : Option Int} (h : HT.sIx ds.length 0 lo = 0 ∧ HT.sIx ds.length ds.length hi = ds.length) : cutD ds lo hi = ds := by
  unfold cutD
  rw [h.1, h.2]
  simp
abbrev rSlAll (K : PySem.W.Frag) : V → Option Int → Option Int → Hp → VK → Prop := fun x lo hi H Q => rSlL K x lo hi H Q ∨ rSlF K x lo hi H Q ∨ rSlS x lo hi H Q
theorem ve_slice (ha : PE X a (tB X.K cl W ma)) (hl : PO X lo (tO X.K cl W ml)) (hh : PO X hi (tO X.K cl W mh)) : PE X (.Subscript a (.Slice lo hi none p2) pos) (tE X.K cl W (mSl ma ml mh)) := by
  refine PEi (pe_slice (r := rSlAll X.K) (sl_list.or (sl_tupF.or sl_str)) ha hl hh) fun σ H Q ⟨B, F, ρ, R, q⟩ => thenB R q fun x F1 H1 v _ g1 r1 q1 => ?_
  refine ⟨B, F1, ρ, R.grow g1, ?_⟩
  cases e1 : evO ml ρ with
  | err c => rw [e1] at q1; exact q1
  | stuck => rw [e1] at q1; exact q1
  | ok l =>
    rw [e1] at q1
    intro F2 H2 g2
    refine ⟨B, F2, ρ, (R.grow g1).grow g2, ?_⟩
    simp only [Res.bind_ok] at q1
    cases e2 : evO mh ρ with
    | err c => rw [e2] at q1; exact fun H' s' => q1 H' (g2.hh.trans s')
    | stuck => rw [e2] at q1; exact q1
    | ok h =>
      rw [e2] at q1
      intro F3 H3 g3
      have r3 := (r1.mono (g2.ff g1.sub) g2.hh).mono (g3.ff g2.sub) g3.hh
      have q3 : out X.K cl W (dSl x l h) F3 H3 Q := out_grow (g2.trans g3) q1
      unfold dSl at q3
      split at q3
      · obtain ⟨b, vs, rfl, hb, r⟩ := r3
        exact .inl ⟨b, vs, rfl, hb, fun p n => newL_out g3.sub g3.tups (cut_rep r l h) q3 n⟩
      · obtain ⟨b, vs, rfl, hb, r⟩ := r3.tup
        refine .inr (.inl ⟨b, vs, rfl, sqH g3.sub hb, fun hw => ?_, fun _ => newT_out g3.sub g3.tups (cut_rep r l h) q3⟩)
        rw [r.length] at hw
        rw [cut_all hw] at q3
        exact out_v g3.sub g3.tups q3 (.tup hb r)
      · split at q3
        · rename_i hz
          exact .inr (.inr ⟨_, r3.str, hz, out_v g3.sub g3.tups q3 (.str _)⟩)
        · exact False.elim q3
      · exact False.elim q3
end
theorem bt_all : bootBuiltins "all" = some (.builtin "all") := by decide +kernel
theorem bt_any : bootBuiltins "any" = some (.builtin "any") := by decide +kernel
theorem bt_sum : bootBuiltins "sum" = some (.builtin "sum") := by decide +kernel
end CH
namespace CH
open PySem PySem.Spec L2

/-! ## a list or a tuple that is walked by an iterator -/
def SqA (K : PySem.W.Frag) (t : Bool) (H : Hp) (a : Addr) (xs : List V) : Prop := if t then SqT K H a xs else SqL K H a xs
def IsItA (t : Bool) (h : Heap) (it a : Addr) (i : Nat) : Prop := if t then h.IsTupleIter it a i else h.IsListIter it a i
def IsSqA (t : Bool) (h : Heap) (a : Addr) (items : Array Value) : Prop := if t then h.IsTuple a items else h.IsList a items
def itObj (t : Bool) (a : Addr) : Obj := { cls := .type (if t then "tuple_iterator" else "list_iterator"), data := .fields #[.ref a, .int 0 0] }
section
variable {K : PySem.W.Frag} {t : Bool} {h h' : Heap} {it a : Addr} {i : Nat}
theorem IsItA.at (x : IsItA t h it a i) (e : ∀ o, h.get? it = some o → h'.get? it = some o) : IsItA t h' it a i := by
  cases t
  · exact Heap.IsListIter.at (show h.IsListIter it a i from x) e
  · exact Heap.IsTupleIter.at (show h.IsTupleIter it a i from x) e
theorem IsItA.obj (x : IsItA t h it a i) : ∃ o, h.get? it = some o ∧ ∀ v, o.data ≠ .cell v := by
  cases t
  · obtain ⟨o, e, _, d⟩ := (show h.IsListIter it a i from x); exact ⟨o, e, fun v q => by rw [d] at q; cases q⟩
  · obtain ⟨o, e, _, d⟩ := (show h.IsTupleIter it a i from x); exact ⟨o, e, fun v q => by rw [d] at q; cases q⟩
theorem IsItA.first (e : h.get? it = some (itObj t a)) : IsItA t h it a 0 := by
  cases t
  · exact ⟨_, e, rfl, rfl⟩
  · exact ⟨_, e, rfl, rfl⟩
theorem Inv.seqA {X : Cx} {pins : List (Addr × Obj)} {σ : St} {H : Hp} {s : Shared} {xs : List V} (I : Inv X pins σ H s) (q : SqA X.K t H a xs) : ∃ its : List Value, Vals xs its ∧ IsSqA t s.heap a its.toArray ∧ xs.length ≤ sizeLine ∧ a < s.heap.objs.size := by
  cases t
  · obtain ⟨its, rv, p, hz⟩ := I.list (show SqL X.K H a xs from q)
    exact ⟨its, rv, p.isList, hz, p.lt⟩
  · obtain ⟨its, rv, p, hz⟩ := I.tuple (show SqT X.K H a xs from q)
    obtain ⟨o, ho, r⟩ := id p
    exact ⟨its, rv, p, hz, Heap.lt_size ho⟩
theorem Inv.seqA_inj {X : Cx} {pins : List (Addr × Obj)} {σ : St} {H : Hp} {s : Shared} {xs ys : List V} (I : Inv X pins σ H s) (q : SqA X.K t H a xs) (q' : SqA X.K t H a ys) : xs = ys := by
  cases t
  · exact I.list_inj (show SqL X.K H a xs from q) q'
  · exact I.tuple_inj (show SqT X.K H a xs from q) q'
theorem drawsA {prog : Program} {w : World} {A : Around} (hh : A.handled = none) (hne : a ≠ it) (items : Array Value) : Draws prog w A it [it, a] items.size (fun i v => items[i]? = some v) (fun i h => IsItA t h it a i ∧ IsSqA t h a items) := by
  cases t
  · exact Draws.list hh it a hne items
  · exact Draws.tuple hh it a hne items
theorem beginsA (t : Bool) (a : Addr) (items : Array Value) : Begins (.ref a) (itObj t a) fun h => IsSqA t h a items := by
  cases t
  · exact begins_list a items
  · exact begins_tuple a items
end

/-! ## enumerate -/
theorem meets_enumerate_new1 {v : Value} {o : Obj} {H : Heap → Prop} (B : Begins v o H) :
    Meets (Builtin.«enumerate.__new__» ⟨[.type "enumerate", v], []⟩) (fun _ R s => H s.heap ∧
      R (.ok (.ret (.ref (s.heap.push o).objs.size))) { s with heap := (s.heap.push o).push { cls := .type "enumerate", data := .fields #[.none, .bool false, .ref s.heap.objs.size, rawInt 0, .none, .none] } }) :=
  .of_wp fun prog w A R s h => by
    obtain ⟨hp, g, d, tk, os⟩ := s; obtain ⟨h1, h⟩ := h
    have hsub := sub_enumerate
    have q1 : ∀ {A' : Around} {E : Value → Shared → Prop} {Q : Value → Shared → Prop}, Q (.ref hp.objs.size) ⟨hp.push o, g, d, tk, os⟩ → wpAny (model prog w) A' (pyIter v) Q E ⟨hp, g, d, tk, os⟩ :=
      fun q => B.iter prog w _ _ ⟨hp, g, d, tk, os⟩ _ h1 q
    wp_walk using q1
    refine wpAny_stack_any fun st => wpAny_pure ?_
    split
    · rename_i c _ _ _ _ _
      cases (c == Value.type "enumerate")
      · wp_walk using q1
        exact ⟨_, rfl, h⟩
      · wp_walk using q1
        exact ⟨_, rfl, h⟩
    · wp_walk using q1
      exact ⟨_, rfl, h⟩
section
variable {prog : Program} {w : World} {A : Around} {E : Value → Shared → Prop} {s : Shared}
theorem enum_begins1 {v : Value} {o : Obj} {H : Heap → Prop} {Q : Value → Shared → Prop} (B : Begins v o H) (h1 : H s.heap)
    (h : ∀ h', IsEnum h' (s.heap.objs.size + 1) s.heap.objs.size 0 .none → h'.get? s.heap.objs.size = some o → h'.objs.size = s.heap.objs.size + 2 →
      (∀ b o, s.heap.get? b = some o → h'.get? b = some o) → Q (.ref (s.heap.objs.size + 1)) { s with heap := h' }) :
    wpAny (model prog w) A (call (.type "enumerate") [v]) Q E s := by
  refine callType_new F.called_enumerate (by decide) (F.typeCall_enumerate_1 _) (F.newCall_enumerate_1 _) (fun obj => F.args_object_init_2 obj _) F.entry_enumerate_new
    (meets_enumerate_new1 B) ⟨h1, ?_⟩
  have hz : (s.heap.push o).objs.size = s.heap.objs.size + 1 := Heap.size_push ..
  show _ ∧ _
  rw [hz]
  have he : IsEnum ((s.heap.push o).push { cls := .type "enumerate", data := .fields #[.none, .bool false, .ref s.heap.objs.size, rawInt 0, .none, .none] }) (s.heap.objs.size + 1) s.heap.objs.size 0 .none := by
    have := Heap.get?_push_size (s.heap.push o) (o := { cls := .type "enumerate", data := .fields #[.none, .bool false, .ref s.heap.objs.size, rawInt 0, .none, .none] }) rfl
    rw [hz] at this; exact this
  refine ⟨⟨_, he, rfl⟩, h _ he (Heap.get?_push_of_some _ (Heap.get?_push_size _ B.free)) (by rw [Heap.size_push, hz]) fun b o x => Heap.get?_push_of_some _ (Heap.get?_push_of_some _ x)⟩
end
def ItE (K : PySem.W.Frag) (t : Bool) (a : Addr) : It :=
  ⟨fun i H => ∃ (xs : List V) (x : V), SqA K t H a xs ∧ xs[i]? = some x, fun i H v H' => ∃ T x o, v = .ref T ∧ H T = none ∧ o.dict = none ∧ H' = upd H T (.frz o (.tup [.int (i : Nat), x])) ∧ ∀ xs, SqA K t H a xs → xs[i]? = some x, fun i H => ∃ xs : List V, SqA K t H a xs ∧ xs.length = i⟩
theorem turn_enumA {P : Program} {w : World} {K : PySem.W.Frag} {elts : List Expr} {kk : Nat} {tpos : Pos} (t : Bool) (a e it : Addr) :
    Turn P w K (.Tuple elts kk tpos) (ItE K t a) [e, it] e (fun i h => ((∃ old, IsEnum h e it ((i : Nat) : Int) old) ∧ IsItA t h it a i) ∧ e ≠ it ∧ a ≠ it ∧ a ≠ e) where
  mem := by simp
  obj := fun i h st b hb => by
    obtain ⟨⟨⟨old, he⟩, hit⟩, _⟩ := st
    have e' : b = e ∨ b = it := by simpa using hb
    rcases e' with z | z
    · rw [z]; exact ⟨_, he, fun v q => nomatch q⟩
    · rw [z]; exact hit.obj
  keep := fun i h h' st k => let ⟨⟨⟨old, he⟩, hi⟩, hne⟩ := st; ⟨⟨⟨old, k e (by simp) _ he⟩, hi.at fun o q => k it (by simp) o q⟩, hne⟩
  item := by
    intro X hP hw hK hc i pins s σ H E I hf st hg
    subst hP hw hK
    obtain ⟨⟨⟨old, he⟩, hit⟩, hne, hai, hae⟩ := st
    obtain ⟨xs, x, hq, hx⟩ := hg
    obtain ⟨its, rv, p, hz, _⟩ := Inv.seqA I hq
    obtain ⟨u, hu, ru⟩ := rv.get hx
    have hel : e < s.heap.objs.size := Heap.lt_size he
    have hil : it < s.heap.objs.size := by obtain ⟨_, q, _⟩ := hit.obj; exact Heap.lt_size q
    have hlt : i < its.toArray.size := by
      have := (List.getElem?_eq_some_iff.mp hu).1
      simpa using this
    refine wpAny_pyNext_enum_itemD (drawsA (t := t) (show X.A.in1.handled = none from I.ok.hd hc) hai its.toArray) he ⟨hit, p⟩ hlt hne (by simp only [List.mem_cons, List.not_mem_nil, or_false, not_or]; exact ⟨hne, Ne.symm hae⟩) fun y h' tk hy ho hst' hT hsz hk => ?_
    have ey : y = u := by
      have h1 : its[i]? = some y := by simpa using hy
      rw [hu] at h1
      exact (Option.some.inj h1).symm
    subst ey
    refine ⟨_, rfl, wpAny_letOwnedTupleGo_enum (s := { s with heap := h', toks := tk + 1 }) ho fun h'' he' sb => ?_⟩
    have hT2 : h''.get? s.heap.objs.size = some { cls := .type "tuple", data := .seq #[.int i tk, y] } := (sb.2 _ (Nat.ne_of_gt hel)).trans hT
    have new : ObjOk X.prog X.w (upd H s.heap.objs.size (.frz { cls := .type "tuple", data := .seq #[.int i tk, y] } (.tup [.int (i : Nat), x]))) h'' s.heap.objs.size (.frz { cls := .type "tuple", data := .seq #[.int i tk, y] } (.tup [.int (i : Nat), x])) :=
      ⟨hT2, by show 2 ≤ sizeLine; decide, [.int i tk, y], .cons ⟨_, rfl⟩ (.cons ru .nil), ⟨_, hT2, rfl, _, rfl⟩⟩
    have I1 : Inv X pins σ (upd H s.heap.objs.size (.frz { cls := .type "tuple", data := .seq #[.int i tk, y] } (.tup [.int (i : Nat), x]))) { s with heap := h'', toks := tk + 1 } :=
      I.turnedNew (ch := [e, it]) (fun b ob hb q => (sb.2 b (fun z => hb (by simp [z]))).trans (hk b ob (fun z => hb (by simp [z])) (fun z => hb (by simp [z])) q)) hf (Nat.le_refl _) new
    refine ⟨.ref s.heap.objs.size, _, I1, rfl, ⟨_, x, _, rfl, I.hok.fresh (Nat.le_refl _), rfl, rfl, fun ys hy => by rw [Inv.seqA_inj I hy hq]; exact hx⟩, ⟨⟨⟨y, ?_⟩, hst'.1.at fun o q => (sb.2 it (Ne.symm hne)).trans q⟩, hne, hai, hae⟩, fun b hb => ?_⟩
    · have e1 : ((i + 1 : Nat) : Int) = (i : Int) + 1 := by omega
      rw [e1]; exact he'
    · have hb' : b < s.heap.objs.size := by
        have e' : b = e ∨ b = it := by simpa using hb
        rcases e' with z | z
        · rw [z]; exact hel
        · rw [z]; exact hil
      rw [upd_ne (Nat.ne_of_lt hb')]
      exact (hf b hb).1
  done := by
    intro X hP hw hK hc i pins s σ H E I hf st hg
    subst hP hw hK
    obtain ⟨⟨⟨old, he⟩, hit⟩, hne, hai, hae⟩ := st
    obtain ⟨xs, hq, hx⟩ := hg
    obtain ⟨its, rv, p, hz, _⟩ := Inv.seqA I hq
    obtain ⟨f0, f1, f2, f3, f4, f5⟩ := hf it (by simp)
    have hl := rv.length
    refine wpAny_pyNext_enum_endD (drawsA (t := t) (show X.A.in1.handled = none from I.ok.hd hc) hai its.toArray) he ⟨?_, p⟩ fun h' eb => ⟨rfl, I.turned (t' := s.toks) (fun b o hb q => eb b o hb q) f0 f1 f3 f4 f5⟩
    have : its.toArray.size = i := by rw [List.size_toArray]; omega
    rw [this]
    exact hit
  self := fun A i s Q E st h => let ⟨⟨⟨_, he⟩, _⟩, _⟩ := st; wpAny_pyIter_enum he h
def iEnumA (K : PySem.W.Frag) (ta : TA) : TI := fun σ H R => ta σ H fun vs H1 => ∃ t a xs, vs = [.ref a] ∧ SqA K t H1 a xs ∧ R (ItE K t a) H1
theorem pi_enumA {X : Cx} {e : Expr} {ta : TA} {p pos tpos : Pos} {elts : List Expr} {kk : Nat} (hg : Gl X "enumerate") (hm : X.mg "enumerate" = none) (ha : PA X [e] ta) (hs : starEach [e] X.env = [(false, eval e X.env)] := by rfl) :
    PI X (.Tuple elts kk tpos) (.Call (.Name "enumerate" p) [e] [] pos) (iEnumA X.K ta) := by
  refine ⟨fun pins s σ H R I h => ?_⟩
  refine PyProof.Rows.Call_ (ld_blt I hg hm PyProof.Rows.boot_enumerate (PyProof.Rows.callWith_type1 (thn (ha.run pos pins s σ H _ I h) fun us s1 ⟨vs, H1, I1, r1, q1⟩ => ?_) hs rfl))
  obtain ⟨t, a, xs, ex, hq, q⟩ := q1
  subst ex
  cases r1 with
  | cons r rr =>
    cases rr
    cases r
    obtain ⟨its, rv, p', hz, hlt⟩ := Inv.seqA I1 hq
    refine enum_begins1 (beginsA t a its.toArray) p' fun h' he hit hsz hk => wpAny_pyIter_enum he ?_
    have I2 : Inv X pins σ H1 { s1 with heap := h' } := I1.kept (t' := s1.toks) hk
    refine ⟨s1.heap.objs.size + 1, [s1.heap.objs.size + 1, s1.heap.objs.size], _, _, H1, rfl, I2, turn_enumA t a (s1.heap.objs.size + 1) s1.heap.objs.size, ⟨⟨⟨.none, he⟩, IsItA.first hit⟩, Nat.succ_ne_self _, Nat.ne_of_lt hlt, Nat.ne_of_lt (Nat.lt_succ_of_lt hlt)⟩, fun b hb => ?_, q⟩
    have e' : b = s1.heap.objs.size + 1 ∨ b = s1.heap.objs.size := by simpa using hb
    have hle : s1.heap.objs.size ≤ b := by
      rcases e' with z | z
      · rw [z]; exact Nat.le_add_right _ _
      · rw [z]; exact Nat.le_refl _
    exact I1.fpOk hle (I1.hok.fresh hle)

/-! ## zip -/
def ItZ (K : PySem.W.Frag) (t u : Bool) (a b : Addr) : It :=
  ⟨fun i H => ∃ (xs ys : List V) (x y : V), SqA K t H a xs ∧ SqA K u H b ys ∧ xs[i]? = some x ∧ ys[i]? = some y,
    fun i H v H' => ∃ T x y o, v = .ref T ∧ H T = none ∧ o.dict = none ∧ H' = upd H T (.frz o (.tup [x, y])) ∧ (∀ xs, SqA K t H a xs → xs[i]? = some x) ∧ ∀ ys, SqA K u H b ys → ys[i]? = some y,
    fun i H => ∃ xs ys : List V, SqA K t H a xs ∧ SqA K u H b ys ∧ i = min xs.length ys.length⟩
theorem turn_zipA {P : Program} {w : World} {K : PySem.W.Frag} {elts : List Expr} {kk : Nat} {tpos : Pos} {t u : Bool} {a b z TI TO i1 i2 : Addr} (S : ZipSep2 z TI TO i1 i2 [i1, a] [i2, b]) (hai : a ≠ i1) (hbi : b ≠ i2) :
    Turn P w K (.Tuple elts kk tpos) (ItZ K t u a b) [z, TI, TO, i1, i2] z (fun i h => IsZip h z TI TO .none ∧ IsTupOf2 h TI (.ref i1) (.ref i2) ∧ (∃ x y, IsTupOf2 h TO x y) ∧ IsItA t h i1 a i ∧ IsItA u h i2 b i) where
  mem := by simp
  obj := fun i h st c hc => by
    obtain ⟨hz, hTI, ⟨x, y, hTO⟩, h1, h2⟩ := st
    have e' : c = z ∨ c = TI ∨ c = TO ∨ c = i1 ∨ c = i2 := by simpa using hc
    rcases e' with q | q | q | q | q
    · rw [q]; exact ⟨_, hz, fun v q => nomatch q⟩
    · rw [q]; exact ⟨_, hTI, fun v q => nomatch q⟩
    · rw [q]; exact ⟨_, hTO, fun v q => nomatch q⟩
    · rw [q]; exact h1.obj
    · rw [q]; exact h2.obj
  keep := fun i h h' st k => by
    obtain ⟨hz, hTI, ⟨x, y, hTO⟩, h1, h2⟩ := st
    exact ⟨k z (by simp) _ hz, k TI (by simp) _ hTI, ⟨x, y, k TO (by simp) _ hTO⟩, h1.at fun o q => k i1 (by simp) o q, h2.at fun o q => k i2 (by simp) o q⟩
  item := by
    intro X hP hw hK hc i pins s σ H E I hf st hg
    subst hP hw hK
    obtain ⟨hz, hTI, ⟨x0, y0, hTO⟩, h1, h2⟩ := st
    obtain ⟨xs, ys, x, y, hqx, hqy, hx, hy⟩ := hg
    obtain ⟨its, rv, p, _, _⟩ := Inv.seqA I hqx
    obtain ⟨its2, rv2, p2, _, _⟩ := Inv.seqA I hqy
    obtain ⟨v1, hu, ru⟩ := rv.get hx
    obtain ⟨v2, hu2, ru2⟩ := rv2.get hy
    have hzl : z < s.heap.objs.size := Heap.lt_size hz
    have lt1 : i < its.toArray.size := by have := (List.getElem?_eq_some_iff.mp hu).1; simpa using this
    have lt2 : i < its2.toArray.size := by have := (List.getElem?_eq_some_iff.mp hu2).1; simpa using this
    refine wpAny_pyNext_zipD2_item S (drawsA (t := t) (show X.A.in1.handled = none from I.ok.hd hc) hai its.toArray) (drawsA (t := u) (show X.A.in1.handled = none from I.ok.hd hc) hbi its2.toArray) hz hTI hTO ⟨h1, p⟩ ⟨h2, p2⟩ lt1 lt2 fun w1 w2 h' tk e1 e2 z' TO' st1 st2 hT hsz hk => ?_
    have ew1 : w1 = v1 := by
      have q : its[i]? = some w1 := by simpa using e1
      rw [hu] at q
      exact (Option.some.inj q).symm
    have ew2 : w2 = v2 := by
      have q : its2[i]? = some w2 := by simpa using e2
      rw [hu2] at q
      exact (Option.some.inj q).symm
    subst ew1 ew2
    refine ⟨_, rfl, wpAny_letOwnedTupleGo_zip (s := { s with heap := h', toks := tk }) z' fun h'' z'' sb => ?_⟩
    have hT2 : h''.get? s.heap.objs.size = some { cls := .type "tuple", data := .seq #[w1, w2] } := (sb.2 _ (Nat.ne_of_gt hzl)).trans hT
    have new : ObjOk X.prog X.w (upd H s.heap.objs.size (.frz { cls := .type "tuple", data := .seq #[w1, w2] } (.tup [x, y]))) h'' s.heap.objs.size (.frz { cls := .type "tuple", data := .seq #[w1, w2] } (.tup [x, y])) :=
      ⟨hT2, by show 2 ≤ sizeLine; decide, [w1, w2], .cons ru (.cons ru2 .nil), ⟨_, hT2, rfl, _, rfl⟩⟩
    have I1 : Inv X pins σ (upd H s.heap.objs.size (.frz { cls := .type "tuple", data := .seq #[w1, w2] } (.tup [x, y]))) { s with heap := h'', toks := tk } :=
      I.turnedNew (t' := tk) (ch := [z, TI, TO, i1, i2]) (fun c o hb q => (sb.2 c (fun q' => hb (by simp [q']))).trans (hk c o (fun q' => hb (by simp [q'])) (fun q' => hb (by simp [q'])) (fun q' => hb (by simp [q'])) (fun q' => hb (by simp [q'])) q)) hf (Nat.le_refl _) new
    refine ⟨.ref s.heap.objs.size, _, I1, rfl, ⟨_, x, y, _, rfl, I.hok.fresh (Nat.le_refl _), rfl, rfl, fun l hl => by rw [Inv.seqA_inj I hl hqx]; exact hx, fun l hl => by rw [Inv.seqA_inj I hl hqy]; exact hy⟩, ⟨z'', ?_, ⟨w1, w2, ?_⟩, ?_, ?_⟩, fun c hcm => ?_⟩
    · exact (sb.2 _ S.TIz).trans (hk _ _ S.TIz S.TITO S.TIi1 S.TIi2 hTI)
    · exact (sb.2 _ S.TOz).trans TO'
    · exact st1.1.at fun o q => (sb.2 _ (Ne.symm S.zi1)).trans q
    · exact st2.1.at fun o q => (sb.2 _ (Ne.symm S.zi2)).trans q
    · have hlt : c < s.heap.objs.size := by
        have e' : c = z ∨ c = TI ∨ c = TO ∨ c = i1 ∨ c = i2 := by simpa using hcm
        rcases e' with q | q | q | q | q
        · rw [q]; exact hzl
        · rw [q]; exact Heap.lt_size hTI
        · rw [q]; exact Heap.lt_size hTO
        · rw [q]; obtain ⟨_, e1, _⟩ := h1.obj; exact Heap.lt_size e1
        · rw [q]; obtain ⟨_, e2, _⟩ := h2.obj; exact Heap.lt_size e2
      rw [upd_ne (Nat.ne_of_lt hlt)]
      exact (hf c hcm).1
  done := by
    intro X hP hw hK hc i pins s σ H E I hf st hg
    subst hP hw hK
    obtain ⟨hz, hTI, ⟨x0, y0, hTO⟩, h1, h2⟩ := st
    obtain ⟨xs, ys, hqx, hqy, hend⟩ := hg
    obtain ⟨its, rv, p, _, _⟩ := Inv.seqA I hqx
    obtain ⟨its2, rv2, p2, _, _⟩ := Inv.seqA I hqy
    have l1 := rv.length
    have l2 := rv2.length
    have z1 : its.toArray.size = xs.length := by rw [List.size_toArray]; omega
    have z2 : its2.toArray.size = ys.length := by rw [List.size_toArray]; omega
    exact wpAny_pyNext_zipD2_end S (drawsA (t := t) (show X.A.in1.handled = none from I.ok.hd hc) hai its.toArray) (drawsA (t := u) (show X.A.in1.handled = none from I.ok.hd hc) hbi its2.toArray) hz hTI hTO ⟨h1, p⟩ ⟨h2, p2⟩ (by omega) (by omega) (by omega) fun h' tk hk => ⟨rfl, I.turnedL (t' := tk) (ch := [z, TI, TO, i1, i2]) (fun c o hb q =>
      hk c o (fun q' => hb (by simp [q'])) (fun q' => hb (by simp [q'])) (fun q' => hb (by simp [q'])) (fun q' => hb (by simp [q'])) q) hf⟩
  self := fun A i s Q E st h => wpAny_pyIter_zip st.1 h
def iZipM (K : PySem.W.Frag) (ta : TA) : TI := fun σ H R => ta σ H fun vs H1 => ∃ t u a b xs ys, vs = [.ref a, .ref b] ∧ SqA K t H1 a xs ∧ SqA K u H1 b ys ∧ R (ItZ K t u a b) H1
theorem pi_zipM {X : Cx} {e e2 : Expr} {ta : TA} {p pos tpos : Pos} {elts : List Expr} {kk : Nat} (hg : Gl X "zip") (hm : X.mg "zip" = none) (ha : PA X [e, e2] ta)
    (hs : starEach [e, e2] X.env = (false, eval e X.env) :: starEach [e2] X.env := by rfl) (hpl : (backTo pos (starEach [e2] X.env)).any (·.1) = false := by rfl) :
    PI X (.Tuple elts kk tpos) (.Call (.Name "zip" p) [e, e2] [] pos) (iZipM X.K ta) := by
  refine ⟨fun pins s σ H R I h => ?_⟩
  refine PyProof.Rows.Call_ (ld_blt I hg hm PyProof.Rows.boot_zip (PyProof.Rows.callWith_type1 (thn (ha.run pos pins s σ H _ I h) fun us s1 ⟨vs, H1, I1, r1, q1⟩ => ?_) hs hpl))
  obtain ⟨t, u, a, b, xs, ys, ex, hqx, hqy, q⟩ := q1
  subst ex
  cases r1 with
  | cons r rr =>
    cases rr with
    | cons r' rr =>
      cases rr
      cases r
      cases r'
      have fresh5 : ∀ c, c ∈ [s1.heap.objs.size + 4, s1.heap.objs.size + 2, s1.heap.objs.size + 3, s1.heap.objs.size, s1.heap.objs.size + 1] → FpOk X pins H1 c := fun c hcm => by
        have e' : c = s1.heap.objs.size + 4 ∨ c = s1.heap.objs.size + 2 ∨ c = s1.heap.objs.size + 3 ∨ c = s1.heap.objs.size ∨ c = s1.heap.objs.size + 1 := by simpa using hcm
        have hle : s1.heap.objs.size ≤ c := by
          rcases e' with z | z | z | z | z
          · rw [z]; exact Nat.le_add_right _ _
          · rw [z]; exact Nat.le_add_right _ _
          · rw [z]; exact Nat.le_add_right _ _
          · rw [z]; exact Nat.le_refl _
          · rw [z]; exact Nat.le_add_right _ _
        exact I1.fpOk hle (I1.hok.fresh hle)
      obtain ⟨its, rv, p1, _, l1⟩ := Inv.seqA I1 hqx
      obtain ⟨its2, rv2, p2, _, l2⟩ := Inv.seqA I1 hqy
      refine zip_begins2 (beginsA t a its.toArray) (beginsA u b its2.toArray) p1 p2 fun h' hz hTI hTO h1 h2 hsz hk => wpAny_pyIter_zip hz ?_
      have I2 : Inv X pins σ H1 { s1 with heap := h' } := I1.kept (t' := s1.toks) hk
      exact ⟨s1.heap.objs.size + 4, [s1.heap.objs.size + 4, s1.heap.objs.size + 2, s1.heap.objs.size + 3, s1.heap.objs.size, s1.heap.objs.size + 1], _, _, H1, rfl, I2, turn_zipA (zip_sep2 (fp1 := [a]) (fp2 := [b]) (by simpa using l1) (by simpa using l2)) (Nat.ne_of_lt l1) (Nat.ne_of_lt (Nat.lt_succ_of_lt l2)), ⟨hz, hTI, ⟨_, _, hTO⟩, IsItA.first h1, IsItA.first h2⟩, fresh5, q⟩

/-! ## their meanings -/
def seqOf : D → Option (List D)
  | .lst ds => some ds
  | .tup ds => some ds
  | _ => none
def enumD (ds : List D) : List D := ds.mapIdx fun i d => .tup [.int i, d]
def zipD (xs ys : List D) : List D := List.zipWith (fun x y => .tup [x, y]) xs ys
def mEnum (a : ME) : Env → Res (List D) := fun ρ => (a ρ).bind fun x => match seqOf x with
  | some ds => .ok (enumD ds)
  | none => .stuck
def mZip (a b : ME) : Env → Res (List D) := fun ρ => (a ρ).bind fun x => (b ρ).bind fun y => match seqOf x, seqOf y with
  | some ds, some es => .ok (zipD ds es)
  | _, _ => .stuck
section
variable {K : PySem.W.Frag} {cl : Nat → Addr} {F : Hp}
theorem Same.sqa {H H' : Hp} {t : Bool} {a : Addr} {xs : List V} (e : Same H H') (h : SqA K t H a xs) : SqA K t H' a xs := by
  cases t
  · exact Same.sql e h
  · exact Same.sqt e h
theorem rep_seq {v : V} {d : D} {ds : List D} (r : Rep K cl F v d) (e : seqOf d = some ds) : ∃ t a vs, v = .ref a ∧ SqA K t F a vs ∧ RepL K cl F vs ds := by
  cases d with
  | lst xs => cases e; cases r with | lst h r => exact ⟨false, _, _, rfl, h, r⟩
  | tup xs => cases e; cases r with | tup h r => exact ⟨true, _, _, rfl, h.sq, r⟩
  | _ => cases e
/-- a new pair, frozen -/
theorem pair_new {F1 H : Hp} {T : Addr} {o : Obj} {xs : List V} {ds : List D} (w : Bool) (s : Same F1 H) (t : TupC F1 H) (n : H T = none) (z : o.dict = none) (r : RepL K cl F1 xs ds) : ∃ F2, Grow F1 H F2 (upd H T (.frz o (.tup xs))) ∧ RepX w K cl F2 (.ref T) (.tup ds) :=
  ⟨_, Grow.new s t n, Rep.toX w (.tup (.inl ⟨o, upd_same, z⟩) (r.mono fun a u e => by rw [upd_ne (ne_of_none (s a u e) n)]; exact e))⟩
theorem it_enum {t : Bool} {a : Addr} {vs : List V} {ds : List D} (w : Bool) (h : SqA K t F a vs) (r : RepL K cl F vs ds) : IterOf w K cl (ItE K t a) F (enumD ds) where
  go := fun i d F1 H e s1 s2 tc => by
    rw [enumD, List.getElem?_mapIdx, Option.map_eq_some_iff] at e
    obtain ⟨d0, e0, rfl⟩ := e
    obtain ⟨v, e1, rv⟩ := r.get e0
    have hq : SqA K t H a vs := Same.sqa (s1.trans s2) h
    refine ⟨⟨vs, v, hq, e1⟩, fun x H' y => ?_⟩
    obtain ⟨T, x', o, rfl, n, z, rfl, y⟩ := y
    have := y vs hq
    rw [e1] at this
    cases this
    exact pair_new w s2 tc n z (.cons (.int _) (.cons (rv.mono s1) .nil))
  stop := fun i F1 H l s1 s2 => ⟨vs, Same.sqa (s1.trans s2) h, by rw [r.length]; simpa [enumD] using l⟩
theorem it_zip {t u : Bool} {a b : Addr} {vs us : List V} {ds es : List D} (w : Bool) (h : SqA K t F a vs) (r : RepL K cl F vs ds) (h2 : SqA K u F b us) (r2 : RepL K cl F us es) : IterOf w K cl (ItZ K t u a b) F (zipD ds es) where
  go := fun i d F1 H e s1 s2 tc => by
    rw [zipD, List.getElem?_zipWith_eq_some] at e
    obtain ⟨d1, d2, e1, e2, rfl⟩ := e
    obtain ⟨v1, f1, rv1⟩ := r.get e1
    obtain ⟨v2, f2, rv2⟩ := r2.get e2
    have hq : SqA K t H a vs := Same.sqa (s1.trans s2) h
    have hq2 : SqA K u H b us := Same.sqa (s1.trans s2) h2
    refine ⟨⟨vs, us, v1, v2, hq, hq2, f1, f2⟩, fun x H' y => ?_⟩
    obtain ⟨T, x', y', o, rfl, n, z, rfl, y1, y2⟩ := y
    have k1 := y1 vs hq
    have k2 := y2 us hq2
    rw [f1] at k1
    rw [f2] at k2
    cases k1
    cases k2
    exact pair_new w s2 tc n z (.cons (rv1.mono s1) (.cons (rv2.mono s1) .nil))
  stop := fun i F1 H l s1 s2 => ⟨vs, us, Same.sqa (s1.trans s2) h, Same.sqa (s1.trans s2) h2, by rw [r.length, r2.length]; rw [← l]; simp [zipD]⟩
end
section
variable {X : Cx} {cl : Nat → Addr} {W : Wish} {e e2 : Expr} {ma mb : ME} {pos p tpos : Pos} {elts : List Expr} {kk : Nat}
theorem vi_enum {w : Bool} (hg : Gl X "enumerate") (hm : X.mg "enumerate" = none) (he : PE X e (tE X.K cl W ma)) (hs : starEach [e] X.env = [(false, eval e X.env)] := by rfl) : PI X (.Tuple elts kk tpos) (.Call (.Name "enumerate" p) [e] [] pos) (tI w X.K cl W (mEnum ma)) := by
  refine PIi (pi_enumA hg hm (pa_cons he pa_nil hs) hs) fun σ H R0 ⟨B, F, ρ, R, q⟩ => ⟨B, F, ρ, R, ?_⟩
  unfold mEnum at q
  cases e1 : ma ρ with
  | err c => rw [e1] at q; exact q
  | stuck => rw [e1] at q; exact q
  | ok d =>
    rw [e1] at q
    intro F1 H1 v g r
    simp only [Res.bind_ok] at q
    split at q
    · rename_i ds es
      obtain ⟨t, a, vs, rfl, h, rl⟩ := rep_seq r es
      exact ⟨t, a, vs, rfl, Same.sqa g.sub h, q F1 H1 _ g (it_enum w h rl)⟩
    · exact False.elim q
theorem vi_zip {w : Bool} (hg : Gl X "zip") (hm : X.mg "zip" = none) (he : PE X e (tE X.K cl W ma)) (he2 : PE X e2 (tE X.K cl W mb)) (hs : starEach [e, e2] X.env = (false, eval e X.env) :: starEach [e2] X.env := by rfl) (hs2 : starEach [e2] X.env = [(false, eval e2 X.env)] := by rfl) (hpl : (backTo pos (starEach [e2] X.env)).any (·.1) = false := by rfl) : PI X (.Tuple elts kk tpos) (.Call (.Name "zip" p) [e, e2] [] pos) (tI w X.K cl W (mZip ma mb)) := by
  refine PIi (pi_zipM hg hm (pa_cons he (pa_cons he2 pa_nil hs2) hs) hs hpl) fun σ H R0 ⟨B, F, ρ, R, q⟩ => ⟨B, F, ρ, R, ?_⟩
  unfold mZip at q
  cases e1 : ma ρ with
  | err c => rw [e1] at q; exact q
  | stuck => rw [e1] at q; exact q
  | ok d =>
    rw [e1] at q
    intro F1 H1 v g r
    refine ⟨B, F1, ρ, R.grow g, ?_⟩
    simp only [Res.bind_ok] at q
    cases e3 : mb ρ with
    | err c => rw [e3] at q; exact fun H2 s2 => q H2 (g.hh.trans s2)
    | stuck => rw [e3] at q; exact q
    | ok d2 =>
      rw [e3] at q
      intro F2 H2 v2 g2 r2
      simp only [Res.bind_ok] at q
      split at q
      · rename_i ds es f1 f2
        obtain ⟨t, a, vs, rfl, h, rl⟩ := rep_seq r f1
        obtain ⟨u, b, us, rfl, h2, rl2⟩ := rep_seq r2 f2
        have s12 := g2.ff g.sub
        have h' := Same.sqa s12 h
        exact ⟨t, u, a, b, vs, us, rfl, Same.sqa g2.sub h', Same.sqa g2.sub h2, q F2 H2 _ (g.trans g2) (it_zip w h' (rl.mono s12) h2 rl2)⟩
      · exact False.elim q
end
end CH
namespace CH
open PySem PySem.Spec L2

/-! ## t[::-1] -/
section
open PyProof.Rows
variable {prog : Program} {w : World} {A : Around} {E : Value → Shared → Prop} {s : Shared}
theorem rev_pick (xs : Array Value) : ((List.range xs.size).filterMap fun (m : Nat) => xs[(((xs.size : Int) - 1) + (m : Int) * (-1)).toNat]?).toArray = xs.toList.reverse.toArray := by
  have h : ∀ l : List Value, ((List.range l.length).filterMap fun (m : Nat) => l[(((l.length : Int) - 1) + (m : Int) * (-1)).toNat]?) = l.reverse := by
    intro l
    have key : ∀ n, n ≤ l.length → ((List.range n).filterMap fun (m : Nat) => l[(((l.length : Int) - 1) + (m : Int) * (-1)).toNat]?) = l.reverse.take n := by
      intro n
      induction n with
      | zero => intro _; rfl
      | succ n ih =>
        intro hn
        have e1 : (((l.length : Int) - 1) + (n : Int) * (-1)).toNat = l.length - 1 - n := by omega
        rw [List.range_succ, List.filterMap_append, ih (by omega), List.take_add_one, List.getElem?_reverse (by omega)]
        simp only [List.filterMap_cons, List.filterMap_nil, e1]
        rw [List.getElem?_eq_getElem (show l.length - 1 - n < l.length by omega)]
        rfl
    rw [key l.length (Nat.le_refl _)]
    rw [List.take_of_length_le (by simp)]
  have := h xs.toList
  simp only [Array.length_toList, Array.getElem?_toList] at this
  rw [this]
theorem sliceApplied_rev {sl : Addr} {vl vu vs : Value} {n : Nat} {Q : Int × Int × Nat → Shared → Prop} (hs : s.heap.IsSliceOf sl vl vu vs) (pl : IsPart vl none) (pu : IsPart vu none) (ps : IsPart vs (some (-1)))
    (h : Q ((n : Int) - 1, -1, n) s) : wpAny (model prog w) A (Builtin.Slice.sliceApplied (.ref sl) (pure (n : Int))) Q E s := by
  obtain ⟨os, hos, hcs, hds⟩ := id hs
  unfold Builtin.Slice.sliceApplied Builtin.Slice.sliceFields
  refine wpAny_bind (wpAny_bind (wpAny_field hos hds (x := vl) rfl (wpAny_bind (wpAny_field hos hds (x := vu) rfl (wpAny_bind (wpAny_field hos hds (x := vs) rfl (wpAny_pure ?_)))))))
  refine wpAny_bind (HT.slicePart_ ps ?_)
  show wpAny _ _ (if ((-1 : Int) == 0) = true then _ else _) _ _ s
  rw [if_neg (by decide)]
  refine wpAny_bind (HT.slicePart_ pl (wpAny_bind (HT.slicePart_ pu (wpAny_bind (wpAny_pure ?_)))))
  show wpAny _ _ (pure ((n : Int) - 1, (-1 : Int), Builtin.Slice.slicePlaces ((n : Int) - 1) (-1) (-1))) _ _ s
  have e : Builtin.Slice.slicePlaces ((n : Int) - 1) (-1) (-1) = n := by
    unfold Builtin.Slice.slicePlaces
    rw [if_neg (by decide)]
    split
    · have : ((n : Int) - 1 - -1 - 1) / (- -1) + 1 = n := by
        have : (- -1 : Int) = 1 := by decide
        rw [this, Int.ediv_one]; omega
      rw [this]; simp
    · have : n = 0 := by omega
      subst this; rfl
  rw [e]
  exact wpAny_pure h
theorem getItem_tuple_rev {t sl : Addr} {items : Array Value} {vl vu vs : Value} {Q : Value → Shared → Prop} (ht : IsTup s.heap t items) (hs : s.heap.IsSliceOf sl vl vu vs) (pl : IsPart vl none) (pu : IsPart vu none) (ps : IsPart vs (some (-1)))
    (h : Q (.ref s.heap.objs.size) { s with heap := s.heap.push { cls := .type "tuple", data := .seq items.toList.reverse.toArray } })
    (hsz : items.size ≤ sizeLine) : wpAny (model prog w) A (getItem (.ref t) (.ref sl)) Q E s := by
  have htake : sizeOk (.seq items.toList.reverse.toArray) := by
    show items.toList.reverse.toArray.size ≤ sizeLine
    rw [List.size_toArray, List.length_reverse, Array.length_toList]
    exact hsz
  obtain ⟨os, hos, hcs, hds⟩ := id hs
  have hTs : s.TypeIs (.ref sl) "slice" := ⟨os, hos, hcs⟩
  unfold getItem
  try with_reducible refine wpAny_holding ?_
  first | refine wpAny_bind (wpAny_pure ?_) | skip
  refine wpAny_bind (wpAny_sequenceKey ht.typeIs (by decide) ?_)
  refine wpAny_bind (wpAny_callSpecial?_slot (name := Str.ofString "__getitem__") ht.typeIs PyProof.Rows.slot_tuple_getitem
    (wpAny_call_entry PyProof.Rows.slot_tuple_getitem ht.typeIs entry_tuple_getitem ?_ (args_tuple_getitem _ _)))
  show wpAny _ _ (Builtin.Tuple.tupleItemsOf (.ref t) >>= _) _ _ s
  refine wpAny_bind (tupleItemsOf_ ht ?_)
  refine wpAny_bind (wpAny_typeOf hTs ?_)
  rw [if_pos (by decide)]
  refine wpAny_bind (sliceApplied_rev hs pl pu ps ?_)
  show wpAny _ _ (if (((items.size : Int) - 1 == 0) && (-1 : Int) == 1 && items.size == items.size) = true then _ else _) _ _ s
  rw [if_neg (by intro q; rw [Bool.and_eq_true, Bool.and_eq_true] at q; exact absurd q.1.2 (by decide)), rev_pick]
  first
    | exact wpAny_bind (m := Builtin.Tuple.tupleExact _) (wpAny_newObj_type (wpAny_pure ⟨_, rfl, wpAny_pure h⟩) htake)
    | exact wpAny_bind (m := Builtin.Tuple.tupleExact _) (wpAny_newObj_type (wpAny_bind (wpAny_pure (wpAny_pure ⟨_, rfl, wpAny_pure h⟩))) htake)
    | exact wpAny_bind (wpAny_bind (m := Builtin.Tuple.tupleExact _) (wpAny_newObj_type (wpAny_pure (wpAny_pure ⟨_, rfl, wpAny_pure h⟩)) htake))
    | exact wpAny_bind (wpAny_bind (m := Builtin.Tuple.tupleExact _) (wpAny_newObj_type (wpAny_pure ⟨_, rfl, wpAny_pure h⟩) htake))
end
section
variable {X : Cx} {cl : Nat → Addr} {W : Wish} {a b : Expr} {ma mb : ME} {pos : Pos}
def tRevA (K : PySem.W.Frag) (te : TE) : TE := fun σ H Q => te σ H fun x H1 => (∃ a xs, x = .ref a ∧ SqL K H1 a xs ∧ ∀ p, H1 p = none → Q (.ref p) (upd H1 p (.lst xs.reverse))) ∨ ∃ a xs, x = .ref a ∧ SqT K H1 a xs ∧ NewT H1 xs.reverse Q
theorem pe_revA {e : Expr} {te : TE} {k : Nat} {p1 p2 p3 pos : Pos} (he : PE X e te) : PE X (.Subscript e (.Slice none none (some (.UnaryOp .USub (.Constant (.int 1) k p1) p2)) p3) pos) (tRevA X.K te) := by
  refine ⟨fun pins s σ H Q I h => ?_⟩
  refine PyProof.Rows.Subscript_ (thn (he.run pins s σ H _ I h) fun v s1 ⟨x, H1, I1, r1, q1⟩ => ?_)
  have hst : PO X (some (.UnaryOp .USub (.Constant (.int 1) k p1) p2)) (tPart (tUn (rU fun i => .int (-i)) (tC (.int 1)))) := po_some (pe_un un_neg pe_int)
  refine wpAny_Slice (thn (po_none.run pins s1 σ H1 (fun o H2 => o = none ∧ H2 = H1) I1 ⟨rfl, rfl⟩) fun vl s2 ⟨l, H2, I2, pl, el, e2⟩ => ?_)
  subst el e2
  refine thn (po_none.run pins s2 σ H2 (fun o H3 => o = none ∧ H3 = H2) I2 ⟨rfl, rfl⟩) fun vu s3 ⟨u, H3, I3, pu, eu, e3⟩ => ?_
  subst eu e3
  refine thn (hst.run pins s3 σ H3 (fun o H4 => o = some (-1) ∧ H4 = H3) I3 ⟨1, rfl, -1, rfl, rfl, rfl⟩) fun vs s4 ⟨o, H4, I4, ps, eo, e4⟩ => ?_
  subst eo e4
  have I5 : Inv X pins σ H4 { s4 with heap := s4.heap.push { cls := .type "slice", data := .fields #[vl, vu, vs] } } := I4.kept (t' := s4.toks) fun b ob q => Heap.get?_push_of_some _ q
  rcases q1 with ⟨a, xs, ex, hx, q⟩ | ⟨a, xs, ex, hx, q⟩
  · subst ex
    cases r1
    obtain ⟨its, r, ht, hz⟩ := I5.list hx
    have hlen := r.length
    show wpAny (model X.prog X.w) X.A (PyProof.Rows.subscriptTail e (.Slice none none (some (.UnaryOp .USub (.Constant (.int 1) k p1) p2)) p3) (.ref a) (.ref s4.heap.objs.size)) (EP X pins σ Q) X.xe { s4 with heap := s4.heap.push { cls := .type "slice", data := .fields #[vl, vu, vs] } }
    refine PyProof.Rows.tail_any (ops := [.ref a, .ref s4.heap.objs.size]) ht.isList.typeIs (PySem.slot_list_getitem.lookup) ?_ (by with_unfolding_all rfl)
    refine wpAny_getItem_list_slice ht.isList (Heap.IsSliceOf.new _ vl vu vs) pl pu ps (by decide) ?_ (by rw [List.size_toArray]; omega)
    rw [PySem.W.krv_pick]
    refine ⟨.ref _, _, I5.laid (t' := s4.toks) (o := .lst xs.reverse) (fun b ob q => Heap.get?_push_of_some _ q) (Nat.le_refl _) ?_, rfl, q _ (I5.hok.fresh (Nat.le_refl _))⟩
    exact ⟨by rw [List.length_reverse]; exact hz, _, 0, r.reverse, Heap.get?_push_size _ rfl⟩
  · subst ex
    cases r1
    obtain ⟨its, r, ht, hz⟩ := I5.tuple hx
    have hlen := r.length
    show wpAny (model X.prog X.w) X.A (PyProof.Rows.subscriptTail e (.Slice none none (some (.UnaryOp .USub (.Constant (.int 1) k p1) p2)) p3) (.ref a) (.ref s4.heap.objs.size)) (EP X pins σ Q) X.xe { s4 with heap := s4.heap.push { cls := .type "slice", data := .fields #[vl, vu, vs] } }
    refine PyProof.Rows.tail_any (ops := [.ref a, .ref s4.heap.objs.size]) ht.typeIs (PyProof.Rows.slot_tuple_getitem.lookup) ?_ (by with_unfolding_all rfl)
    refine getItem_tuple_rev ht (Heap.IsSliceOf.new _ vl vu vs) pl pu ps ?_ (by rw [List.size_toArray]; omega)
    exact ⟨.ref _, _, Inv.newT (t' := s4.toks) I5 r.reverse (by rw [List.length_reverse]; exact hz), rfl, q _ _ (I5.hok.fresh (Nat.le_refl _)) rfl⟩
def dRevA : D → Res D
  | .lst ds => .ok (.lst ds.reverse)
  | .tup ds => .ok (.tup ds.reverse)
  | _ => .stuck
theorem ve_revA {k : Nat} {p1 p2 p3 : Pos} (ha : PE X a (tB X.K cl W ma)) : PE X (.Subscript a (.Slice none none (some (.UnaryOp .USub (.Constant (.int 1) k p1) p2)) p3) pos) (tE X.K cl W (m1 dRevA ma)) :=
  PEi (pe_revA ha) fun σ H Q ⟨B, F, ρ, R, q⟩ => thenB R q fun d F1 H1 v _ g r q1 => by
    cases d with
    | lst ds =>
      obtain ⟨a, vs, rfl, h, r⟩ := r
      exact .inl ⟨a, vs, rfl, h, fun p n => newL_out g.sub g.tups r.reverse q1 n⟩
    | tup ds =>
      obtain ⟨a, vs, rfl, h, r⟩ := r.tup
      exact .inr ⟨a, vs, rfl, sqH g.sub h, newT_out g.sub g.tups r.reverse q1⟩
    | _ => exact False.elim q1
end

/-! ## texts -/
def mM1 (f : Str → D → Res D) (a b : ME) : ME := fun ρ => (a ρ).bind fun x => match x with
  | .str z => (b ρ).bind fun y => f z y
  | _ => .stuck
def mM0 (f : Str → Res D) (a : ME) : ME := fun ρ => (a ρ).bind fun x => match x with
  | .str z => f z
  | _ => .stuck
/-- what a method of a text does -/
def OpM (K : PySem.W.Frag) (cl : Nat → Addr) (f : Str → D → Res D) (r : V → List V → Hp → VK → Prop) : Prop := ∀ (W : Wish) (F H : Hp) (Q : VK) (z : Str) (w : V) (y : D), Same F H → TupC F H → RepB K cl F H w y → out K cl W (f z y) F H Q → r (.str z) [w] H Q
def OpM0 (K : PySem.W.Frag) (cl : Nat → Addr) (f : Str → Res D) (r : V → List V → Hp → VK → Prop) : Prop := ∀ (W : Wish) (F H : Hp) (Q : VK) (z : Str), Same F H → TupC F H → out K cl W (f z) F H Q → r (.str z) [] H Q
def dUpper (z : Str) : Res D := if z.length ≤ 5592405 then .ok (.str (Txt.upper z)) else .stuck
def dFind (z : Str) : D → Res D
  | .str y => .ok (.int (Txt.find z y))
  | _ => .stuck
def strsOf : List D → Option (List Str)
  | [] => some []
  | .str x :: r => (strsOf r).map (x :: ·)
  | _ => none
def dJoin (z : Str) (d : D) : Res D := match seqOf d with
  | some ds => match strsOf ds with
    | some ys => if (ys.map (·.length)).sum + ys.length * z.length ≤ 16777216 then .ok (.str (Txt.join z ys)) else .stuck
    | none => .stuck
  | none => .stuck
def dSplit (z : Str) : D → Res D
  | .str y => if (y.length == 0) = false ∧ z.length + 2 ≤ sizeLine then .ok (.lst ((Txt.split z y).map D.str)) else .stuck
  | _ => .stuck
def dStr : D → Res D
  | .int i => if i.natAbs.log2 < 1920 then .ok (.str (toString i : String)) else .stuck
  | .str z => .ok (.str z)
  | _ => .stuck
section
variable {X : Cx} {cl : Nat → Addr} {W : Wish} {a b : Expr} {ma mb : ME} {pos apos : Pos}
theorem ve_m0 {f : Str → Res D} {id : String} {name : Str} {r : V → List V → Hp → VK → Prop} (slot : Slot "str" name id) (ty : typeOf (.builtin id) = pure (.type "method_descriptor")) (rule : MtR X id r) (h : OpM0 X.K cl f r) (ha : PE X a (tB X.K cl W ma))
    (hbase : attributeBase a name X.env (eval a X.env) = eval a X.env := by rfl) (hline : (apos.endLine == pos.line) = true := by rfl) : PE X (.Call (.Attribute a name apos) [] [] pos) (tE X.K cl W (mM0 f ma)) :=
  PEi (pe_m0 slot ty rule ha hbase hline) fun σ H Q ⟨B, F, ρ, R, q⟩ => thenB R q fun x F1 H1 v _ g1 r1 q1 => by
    cases x with
    | str z =>
      have := r1.str
      subst this
      exact ⟨⟨z, rfl⟩, h W F1 H1 Q z g1.sub g1.tups q1⟩
    | _ => exact False.elim q1
theorem ve_m1 {f : Str → D → Res D} {id : String} {name : Str} {r : V → List V → Hp → VK → Prop} (slot : Slot "str" name id) (ty : typeOf (.builtin id) = pure (.type "method_descriptor")) (rule : MtR X id r) (h : OpM X.K cl f r) (ha : PE X a (tB X.K cl W ma)) (hb : PE X b (tB X.K cl W mb))
    (hs : starEach [b] X.env = [(false, eval b X.env)] := by rfl) (hbase : attributeBase a name X.env (eval a X.env) = eval a X.env := by rfl) (hline : (apos.endLine == pos.line) = true := by rfl) : PE X (.Call (.Attribute a name apos) [b] [] pos) (tE X.K cl W (mM1 f ma mb)) :=
  PEi (pe_m1 slot ty rule ha hb hs hbase hline) fun σ H Q ⟨B, F, ρ, R, q⟩ => thenB R q fun x F1 H1 v _ g1 r1 q1 => by
    cases x with
    | str z =>
      have := r1.str
      subst this
      exact ⟨⟨z, rfl⟩, thenB (R.grow g1) q1 fun y F2 H2 w _ g2 r2 q2 => h W F2 H2 Q z w y g2.sub g2.tups r2 q2⟩
    | _ => exact False.elim q1
theorem f_upper : OpM0 X.K cl dUpper (fun x xs H Q => ∃ a, x = .str a ∧ xs = [] ∧ a.length ≤ 5592405 ∧ Q (.str (Txt.upper a)) H) := by
  intro W F H Q z s t q
  unfold dUpper at q
  split at q
  · rename_i h; exact ⟨z, rfl, rfl, h, out_v s t q (.str _)⟩
  · exact False.elim q
theorem f_find : OpM X.K cl dFind (fun x xs H Q => ∃ a b, x = .str a ∧ xs = [.str b] ∧ Q (.int (Txt.find a b)) H) := by
  intro W F H Q z w y s t r q
  unfold dFind at q
  split at q
  · exact ⟨z, _, rfl, by rw [r.str], out_v s t q (.int _)⟩
  · exact False.elim q
theorem strs_rep {K : PySem.W.Frag} {F : Hp} : ∀ {vs : List V} {ds : List D} {bs : List Str}, RepL K cl F vs ds → strsOf ds = some bs → vs = bs.map V.str
  | _, _, _, .nil, e => by cases e; rfl
  | _, _, _, .cons (d := d) h r, e => by
    cases d with
    | str b =>
      simp only [strsOf, Option.map_eq_some_iff] at e
      obtain ⟨cs, e1, rfl⟩ := e
      cases h
      rw [strs_rep r e1]
      rfl
    | _ => cases e
theorem rep_seqB {K : PySem.W.Frag} {F H : Hp} {v : V} {d : D} {ds : List D} (s : Same F H) (r : RepB K cl F H v d) (e : seqOf d = some ds) : ∃ a vs, v = .ref a ∧ (SqL K H a vs ∨ SqT K H a vs) ∧ RepL K cl F vs ds := by
  cases d with
  | lst xs => cases e; obtain ⟨a, vs, rfl, h, r⟩ := r; exact ⟨a, vs, rfl, .inl h, r⟩
  | tup xs => cases e; obtain ⟨a, vs, rfl, h, r⟩ := r.tup; exact ⟨a, vs, rfl, .inr (sqH s h), r⟩
  | _ => cases e
theorem f_join : OpM X.K cl dJoin (fun x xs H Q => ∃ a p, ∃ ys : List Str, x = .str a ∧ xs = [.ref p] ∧ (SqL X.K H p (ys.map V.str) ∨ SqT X.K H p (ys.map V.str)) ∧
      (ys.map (·.length)).sum + ys.length * a.length ≤ 16777216 ∧ Q (.str (Txt.join a ys)) H) := by
  intro W F H Q z w y s t r q
  unfold dJoin at q
  split at q
  · rename_i ds e
    split at q
    · rename_i ys e2
      split at q
      · rename_i hz
        obtain ⟨a, vs, rfl, h, rl⟩ := rep_seqB s r e
        have := strs_rep rl e2
        subst this
        exact ⟨z, a, ys, rfl, rfl, h, hz, out_v s t q (.str _)⟩
      · exact False.elim q
    · exact False.elim q
  · exact False.elim q
theorem reps_str {K : PySem.W.Frag} {F : Hp} : ∀ ys : List Str, RepL K cl F (ys.map V.str) (ys.map D.str)
  | [] => .nil
  | y :: ys => .cons (.str y) (reps_str ys)
theorem f_split : OpM X.K cl dSplit (fun x xs H Q => ∃ a b, x = .str a ∧ xs = [.str b] ∧ (b.length == 0) = false ∧ a.length + 2 ≤ sizeLine ∧ rNewStrs (Txt.split a b) H Q) := by
  intro W F H Q z w y s t r q
  unfold dSplit at q
  split at q
  · split at q
    · rename_i h
      exact ⟨z, _, rfl, by rw [r.str], h.1, h.2, fun p n => newL_out s t (reps_str _) q n⟩
    · exact False.elim q
  · exact False.elim q
theorem o_str : CallR X (.type "str") (fun xs H Q => (∃ i, xs = [.int i] ∧ i.natAbs.log2 < 1920 ∧ Q (.str (toString i)) H) ∨ ∃ a, xs = [.str a] ∧ Q (.str a) H) := call_str_int.or SkE.call_str_str
theorem f_str : Op1 X.K cl dStr (fun v H Q => (∃ i, [v] = [V.int i] ∧ i.natAbs.log2 < 1920 ∧ Q (.str (toString i)) H) ∨ ∃ a, [v] = [V.str a] ∧ Q (.str a) H) := by
  intro W F H Q v x s t rx q
  unfold dStr at q
  split at q
  · split at q
    · rename_i h; exact .inl ⟨_, by rw [rx.int], h, out_v s t q (.str _)⟩
    · exact False.elim q
  · exact .inr ⟨_, by rw [rx.str], out_v s t q (.str _)⟩
  · exact False.elim q
end
theorem bt_enumerate : bootBuiltins "enumerate" = some (.type "enumerate") := by decide +kernel
end CH
namespace CH
open PySem PySem.Spec L2

/-! ## sums and sheets -/
/-- a sum -/
inductive Sm where
  | num (i : Int) | nam (x : Str) | op (w : Str) (a b : Sm)
def Sm.d : Sm → D
  | .num i => .int i
  | .nam x => .str x
  | .op w a b => .tup [.str w, a.d, b.d]
/-- the words, the names of sums -/
def isW (w : Str) : Prop := w = "plus" ∨ w = "less" ∨ w = "times" ∨ w = "under" ∨ w = "alike"
def isN (x : Str) : Prop := x = "a" ∨ x = "b" ∨ x = "c" ∨ x = "d"
/-- so deep at most -/
inductive Sm.Ok : Nat → Sm → Prop
  | num {n : Nat} {i : Int} : -50 ≤ i → i ≤ 50 → Sm.Ok n (.num i)
  | nam {n : Nat} {x : Str} : isN x → Sm.Ok n (.nam x)
  | op {n : Nat} {w : Str} {a b : Sm} : isW w → Sm.Ok n a → Sm.Ok n b → Sm.Ok (n + 1) (.op w a b)
theorem Sm.Ok.mono {n : Nat} {s : Sm} (h : s.Ok n) : ∀ {m : Nat}, n ≤ m → s.Ok m := by
  induction h with
  | num a b => intro m _; exact .num a b
  | nam a => intro m _; exact .nam a
  | op w a b iha ihb =>
    intro m hm
    obtain ⟨k, rfl⟩ : ∃ k, m = k + 1 := ⟨m - 1, by omega⟩
    exact .op w (iha (by omega)) (ihb (by omega))
inductive Stp where
  | draw (x : Str) (lots : List (Int × Int)) | shw (x : Str) (h : Int) | ask (h : Int) (x : Str) (os : List Int) | keep (x : Str) (s : Sm) | iff (s : Sm) (a b : List Stp) | pay (s : Sm)
def lotsD (lots : List (Int × Int)) : List D := lots.map fun p => .tup [.int p.1, .int p.2]
mutual
def Stp.d : Stp → D
  | .draw x lots => .tup [.str "draw", .str x, .tup (lotsD lots)]
  | .shw x h => .tup [.str "show", .str x, .int h]
  | .ask h x os => .tup [.str "ask", .int h, .str x, .tup (os.map .int)]
  | .keep x s => .tup [.str "keep", .str x, s.d]
  | .iff s a b => .tup [.str "if", s.d, .tup (stepsD a), .tup (stepsD b)]
  | .pay s => .tup [.str "pay", s.d]
def stepsD : List Stp → List D
  | [] => []
  | s :: r => s.d :: stepsD r
end
theorem stepsD_map : ∀ (l : List Stp), stepsD l = l.map Stp.d
  | [] => rfl
  | s :: r => by rw [stepsD, stepsD_map r, List.map_cons]
theorem stepsD_append (a b : List Stp) : stepsD (a ++ b) = stepsD a ++ stepsD b := by simp [stepsD_map]
theorem stepsD_length (a : List Stp) : (stepsD a).length = a.length := by simp [stepsD_map]
/-- how many picks at most are made on a way through -/
def Stp.pk : Stp → Nat
  | .draw _ _ => 1
  | .ask _ _ _ => 1
  | .iff _ a b => max (pks a) (pks b)
  | _ => 0
where pks : List Stp → Nat
  | [] => 0
  | s :: r => s.pk + pks r
abbrev pks := Stp.pk.pks
theorem pks_nil : pks [] = 0 := rfl
theorem pks_cons (s : Stp) (r : List Stp) : pks (s :: r) = s.pk + pks r := rfl
theorem pks_append (b : List Stp) : ∀ (a : List Stp), pks (a ++ b) = pks a + pks b
  | [] => by rw [List.nil_append, pks_nil]; omega
  | s :: r => by rw [List.cons_append, pks_cons, pks_cons, pks_append b r]; omega
def optsOk (most : Nat) (os : List Int) : Prop := 1 ≤ os.length ∧ os.length ≤ most ∧ os.Pairwise (· < ·) ∧ ∀ i ∈ os, -50 ≤ i ∧ i ≤ 50
def lotsOk (lots : List (Int × Int)) : Prop := optsOk 5 (lots.map (·.1)) ∧ ∀ p ∈ lots, 1 ≤ p.2 ∧ p.2 ≤ 9
inductive Stp.Ok : Nat → Stp → Prop
  | draw {n : Nat} {x : Str} {lots : List (Int × Int)} : isN x → lotsOk lots → Stp.Ok n (.draw x lots)
  | shw {n : Nat} {x : Str} {h : Int} : isN x → h = 0 ∨ h = 1 → Stp.Ok n (.shw x h)
  | ask {n : Nat} {x : Str} {h : Int} {os : List Int} : isN x → h = 0 ∨ h = 1 → optsOk 4 os → Stp.Ok n (.ask h x os)
  | keep {n : Nat} {x : Str} {s : Sm} : isN x → s.Ok 3 → Stp.Ok n (.keep x s)
  | iff {n : Nat} {s : Sm} {a b : List Stp} : s.Ok 3 → a.length ≤ 12 → b.length ≤ 12 → (∀ t ∈ a, Stp.Ok n t) → (∀ t ∈ b, Stp.Ok n t) → Stp.Ok (n + 1) (.iff s a b)
  | pay {n : Nat} {s : Sm} : s.Ok 3 → Stp.Ok n (.pay s)
def SheetOk (n : Nat) (sh : List Stp) : Prop := sh.length ≤ 12 ∧ ∀ t ∈ sh, Stp.Ok n t
theorem Stp.Ok.mono {n : Nat} {s : Stp} (h : s.Ok n) : ∀ {m : Nat}, n ≤ m → s.Ok m := by
  induction h with
  | draw a b => intro m _; exact .draw a b
  | shw a b => intro m _; exact .shw a b
  | ask a b c => intro m _; exact .ask a b c
  | keep a b => intro m _; exact .keep a b
  | pay a => intro m _; exact .pay a
  | iff a b c _ _ ih1 ih2 =>
    intro m hm
    obtain ⟨k, rfl⟩ : ∃ k, m = k + 1 := ⟨m - 1, by omega⟩
    exact .iff a b c (fun t ht => ih1 t ht (by omega)) (fun t ht => ih2 t ht (by omega))
theorem SheetOk.mono {n m : Nat} {s : List Stp} (h : SheetOk n s) (hm : n ≤ m) : SheetOk m s := ⟨h.1, fun t ht => (h.2 t ht).mono hm⟩
/-! ## loops -/
section
variable {ρ : Env} {s : MS} {bd : BD} {x : D} {xs ys : List D} {i : Nat}
theorem rangeD_succ (lo : Int) (n : Nat) : rangeD lo (n + 1) = .int lo :: rangeD (lo + 1) n := by
  unfold rangeD
  rw [List.range_succ_eq_map, List.map_cons, List.map_map]
  congr 1
  · simp
  · apply List.map_congr_left
    intro a _
    simp only [Function.comp]
    congr 1
    omega
theorem for_seq (b : MS) (h : s ρ = .ok (.nx ρ)) : (Res.ok (.nx ρ)).seq b = b ρ := rfl
end
/-! ## more reckoning -/
def Res.chm (g : D → D → Res D) (y : D) (r : Res D) (c : ME) (ρ : Env) : Res D := r.bind fun r => match r with
  | .bl true => (c ρ).bind fun z => g y z
  | .bl false => .ok (.bl false)
  | _ => .stuck
def Res.chn (f g : D → D → Res D) (x y : Res D) (c : ME) (ρ : Env) : Res D := x.bind fun x => y.bind fun y => Res.chm g y (f x y) c ρ
def Res.opt (r : Res D) : Res (Option Int) := r.bind fun d => match d with
  | .int i => .ok (some i)
  | _ => .stuck
def Res.slc (x : Res D) (l h : Res (Option Int)) : Res D := x.bind fun x => l.bind fun l => h.bind fun h => dSl x l h
def Res.mm0 (f : Str → Res D) (x : Res D) : Res D := x.bind fun x => match x with
  | .str z => f z
  | _ => .stuck
def Res.mm1 (f : Str → D → Res D) (x : Res D) (b : ME) (ρ : Env) : Res D := x.bind fun x => match x with
  | .str z => (b ρ).bind fun y => f z y
  | _ => .stuck
def Res.enm (x : Res D) : Res (List D) := x.bind fun x => match seqOf x with
  | some ds => .ok (enumD ds)
  | none => .stuck
def Res.zp (x y : Res D) : Res (List D) := x.bind fun x => y.bind fun y => match seqOf x, seqOf y with
  | some ds, some es => .ok (zipD ds es)
  | _, _ => .stuck
def Res.rg1 (x : Res D) : Res (List D) := x.bind fun d => match d with
  | .int j => if rgB j = true then .ok (rangeD 0 j.toNat) else .stuck
  | _ => .stuck
section
variable {ρ : Env} {a b c : ME} {x y z : D} {s : MS} {mi : Env → Res (List D)} {bd : BD} {mt : Env → Res Bool} {me : ME} {xs ys : List D} {f g : D → D → Res D} {lo hi : Option ME} {l h : Option Int} {i : Int} {w : Str} {f0 : Str → Res D} {f1 : Str → D → Res D} {is : List Nat}
theorem e_chain : mChain f g a b c ρ = Res.chn f g (a ρ) (b ρ) c ρ := rfl
theorem r_chn : Res.chn f g (.ok x) (.ok y) c ρ = Res.chm g y (f x y) c ρ := rfl
theorem r_chmT : Res.chm g y (.ok (.bl true)) c ρ = Res.ap2 g (.ok y) (c ρ) := rfl
theorem r_chmF : Res.chm g y (.ok (.bl false)) c ρ = .ok (.bl false) := rfl
theorem e_sl : mSl a lo hi ρ = Res.slc (a ρ) (evO lo ρ) (evO hi ρ) := rfl
theorem e_oN : evO none ρ = .ok none := rfl
theorem e_oS : evO (some a) ρ = Res.opt (a ρ) := rfl
theorem r_opt : Res.opt (.ok (.int i)) = .ok (some i) := rfl
theorem r_slc : Res.slc (.ok x) (.ok l) (.ok h) = dSl x l h := rfl
theorem e_mM0 : mM0 f0 a ρ = Res.mm0 f0 (a ρ) := rfl
theorem r_mm0 : Res.mm0 f0 (.ok (.str w)) = f0 w := rfl
theorem e_mM1 : mM1 f1 a b ρ = Res.mm1 f1 (a ρ) b ρ := rfl
theorem r_mm1 : Res.mm1 f1 (.ok (.str w)) b ρ = (b ρ).bind (f1 w) := rfl
theorem e_enum : mEnum a ρ = Res.enm (a ρ) := rfl
theorem r_enmL : Res.enm (.ok (.lst xs)) = .ok (enumD xs) := rfl
theorem r_enmT : Res.enm (.ok (.tup xs)) = .ok (enumD xs) := rfl
theorem e_zip : mZip a b ρ = Res.zp (a ρ) (b ρ) := rfl
theorem r_zpLL : Res.zp (.ok (.lst xs)) (.ok (.lst ys)) = .ok (zipD xs ys) := rfl
theorem r_zpLT : Res.zp (.ok (.lst xs)) (.ok (.tup ys)) = .ok (zipD xs ys) := rfl
theorem r_zpTL : Res.zp (.ok (.tup xs)) (.ok (.lst ys)) = .ok (zipD xs ys) := rfl
theorem r_zpTT : Res.zp (.ok (.tup xs)) (.ok (.tup ys)) = .ok (zipD xs ys) := rfl
theorem e_rg1 : mRange1 a ρ = Res.rg1 (a ρ) := Eq.trans (Eq.refl _) (Eq.refl _)
theorem r_rg1 (h1 : -(2 ^ 62) < i) (h2 : i < 2 ^ 62) : Res.rg1 (.ok (.int i)) = .ok (rangeD 0 i.toNat) := by simp only [Res.rg1, Res.bind_ok, if_pos (rgB_ok h1 h2)]
theorem r_rgN {n : Nat} (h : n ≤ 1000000) : Res.rg1 (.ok (.int n)) = .ok (rangeD 0 n) := by
  have := r_rg1 (i := (n : Int)) (by omega) (by omega)
  rw [this, Int.toNat_natCast]
theorem r_bTup (h : xs.length = is.length) : bTup is (.tup xs) ρ = .ok (setAll is xs ρ) := by simp only [bTup, if_pos h]
theorem lc_gen {p : D → Bool} {f : D → D} : ∀ (xs : List D), (∀ x ∈ xs, ∃ ρ1, bd x ρ = .ok ρ1 ∧ mt ρ1 = .ok (p x) ∧ (p x = true → me ρ1 = .ok (f x))) → lcM bd mt me xs ρ = .ok ((xs.filter p).map f)
  | [], _ => rfl
  | x :: xs, h => by
    obtain ⟨ρ1, e1, e2, e3⟩ := h x List.mem_cons_self
    have ih := lc_gen xs fun y hy => h y (List.mem_cons_of_mem _ hy)
    simp only [lcM, e1, Res.bind_ok, e2, ih]
    cases hp : p x with
    | true => simp only [if_true, e3 hp, Res.bind_ok, List.filter_cons, hp, List.map_cons]
    | false => simp only [Bool.false_eq_true, if_false, List.filter_cons, hp]
theorem mLc_gen {p : D → Bool} {f : D → D} (h1 : mi ρ = .ok xs) (hl : xs.length ≤ sizeLine) (h : ∀ x ∈ xs, ∃ ρ1, bd x (wipeE ρ is) = .ok ρ1 ∧ mt ρ1 = .ok (p x) ∧ (p x = true → me ρ1 = .ok (f x))) : mLc mi bd mt me is ρ = .ok (.lst ((xs.filter p).map f)) := by
  simp only [mLc, mLcL, h1, Res.bind_ok, if_pos hl, lc_gen xs h, Res.calm_ok]
theorem lc_all {f : D → D} (xs : List D) (h : ∀ x ∈ xs, ∃ ρ1, bd x ρ = .ok ρ1 ∧ me ρ1 = .ok (f x)) : lcM bd mYes me xs ρ = .ok (xs.map f) := by
  have := lc_gen (mt := mYes) (p := fun _ => true) (f := f) (bd := bd) (me := me) (ρ := ρ) xs fun x hx => let ⟨ρ1, e1, e2⟩ := h x hx; ⟨ρ1, e1, rfl, fun _ => e2⟩
  rw [this, List.filter_eq_self.mpr (fun _ _ => rfl)]
theorem mLc_all {f : D → D} (h1 : mi ρ = .ok xs) (hl : xs.length ≤ sizeLine) (h : ∀ x ∈ xs, ∃ ρ1, bd x (wipeE ρ is) = .ok ρ1 ∧ me ρ1 = .ok (f x)) : mLc mi bd mYes me is ρ = .ok (.lst (xs.map f)) := by
  simp only [mLc, mLcL, h1, Res.bind_ok, if_pos hl, lc_all xs h, Res.calm_ok]
end
theorem dIx_tup2 {a b : D} {c : Prop} [Decidable c] : dIx (.tup [a, b]) (.int (if c then 1 else 0)) = .ok (if c then b else a) := by
  split <;> rfl
end CH
namespace CH
open PySem PySem.Spec L2

/-! ## comprehensions over lists of anything -/
section
variable {ρ : Env} {mi : Env → Res (List D)} {bd : BD} {mt : Env → Res Bool} {me : ME} {is : List Nat} {α : Type} {g f : α → D} {p : α → Bool}
theorem lc_f : ∀ (as : List α), (∀ a ∈ as, ∃ ρ1, bd (g a) ρ = .ok ρ1 ∧ mt ρ1 = .ok (p a) ∧ (p a = true → me ρ1 = .ok (f a))) → lcM bd mt me (as.map g) ρ = .ok ((as.filter p).map f)
  | [], _ => rfl
  | x :: xs, h => by
    obtain ⟨ρ1, e1, e2, e3⟩ := h x List.mem_cons_self
    have ih := lc_f xs fun y hy => h y (List.mem_cons_of_mem _ hy)
    simp only [List.map_cons, lcM, e1, Res.bind_ok, e2, ih]
    cases hp : p x with
    | true => simp only [if_true, e3 hp, Res.bind_ok, List.filter_cons, hp, List.map_cons]
    | false => simp only [Bool.false_eq_true, if_false, List.filter_cons, hp]
theorem mLc_f {as : List α} (h1 : mi ρ = .ok (as.map g)) (hl : as.length ≤ 16777216) (h : ∀ a ∈ as, ∃ ρ1, bd (g a) (wipeE ρ is) = .ok ρ1 ∧ mt ρ1 = .ok (p a) ∧ (p a = true → me ρ1 = .ok (f a))) : mLc mi bd mt me is ρ = .ok (.lst ((as.filter p).map f)) := by
  have hl' : (as.map g).length ≤ sizeLine := by rw [List.length_map, sizeLine_eq]; exact hl
  simp only [mLc, mLcL, h1, Res.bind_ok, if_pos hl', lc_f as h, Res.calm_ok]
theorem mLc_m {as : List α} (h1 : mi ρ = .ok (as.map g)) (hl : as.length ≤ 16777216) (h : ∀ a ∈ as, ∃ ρ1, bd (g a) (wipeE ρ is) = .ok ρ1 ∧ me ρ1 = .ok (f a)) : mLc mi bd mYes me is ρ = .ok (.lst (as.map f)) := by
  have := mLc_f (mt := mYes) (p := fun _ => true) (me := me) (f := f) (bd := bd) (is := is) h1 hl fun a ha => let ⟨ρ1, e1, e2⟩ := h a ha; ⟨ρ1, e1, rfl, fun _ => e2⟩
  rw [this, List.filter_eq_self.mpr (fun _ _ => rfl)]
end
theorem atI_nat {α : Type} {xs : List α} {j : Nat} {d : α} (h : xs[j]? = some d) : atI xs (j : Int) = some d := by
  have hj := (List.getElem?_eq_some_iff.mp h).1
  unfold atI ixN
  rw [if_pos (by omega), if_pos (by omega)]
  simpa using h
theorem dIx_tupN {xs : List D} {j : Nat} {d : D} (h : xs[j]? = some d) : dIx (.tup xs) (.int (j : Nat)) = .ok d := by simp only [dIx, atI_nat h]
theorem dIx_lstN {xs : List D} {j : Nat} {d : D} (h : xs[j]? = some d) : dIx (.lst xs) (.int (j : Nat)) = .ok d := by simp only [dIx, atI_nat h]
theorem getD_some {xs : List Int} {j : Nat} (h : j < xs.length) : (xs.map D.int)[j]? = some (.int (xs.getD j 0)) := by
  simp [List.getD_eq_getElem?_getD, List.getElem?_eq_getElem h]
theorem dItems_str (x : Str) : dItems (.str x) = .ok (x.cps.toList.map fun c => .str ⟨#[c]⟩) := rfl
theorem str_len (x : Str) : x.cps.toList.length = x.length := by simp [Str.length]
theorem tup_ids (xs : List D) : xs = xs.map id := by simp
/-! ## data that == and in may look at -/
def flatB : D → Bool
  | .non => true
  | .bl _ => true
  | .int _ => true
  | .str x => okS x && decide (x.length ≤ 1000000)
  | _ => false
def gd : Nat → D → Bool
  | 0, d => flatB d
  | n + 1, .tup xs => Nat.ble xs.length 100000 && xs.all (gd n)
  | n + 1, .lst xs => Nat.ble xs.length 100000 && xs.all (gd n)
  | _ + 1, d => flatB d
theorem gd_flat {n : Nat} {d : D} (h : flatB d = true) : gd n d = true := by
  cases n with
  | zero => exact h
  | succ n => cases d <;> first | exact h | cases h
theorem gd_mono {n : Nat} : ∀ {d : D}, gd n d = true → gd (n + 1) d = true := by
  induction n with
  | zero => intro d h; exact gd_flat h
  | succ n ih =>
    intro d h
    cases d with
    | tup xs =>
      simp only [gd, Bool.and_eq_true, List.all_eq_true] at h ⊢
      exact ⟨h.1, fun x hx => ih (h.2 x hx)⟩
    | lst xs =>
      simp only [gd, Bool.and_eq_true, List.all_eq_true] at h ⊢
      exact ⟨h.1, fun x hx => ih (h.2 x hx)⟩
    | _ => exact h
theorem gd_le {n m : Nat} {d : D} (h : gd n d = true) (hm : n ≤ m) : gd m d = true := by
  induction hm with
  | refl => exact h
  | step _ ih => exact gd_mono ih
theorem gd_tup {n : Nat} {xs : List D} (h : gd n (.tup xs) = true) {x : D} (hx : x ∈ xs) : gd n x = true := by
  cases n with
  | zero => cases h
  | succ n =>
    simp only [gd, Bool.and_eq_true, List.all_eq_true] at h
    exact gd_mono (h.2 x hx)
theorem gd_len {n : Nat} {xs : List D} (h : gd n (.tup xs) = true) : xs.length ≤ 100000 := by
  cases n with
  | zero => cases h
  | succ n =>
    simp only [gd, Bool.and_eq_true] at h
    exact Nat.le_of_ble_eq_true h.1
theorem gd_mk {n : Nat} {xs : List D} (hl : xs.length ≤ 100000) (h : ∀ x ∈ xs, gd n x = true) : gd (n + 1) (.tup xs) = true := by
  simp only [gd, Bool.and_eq_true, List.all_eq_true]
  exact ⟨Nat.ble_eq_true_of_le hl, h⟩
theorem gd_mkL {n : Nat} {xs : List D} (hl : xs.length ≤ 100000) (h : ∀ x ∈ xs, gd n x = true) : gd (n + 1) (.lst xs) = true := by
  simp only [gd, Bool.and_eq_true, List.all_eq_true]
  exact ⟨Nat.ble_eq_true_of_le hl, h⟩
theorem pyL_of {n : Nat} (ih : ∀ d, gd n d = true → ∃ p, d.py = some p ∧ p.canLay0 = true ∧ p.depth ≤ n) : ∀ (xs : List D), (∀ x ∈ xs, gd n x = true) → ∃ ps, pyL xs = some ps ∧ PyData.canLayAll0 ps = true ∧ PyData.depthAll ps ≤ n ∧ ps.length = xs.length
  | [], _ => ⟨[], rfl, by simp [PyData.canLayAll0], by simp [PyData.depthAll], rfl⟩
  | x :: xs, h => by
    obtain ⟨p, e1, c1, d1⟩ := ih x (h x List.mem_cons_self)
    obtain ⟨ps, e2, c2, d2, l2⟩ := pyL_of ih xs fun y hy => h y (List.mem_cons_of_mem _ hy)
    exact ⟨p :: ps, by simp [pyL, e1, e2], by simp [PyData.canLayAll0, c1, c2], by simp only [PyData.depthAll]; omega, by simp [l2]⟩
theorem gd_py {n : Nat} : ∀ {d : D}, gd n d = true → ∃ p, d.py = some p ∧ p.canLay0 = true ∧ p.depth ≤ n := by
  have fl : ∀ (n : Nat) (d : D), flatB d = true → ∃ p, d.py = some p ∧ p.canLay0 = true ∧ p.depth ≤ n := by
    intro n d h
    cases d with
    | non => exact ⟨_, rfl, by simp [PyData.canLay0], by simp [PyData.depth]⟩
    | bl b => exact ⟨_, rfl, by simp [PyData.canLay0], by simp [PyData.depth]⟩
    | int b => exact ⟨_, rfl, by simp [PyData.canLay0], by simp [PyData.depth]⟩
    | str x =>
      simp only [flatB, Bool.and_eq_true] at h
      exact ⟨_, rfl, by simpa [PyData.canLay0, okS] using h.1, by simp [PyData.depth]⟩
    | _ => cases h
  induction n with
  | zero => intro d h; exact fl 0 d h
  | succ n ih =>
    intro d h
    cases d with
    | tup xs =>
      simp only [gd, Bool.and_eq_true, List.all_eq_true] at h
      obtain ⟨ps, e, c, dd, _⟩ := pyL_of (fun d hd => ih hd) xs h.2
      exact ⟨.tuple ps, by simp [D.py, e], by simpa [PyData.canLay0] using c, by simp only [PyData.depth]; omega⟩
    | lst xs =>
      simp only [gd, Bool.and_eq_true, List.all_eq_true] at h
      obtain ⟨ps, e, c, dd, _⟩ := pyL_of (fun d hd => ih hd) xs h.2
      exact ⟨.list ps, by simp [D.py, e], by simpa [PyData.canLay0] using c, by simp only [PyData.depth]; omega⟩
    | _ => exact fl _ _ h
theorem gd_shaped {n : Nat} {d : D} (h : gd n d = true) (hn : n ≤ 64) : ∃ p, d.py = some p ∧ SeqAt.shaped p = true := by
  obtain ⟨p, e, c, dd⟩ := gd_py h
  exact ⟨p, e, shaped_flat c (by omega)⟩
def strIs (w : Str) : D → Bool
  | .str x => decide (x = w)
  | _ => false
theorem dEqB_w {n : Nat} {d : D} {w : Str} (h : gd n d = true) (hn : n ≤ 64) (hw : okS w = true) : dEqB d (.str w) = .ok (strIs w d) := by
  obtain ⟨p, e, s⟩ := gd_shaped h hn
  simp only [dEqB, e, D.py, s, shaped_str hw, Bool.and_self, if_true]
  cases d with
  | non => simp [D.py] at e; subst e; simp [PyData.eqv, strIs]
  | bl b => simp [D.py] at e; subst e; simp [PyData.eqv, strIs]
  | int b => simp [D.py] at e; subst e; simp [PyData.eqv, strIs]
  | str b =>
    simp [D.py] at e; subst e
    by_cases z : b = w <;> simp [PyData.eqv, strIs, z]
  | tup xs =>
    simp only [D.py, Option.map_eq_some_iff] at e
    obtain ⟨ps, _, rfl⟩ := e
    simp [PyData.eqv, strIs]
  | lst xs =>
    simp only [D.py, Option.map_eq_some_iff] at e
    obtain ⟨ps, _, rfl⟩ := e
    simp [PyData.eqv, strIs]
  | dct _ => simp [D.py] at e
  | ins _ _ => simp [D.py] at e
theorem dEq_w {n : Nat} {d : D} {w : Str} (h : gd n d = true) (hn : n ≤ 64) (hw : okS w = true) : dEq d (.str w) = .ok (.bl (strIs w d)) := by simp [dEq, dEqB_w h hn hw]
theorem dNe_w {n : Nat} {d : D} {w : Str} (h : gd n d = true) (hn : n ≤ 64) (hw : okS w = true) : dNe d (.str w) = .ok (.bl (!strIs w d)) := by simp [dNe, dEqB_w h hn hw]
def strIn (ws : List Str) : D → Bool
  | .str x => ws.any fun w => decide (w = x)
  | _ => false
theorem pyL_strs : ∀ (ws : List Str), pyL (ws.map .str) = some (ws.map .str)
  | [] => rfl
  | w :: ws => by simp [pyL, D.py, pyL_strs ws]
theorem depthAll_strs : ∀ (ws : List Str), PyData.depthAll (ws.map .str) = 0
  | [] => rfl
  | w :: ws => by simp [PyData.depthAll, PyData.depth, depthAll_strs ws]
theorem canLay_strs : ∀ (ws : List Str), (ws.all okS) = true → PyData.canLayAll0 (ws.map .str) = true
  | [], _ => by simp [PyData.canLayAll0]
  | w :: ws, h => by
    simp only [List.all_cons, Bool.and_eq_true] at h
    simp only [List.map_cons, PyData.canLayAll0, canLay_strs ws h.2, Bool.and_true]
    simpa [PyData.canLay0, okS] using h.1
theorem dInB_w {n : Nat} {d : D} {ws : List Str} (h : gd n d = true) (hn : n ≤ 64) (hw : (ws.all okS) = true) : dInB d (.tup (ws.map .str)) = .ok (strIn ws d) := by
  obtain ⟨p, e, s⟩ := gd_shaped h hn
  have s2 : SeqAt.shaped (.tuple (ws.map .str)) = true := shaped_flat (by simpa [PyData.canLay0] using canLay_strs ws hw) (by simp [PyData.depth, depthAll_strs])
  simp only [dInB, e, pyL_strs, s, s2, Bool.and_self, if_true, List.any_map]
  congr 1
  have other : (∀ w : Str, PyData.eqv (.str w) p = false) → ws.any ((fun z => PyData.eqv z p) ∘ PyData.str) = false := by
    intro z
    rw [List.any_eq_false]
    intro w _
    simp [z w]
  cases d with
  | non => simp [D.py] at e; subst e; exact other fun w => by simp [PyData.eqv]
  | bl b => simp [D.py] at e; subst e; exact other fun w => by simp [PyData.eqv]
  | int b => simp [D.py] at e; subst e; exact other fun w => by simp [PyData.eqv]
  | str b =>
    simp [D.py] at e; subst e
    simp only [strIn]
    congr 1
  | tup xs =>
    simp only [D.py, Option.map_eq_some_iff] at e
    obtain ⟨ps, _, rfl⟩ := e
    exact other fun w => by simp [PyData.eqv]
  | lst xs =>
    simp only [D.py, Option.map_eq_some_iff] at e
    obtain ⟨ps, _, rfl⟩ := e
    exact other fun w => by simp [PyData.eqv]
  | dct _ => simp [D.py] at e
  | ins _ _ => simp [D.py] at e
theorem dIn_w {n : Nat} {d : D} {ws : List Str} (h : gd n d = true) (hn : n ≤ 64) (hw : (ws.all okS) = true) : dIn d (.tup (ws.map .str)) = .ok (.bl (strIn ws d)) := by simp [dIn, dInB_w h hn hw]
theorem dNotIn_w {n : Nat} {d : D} {ws : List Str} (h : gd n d = true) (hn : n ≤ 64) (hw : (ws.all okS) = true) : dNotIn d (.tup (ws.map .str)) = .ok (.bl (!strIn ws d)) := by simp [dNotIn, dInB_w h hn hw]
/-- a list of good things, and the empty one -/
theorem dEqB_nil {n : Nat} {xs : List D} (h : ∀ x ∈ xs, gd n x = true) (hn : n < 64) : dEqB (.lst xs) (.lst []) = .ok xs.isEmpty := by
  obtain ⟨ps, e, c, dd, l⟩ := pyL_of (fun d hd => gd_py hd) xs h
  have s1 : SeqAt.shaped (.list ps) = true := shaped_flat (by simpa [PyData.canLay0] using c) (by simp only [PyData.depth]; omega)
  have s2 : SeqAt.shaped (.list []) = true := by decide +kernel
  simp only [dEqB, D.py, e, pyL, Option.map_some, s1, s2, Bool.and_self, if_true]
  congr 1
  cases xs with
  | nil => simp only [List.length_nil] at l; rw [List.eq_nil_of_length_eq_zero l]; simp [PyData.eqv, PyData.eqvAll]
  | cons a r =>
    cases ps with
    | nil => simp at l
    | cons b q => simp [PyData.eqv, PyData.eqvAll]
theorem dEq_nil {n : Nat} {xs : List D} (h : ∀ x ∈ xs, gd n x = true) (hn : n < 64) : dEq (.lst xs) (.lst []) = .ok (.bl xs.isEmpty) := by simp [dEq, dEqB_nil h hn]
theorem dNe_nil {n : Nat} {xs : List D} (h : ∀ x ∈ xs, gd n x = true) (hn : n < 64) : dNe (.lst xs) (.lst []) = .ok (.bl !xs.isEmpty) := by simp [dNe, dEqB_nil h hn]
theorem dEq_bl (a b : Bool) : dEq (.bl a) (.bl b) = .ok (.bl (decide (a = b))) := by
  have h : ∀ b : Bool, SeqAt.shaped (.bool b) = true := fun b => shaped_flat (by simp [PyData.canLay0]) (by simp [PyData.depth])
  simp only [dEq, dEqB, D.py, h, Bool.and_self, if_true, PyData.eqv, Res.bind_ok]
  cases a <;> cases b <;> rfl

/-- a sign that a text has -/
theorem at_one (z : Str) (c i : Nat) : StrLaws.At z ⟨#[c]⟩ z.length i ↔ z.cps.toList[i]? = some c := by
  have hl : z.length = z.cps.toList.length := by rw [Array.length_toList]; rfl
  unfold StrLaws.At Builtin.Str.subAt
  have e1 : (⟨#[c]⟩ : Str).length = 1 := rfl
  rw [e1, hl]
  have e2 : (z.cps.extract i (i + 1) == #[c]) = true ↔ z.cps.toList[i]? = some c := by
    rw [beq_iff_eq]
    constructor
    · intro h
      have h2 : (z.cps.extract i (i + 1)).toList = [c] := by rw [h]
      rw [Array.toList_extract, List.extract_eq_take_drop] at h2
      have h3 : ((z.cps.toList.drop i).take (i + 1 - i))[0]? = some c := by rw [h2]; rfl
      rw [List.getElem?_take] at h3
      split at h3
      · simpa using h3
      · cases h3
    · intro h
      apply Array.toList_inj.mp
      rw [Array.toList_extract, List.extract_eq_take_drop]
      obtain ⟨hi, hc⟩ := List.getElem?_eq_some_iff.mp h
      rw [List.drop_eq_getElem_cons hi, hc]
      have : i + 1 - i = 1 := by omega
      rw [this]
      rfl
  rw [e2]
  constructor
  · exact fun h => h.2
  · intro h
    have := (List.getElem?_eq_some_iff.mp h).1
    exact ⟨by omega, h⟩
theorem find_one (z : Str) (c : Nat) : decide (Txt.find z ⟨#[c]⟩ < 0) = !decide (c ∈ z.cps.toList) := by
  rcases PyProof.Rows.find_whole z ⟨#[c]⟩ with ⟨e, h⟩ | ⟨i, e, h, _⟩
  · rw [e]
    have : ¬ c ∈ z.cps.toList := fun hc => by
      obtain ⟨i, hi⟩ := List.mem_iff_getElem?.mp hc
      exact h i ((at_one z c i).mpr hi)
    simp [this]
  · rw [e]
    have : c ∈ z.cps.toList := List.mem_of_getElem? ((at_one z c i).mp h)
    have h2 : ¬ (i : Int) < 0 := by omega
    simp only [h2, this, decide_true, decide_false, Bool.not_true]
theorem dAll_map {α : Type} (p : α → Bool) (xs : List α) : dAll (.lst (xs.map fun c => .bl (p c))) = .ok (.bl (xs.all p)) := by
  have : ∀ xs : List α, blsOf (xs.map fun c => .bl (p c)) = some (xs.map p) := by
    intro xs
    induction xs with
    | nil => rfl
    | cons a r ih => simp [blsOf, ih]
  simp only [dAll, this, List.all_map, Function.comp_def, id]
/-! ## whether it is a sheet -/
def wholeB (lo hi : Int) : D → Bool
  | .int i => decide (lo ≤ i) && decide (i ≤ hi)
  | _ => false
abbrev lettersS : Str := "abcdefghijklmnopqrstuvwxyz"
def letterB (c : Nat) : Bool := decide (c ∈ lettersS.cps.toList)
def nameS (x : Str) : Bool := decide (1 ≤ x.length) && decide (x.length ≤ 3) && !strIn ["ask", "if", "pay"] (.str x) && x.cps.toList.all letterB
def nameB : D → Bool
  | .str x => nameS x
  | _ => false
abbrev wordsL : List Str := ["plus", "less", "times", "under", "alike"]
def sumB : Nat → D → Bool
  | 0, d => wholeB (-50) 50 d || nameB d
  | n + 1, d => wholeB (-50) 50 d || nameB d || match d with
    | .tup [w, a, b] => strIn wordsL w && sumB n a && sumB n b
    | _ => false
def intOf : D → Int
  | .int i => i
  | _ => 0
def risI (is : List Int) : Bool := (List.range (is.length - 1)).all fun j => decide (is.getD j 0 < is.getD (j + 1) 0)
def risD (xs : List D) : Bool := risI (xs.map intOf)
theorem whole_int {lo hi : Int} {d : D} (h : wholeB lo hi d = true) : d = .int (intOf d) := by
  cases d <;> first | rfl | cases h
theorem wholes_int {lo hi : Int} : ∀ {xs : List D}, xs.all (wholeB lo hi) = true → xs = (xs.map intOf).map .int
  | [], _ => rfl
  | x :: xs, h => by
    simp only [List.all_cons, Bool.and_eq_true] at h
    rw [List.map_cons, List.map_cons, ← whole_int h.1, ← wholes_int h.2]
theorem cut_last (xs : List D) : cutD xs none (some (-1)) = xs.dropLast := by
  unfold cutD HT.sIx
  rw [List.dropLast_eq_take]
  simp
  omega
theorem cut_tail (xs : List D) : cutD xs (some 1) none = xs.drop 1 := by
  unfold cutD HT.sIx
  cases xs with
  | nil => rfl
  | cons a r => simp
def optsB (most : Int) : D → Bool
  | .tup xs => decide (1 ≤ xs.length) && decide ((xs.length : Int) ≤ most) && xs.all (wholeB (-50) 50) && risD xs
  | _ => false
def lotB : D → Bool
  | .tup [a, b] => wholeB (-50) 50 a && wholeB 1 9 b
  | _ => false
def fstD : D → D
  | .tup (a :: _) => a
  | d => d
def lotsB : D → Bool
  | .tup xs => decide (1 ≤ xs.length) && decide (xs.length ≤ 5) && xs.all lotB && risD (xs.map fstD)
  | _ => false
def sheetB (f : D → Bool) : D → Bool
  | .tup xs => decide (xs.length ≤ 12) && xs.all f
  | _ => false
def two (f g : D → Bool) : List D → Bool
  | [a, b] => f a && g b
  | _ => false
def one (f : D → Bool) : List D → Bool
  | [a] => f a
  | _ => false
def three (f g h : D → Bool) : List D → Bool
  | [a, b, c] => f a && g b && h c
  | _ => false
def stepB : Nat → D → Bool
  | n, .tup (.str w :: r) => if w = "draw" then two nameB lotsB r else if w = "show" then two nameB (wholeB 0 1) r else if w = "ask" then three (wholeB 0 1) nameB (optsB 4) r
    else if w = "keep" then two nameB (sumB 6) r else if w = "pay" then one (sumB 6) r else if w = "if" then match n with
      | 0 => false
      | m + 1 => three (sumB 6) (sheetB (stepB m)) (sheetB (stepB m)) r
    else false
  | _, _ => false
end CH
namespace CH
open PySem PySem.Spec L2
/-! ## what sheets are made of -/
abbrev allWords : List Str := ["a", "b", "c", "d", "draw", "show", "ask", "keep", "if", "pay", "plus", "less", "times", "under", "alike"]
def cflat : D → Bool
  | .int i => decide (-60 ≤ i) && decide (i ≤ 60)
  | .str x => allWords.any fun w => decide (w = x)
  | _ => false
def clean : Nat → D → Bool
  | n + 1, .tup xs => Nat.ble xs.length 100 && xs.all (clean n)
  | _, d => cflat d
theorem clean_flat {n : Nat} {d : D} (h : cflat d = true) : clean n d = true := by
  cases n with
  | zero => exact h
  | succ n => cases d <;> first | exact h | cases h
theorem clean_mono {n : Nat} : ∀ {d : D}, clean n d = true → clean (n + 1) d = true := by
  induction n with
  | zero => intro d h; exact clean_flat h
  | succ n ih =>
    intro d h
    cases d with
    | tup xs =>
      simp only [clean, Bool.and_eq_true, List.all_eq_true] at h ⊢
      exact ⟨h.1, fun x hx => ih (h.2 x hx)⟩
    | _ => exact h
theorem clean_le {n m : Nat} {d : D} (h : clean n d = true) (hm : n ≤ m) : clean m d = true := by
  induction hm with
  | refl => exact h
  | step _ ih => exact clean_mono ih
theorem clean_mk {n : Nat} {xs : List D} (hl : xs.length ≤ 100) (h : ∀ x ∈ xs, clean n x = true) : clean (n + 1) (.tup xs) = true := by
  simp only [clean, Bool.and_eq_true, List.all_eq_true]
  exact ⟨Nat.ble_eq_true_of_le hl, h⟩
theorem clean_tup {n : Nat} {xs : List D} (h : clean n (.tup xs) = true) : ∃ m, n = m + 1 ∧ xs.length ≤ 100 ∧ ∀ x ∈ xs, clean m x = true := by
  cases n with
  | zero => cases h
  | succ n =>
    simp only [clean, Bool.and_eq_true, List.all_eq_true] at h
    exact ⟨n, rfl, Nat.le_of_ble_eq_true h.1, h.2⟩
theorem clean_str {x : Str} (h : x ∈ allWords) {n : Nat} : clean n (.str x) = true := clean_flat (by simp only [cflat, List.any_eq_true]; exact ⟨x, h, by simp⟩)
theorem clean_int {i : Int} (h1 : -60 ≤ i) (h2 : i ≤ 60) {n : Nat} : clean n (.int i) = true := clean_flat (by simp [cflat, h1, h2])
theorem clean_cases {n : Nat} {d : D} (h : clean n d = true) : (∃ i, d = .int i ∧ -60 ≤ i ∧ i ≤ 60) ∨ (∃ x, d = .str x ∧ x ∈ allWords) ∨ ∃ xs m, d = .tup xs ∧ n = m + 1 ∧ xs.length ≤ 100 ∧ ∀ x ∈ xs, clean m x = true := by
  have fl : cflat d = true → (∃ i, d = .int i ∧ -60 ≤ i ∧ i ≤ 60) ∨ (∃ x, d = .str x ∧ x ∈ allWords) := by
    intro h
    cases d with
    | int i => simp only [cflat, Bool.and_eq_true, decide_eq_true_eq] at h; exact .inl ⟨i, rfl, h⟩
    | str x =>
      simp only [cflat, List.any_eq_true, decide_eq_true_eq] at h
      obtain ⟨w, hw, rfl⟩ := h
      exact .inr ⟨_, rfl, hw⟩
    | _ => cases h
  cases n with
  | zero => rcases fl h with h | h; exact .inl h; exact .inr (.inl h)
  | succ n =>
    cases d with
    | tup xs =>
      obtain ⟨m, e, r⟩ := clean_tup h
      exact .inr (.inr ⟨xs, m, rfl, e, r⟩)
    | _ => rcases fl h with h | h; exact .inl h; exact .inr (.inl h)
theorem words_ok : (allWords.all fun w => okS w && decide (w.length ≤ 20)) = true := by decide +kernel
theorem word_gd {x : Str} (h : x ∈ allWords) {n : Nat} : gd n (.str x) = true := by
  have := List.all_eq_true.mp words_ok x h
  simp only [Bool.and_eq_true, decide_eq_true_eq] at this
  exact gd_flat (by simp only [flatB, Bool.and_eq_true, decide_eq_true_eq]; exact ⟨this.1, by omega⟩)
theorem clean_gd {n : Nat} : ∀ {d : D}, clean n d = true → gd n d = true := by
  induction n with
  | zero =>
    intro d h
    rcases clean_cases h with ⟨i, rfl, _⟩ | ⟨x, rfl, hx⟩ | ⟨xs, m, rfl, e, _⟩
    · rfl
    · exact word_gd hx
    · omega
  | succ n ih =>
    intro d h
    rcases clean_cases h with ⟨i, rfl, _⟩ | ⟨x, rfl, hx⟩ | ⟨xs, m, rfl, e, hl, hx⟩
    · rfl
    · exact word_gd hx
    · obtain rfl : m = n := by omega
      exact gd_mk (by omega) fun x h => ih (hx x h)
theorem isW_word {w : Str} (h : isW w) : w ∈ allWords := by
  rcases h with rfl | rfl | rfl | rfl | rfl <;> simp [allWords]
theorem isN_word {w : Str} (h : isN w) : w ∈ allWords := by
  rcases h with rfl | rfl | rfl | rfl <;> simp [allWords]
theorem sm_clean {n : Nat} {s : Sm} (h : s.Ok n) : clean n s.d = true := by
  induction h with
  | num a b => exact clean_int (by omega) (by omega)
  | nam a => exact clean_str (isN_word a)
  | op w a b iha ihb =>
    refine clean_mk (by simp) fun x hx => ?_
    simp only [List.mem_cons, List.not_mem_nil, or_false] at hx
    rcases hx with rfl | rfl | rfl
    · exact clean_str (isW_word w)
    · exact iha
    · exact ihb
theorem ints_clean {os : List Int} (h : ∀ i ∈ os, -60 ≤ i ∧ i ≤ 60) (hl : os.length ≤ 100) : clean 1 (.tup (os.map .int)) = true := by
  refine clean_mk (by simpa using hl) fun x hx => ?_
  obtain ⟨i, hi, rfl⟩ := List.mem_map.mp hx
  exact clean_int (h i hi).1 (h i hi).2
theorem stp_clean {n : Nat} {s : Stp} (h : s.Ok n) : clean (2 * n + 4) s.d = true := by
  have kw : ∀ {w : Str} {n : Nat}, w ∈ allWords → clean n (.str w) = true := fun h => clean_str h
  induction h with
  | draw a b =>
    refine clean_le (n := 3) (clean_mk (by simp) fun x hx => ?_) (by omega)
    simp only [List.mem_cons, List.not_mem_nil, or_false] at hx
    rcases hx with rfl | rfl | rfl
    · exact kw (by simp)
    · exact kw (isN_word a)
    · refine clean_mk (by have := b.1.2.1; simp [lotsD] at this ⊢; omega) fun x hx => ?_
      obtain ⟨p, hp, rfl⟩ := List.mem_map.mp hx
      have h1 := b.1.2.2.2 p.1 (List.mem_map.mpr ⟨p, hp, rfl⟩)
      have h2 := b.2 p hp
      refine clean_mk (by simp) fun x hx => ?_
      simp only [List.mem_cons, List.not_mem_nil, or_false] at hx
      rcases hx with rfl | rfl
      · exact clean_int (by omega) (by omega)
      · exact clean_int (by omega) (by omega)
  | shw a b =>
    refine clean_le (n := 1) (clean_mk (by simp) fun x hx => ?_) (by omega)
    simp only [List.mem_cons, List.not_mem_nil, or_false] at hx
    rcases hx with rfl | rfl | rfl
    · exact kw (by simp)
    · exact kw (isN_word a)
    · exact clean_int (by omega) (by omega)
  | ask a b c =>
    refine clean_le (n := 2) (clean_mk (by simp) fun x hx => ?_) (by omega)
    simp only [List.mem_cons, List.not_mem_nil, or_false] at hx
    rcases hx with rfl | rfl | rfl | rfl
    · exact kw (by simp)
    · exact clean_int (by omega) (by omega)
    · exact kw (isN_word a)
    · exact ints_clean (fun i hi => by have := c.2.2.2 i hi; omega) (by have := c.2.1; omega)
  | keep a b =>
    refine clean_le (n := 4) (clean_mk (by simp) fun x hx => ?_) (by omega)
    simp only [List.mem_cons, List.not_mem_nil, or_false] at hx
    rcases hx with rfl | rfl | rfl
    · exact kw (by simp)
    · exact kw (isN_word a)
    · exact sm_clean b
  | pay a =>
    refine clean_le (n := 4) (clean_mk (by simp) fun x hx => ?_) (by omega)
    simp only [List.mem_cons, List.not_mem_nil, or_false] at hx
    rcases hx with rfl | rfl
    · exact kw (by simp)
    · exact sm_clean a
  | @iff n s a b hs la lb _ _ iha ihb =>
    have e : 2 * (n + 1) + 4 = (2 * n + 5) + 1 := by omega
    rw [e]
    refine clean_mk (by simp) fun x hx => ?_
    simp only [List.mem_cons, List.not_mem_nil, or_false] at hx
    rcases hx with rfl | rfl | rfl | rfl
    · exact kw (by simp)
    · exact clean_le (sm_clean hs) (by omega)
    · refine clean_mk (by rw [stepsD_length]; omega) fun x hx => ?_
      rw [stepsD_map] at hx
      obtain ⟨t, ht, rfl⟩ := List.mem_map.mp hx
      exact iha t ht
    · refine clean_mk (by rw [stepsD_length]; omega) fun x hx => ?_
      rw [stepsD_map] at hx
      obtain ⟨t, ht, rfl⟩ := List.mem_map.mp hx
      exact ihb t ht
theorem sheet_clean {n : Nat} {sh : List Stp} (h : SheetOk n sh) : clean (2 * n + 5) (.tup (stepsD sh)) = true := by
  refine clean_mk (by rw [stepsD_length]; have := h.1; omega) fun x hx => ?_
  rw [stepsD_map] at hx
  obtain ⟨t, ht, rfl⟩ := List.mem_map.mp hx
  exact stp_clean (h.2 t ht)
/-! ## cuts -/
theorem cut_to (xs : List D) (j : Nat) (h : j ≤ xs.length) : cutD xs none (some (j : Int)) = xs.take j := by
  unfold cutD
  rw [HT.sIx_none, HT.sIx_nat]
  simp
theorem cut_from (xs : List D) (j : Nat) (h : j ≤ xs.length) : cutD xs (some (j : Int)) none = xs.drop j := by
  unfold cutD
  rw [HT.sIx_none, HT.sIx_nat]
  rw [Nat.min_eq_left h, List.take_of_length_le (by simp)]
theorem cut_mem {xs : List D} {lo hi : Option Int} {x : D} (h : x ∈ cutD xs lo hi) : x ∈ xs := List.mem_of_mem_drop (List.mem_of_mem_take h)
theorem cut_len (xs : List D) (lo hi : Option Int) : (cutD xs lo hi).length ≤ xs.length := by
  unfold cutD
  rw [List.length_take, List.length_drop]
  omega
theorem rep_mem {xs : List D} {x : D} {k : Nat} (h : x ∈ (List.replicate k xs).flatten) : x ∈ xs := by
  obtain ⟨l, hl, hx⟩ := List.mem_flatten.mp h
  rw [List.eq_of_mem_replicate hl] at hx
  exact hx
theorem rep_len (xs : List D) (k : Nat) : (List.replicate k xs).flatten.length = k * xs.length := by simp
theorem dMul_tup {xs : List D} {k : Int} (h : xs ≠ []) (h2 : 2 ≤ k) (h3 : k ≤ 1000) (h4 : xs.length ≤ 1000) : dMulA (.tup xs) (.int k) = .ok (.tup (List.replicate k.toNat xs).flatten) := by
  simp only [dMulA, if_pos (And.intro h (And.intro h2 (And.intro h3 h4)))]
theorem dAdd_lst {xs ys : List D} (h : xs.length + ys.length ≤ 1000000) : dAdd (.lst xs) (.lst ys) = .ok (.lst (xs ++ ys)) := by
  have : xs.length + ys.length ≤ sizeLine := by rw [sizeLine_eq]; omega
  simp only [dAdd, if_pos this]
theorem log_small {i : Int} (h1 : -1000 ≤ i) (h2 : i ≤ 1000) : i.natAbs.log2 < 1920 := by
  by_cases h : i.natAbs = 0
  · rw [h]; decide
  · rw [Nat.log2_lt h]
    have : i.natAbs < 2 ^ 10 := by have : (2:Nat)^10 = 1024 := by decide
                                   omega
    exact Nat.lt_of_lt_of_le this (Nat.pow_le_pow_right (by decide) (by decide))
theorem strs_small : ((List.range 121).all fun (j : Nat) => let x : Str := Str.ofString (toString ((j : Int) - 60)); okS x && decide (x.length ≤ 20)) = true := by decide +kernel
theorem toString_gd {i : Int} (h1 : -60 ≤ i) (h2 : i ≤ 60) {n : Nat} : gd n (.str (toString i : String)) = true := by
  have := List.all_eq_true.mp strs_small (i + 60).toNat (List.mem_range.mpr (by omega))
  have e : (((i + 60).toNat : Nat) : Int) - 60 = i := by omega
  rw [e] at this
  simp only [Bool.and_eq_true, decide_eq_true_eq] at this
  exact gd_flat (by simp only [flatB, Bool.and_eq_true, decide_eq_true_eq]; exact ⟨this.1, by omega⟩)
theorem words_more : (allWords.all fun w => gd 0 (.str (w ++ "a")) && gd 0 (.str (cutS w none (some (-1)))) && gd 0 (.str (Txt.upper w)) && gd 0 (.str (w ++ "1")) && decide (w.length ≤ 20)) = true := by decide +kernel
end CH
namespace K01
open PySem PySem.Spec L2 CH
def topS (i : Nat) : Stmt := PySem.Challenge.pw_closedhand_k01_sheets.main.body.getD i (.Pass ⟨0, 0, 0, 0⟩)
inductive Fn where
  | is_number | is_small | is_name | is_sum_at | is_sum | rises | are_lots | are_options | is_step | is_sheet_at | is_sheet | _law_cell_at | _law_mixed | _law_drawn | _law_sum | _law_numbers | _law_pick_step | _law_steps | _law_cards | _law_sheet | _law_whole | _law_is_name | _law_is_sum | _law_rises | _law_are_options | _law_are_lots | _law_is_step | _law_is_sheet | _law_odd | _law_spoilt | _law_same | law
def k_DEEP_SHEET : D := (.int 5)
def k_DEEP_SUM : D := (.int 6)
def k_GREATEST : D := (.int 50)
def k_LETTERS : D := (.str "abcdefghijklmnopqrstuvwxyz")
def k_LONGEST : D := (.int 12)
def k_STEPS : D := (.tup [(.str "draw"), (.str "show"), (.str "ask"), (.str "keep"), (.str "if"), (.str "pay")])
def k_SUMS : D := (.tup [(.str "plus"), (.str "less"), (.str "times"), (.str "under"), (.str "alike")])
/-! ### is_number -/
abbrev st_is_number : Stmt := topS 8
abbrev N_is_number : List Str := ["thing", "low", "high"]
theorem sc_is_number : FnScope N_is_number ["thing", "low", "high"] (defScope st_is_number) := ⟨by decide +kernel, by decide +kernel, by decide +kernel, by decide +kernel, by decide +kernel, by decide +kernel, by decide +kernel⟩
theorem v0_is_number_high : lk st_is_number "high" = some .local := by decide +kernel
theorem v_is_number_high : Vis (defScope st_is_number) "high" := .inl v0_is_number_high
theorem l_is_number_high : Loc (defScope st_is_number) "high" := .inl v0_is_number_high
theorem v0_is_number_low : lk st_is_number "low" = some .local := by decide +kernel
theorem v_is_number_low : Vis (defScope st_is_number) "low" := .inl v0_is_number_low
theorem l_is_number_low : Loc (defScope st_is_number) "low" := .inl v0_is_number_low
theorem v0_is_number_thing : lk st_is_number "thing" = some .local := by decide +kernel
theorem v_is_number_thing : Vis (defScope st_is_number) "thing" := .inl v0_is_number_thing
theorem l_is_number_thing : Loc (defScope st_is_number) "thing" := .inl v0_is_number_thing
theorem g_is_number_bool : lk st_is_number "bool" = some .globalImplicit := by decide +kernel
theorem g_is_number_int : lk st_is_number "int" = some .globalImplicit := by decide +kernel
theorem g_is_number_isinstance : lk st_is_number "isinstance" = some .globalImplicit := by decide +kernel
noncomputable def m_is_number (C : Fn → List D → Res D) : MS :=
  (sRet (mAndV (m1 (dIsi "int") (mVarB 0)) (mAndV (mNotV (m1 (dIsi "bool") (mVarB 0))) (mChain dLe dLe (mVarB 1) (mVarB 0) (mVarB 2)))))
/-! ### is_small -/
abbrev st_is_small : Stmt := topS 9
abbrev N_is_small : List Str := ["thing"]
theorem sc_is_small : FnScope N_is_small ["thing"] (defScope st_is_small) := ⟨by decide +kernel, by decide +kernel, by decide +kernel, by decide +kernel, by decide +kernel, by decide +kernel, by decide +kernel⟩
theorem v0_is_small_thing : lk st_is_small "thing" = some .local := by decide +kernel
theorem v_is_small_thing : Vis (defScope st_is_small) "thing" := .inl v0_is_small_thing
theorem l_is_small_thing : Loc (defScope st_is_small) "thing" := .inl v0_is_small_thing
theorem g_is_small_GREATEST : lk st_is_small "GREATEST" = some .globalImplicit := by decide +kernel
theorem g_is_small_is_number : lk st_is_small "is_number" = some .globalImplicit := by decide +kernel
noncomputable def m_is_small (C : Fn → List D → Res D) : MS :=
  (sRet (mCall (fun ds => (C .is_number ds).calm) [(mVar 0), (m1 dNeg (mC k_GREATEST)), (mC k_GREATEST)]))
/-! ### is_name -/
abbrev st_is_name : Stmt := topS 10
abbrev N_is_name : List Str := ["thing", "sign"]
theorem sc_is_name : FnScope N_is_name ["thing"] (defScope st_is_name) := ⟨by decide +kernel, by decide +kernel, by decide +kernel, by decide +kernel, by decide +kernel, by decide +kernel, by decide +kernel⟩
theorem v0_is_name_thing : lk st_is_name "thing" = some .local := by decide +kernel
theorem v_is_name_thing : Vis (defScope st_is_name) "thing" := .inl v0_is_name_thing
theorem l_is_name_thing : Loc (defScope st_is_name) "thing" := .inl v0_is_name_thing
theorem g_is_name_STEPS : lk st_is_name "STEPS" = some .globalImplicit := by decide +kernel
theorem g_is_name_SUMS : lk st_is_name "SUMS" = some .globalImplicit := by decide +kernel
theorem g_is_name_all : lk st_is_name "all" = some .globalImplicit := by decide +kernel
theorem g_is_name_isinstance : lk st_is_name "isinstance" = some .globalImplicit := by decide +kernel
theorem g_is_name_len : lk st_is_name "len" = some .globalImplicit := by decide +kernel
theorem g_is_name_str : lk st_is_name "str" = some .globalImplicit := by decide +kernel
noncomputable def m_is_name_c0 (C : Fn → List D → Res D) : ME :=
  (mLc (mItems (mVar 0)) (bName 1) mYes (m2 dIn (mVarB 1) (mC k_LETTERS)) [1])
noncomputable def m_is_name (C : Fn → List D → Res D) : MS :=
  (sSeq (sIf (mOr (mNot (mTest (m1 (dIsi "str") (mVarB 0)))) (mOr (mNot (mTest (mChain dLe dLe (mC (.int 1)) (m1 dLen (mVarB 0)) (mC (.int 3))))) (mOr (mTest (m2 dIn (mVarB 0) (mC k_SUMS))) (mTest (m2 dIn (mVarB 0) (mC k_STEPS)))))) (sRet (mC (.bl false))) sNil)
  (sRet (m1 dAll (m_is_name_c0 C))))
/-! ### is_sum_at -/
abbrev st_is_sum_at : Stmt := topS 11
abbrev N_is_sum_at : List Str := ["thing", "deep"]
theorem sc_is_sum_at : FnScope N_is_sum_at ["thing", "deep"] (defScope st_is_sum_at) := ⟨by decide +kernel, by decide +kernel, by decide +kernel, by decide +kernel, by decide +kernel, by decide +kernel, by decide +kernel⟩
theorem v0_is_sum_at_deep : lk st_is_sum_at "deep" = some .local := by decide +kernel
theorem v_is_sum_at_deep : Vis (defScope st_is_sum_at) "deep" := .inl v0_is_sum_at_deep
theorem l_is_sum_at_deep : Loc (defScope st_is_sum_at) "deep" := .inl v0_is_sum_at_deep
theorem v0_is_sum_at_thing : lk st_is_sum_at "thing" = some .local := by decide +kernel
theorem v_is_sum_at_thing : Vis (defScope st_is_sum_at) "thing" := .inl v0_is_sum_at_thing
theorem l_is_sum_at_thing : Loc (defScope st_is_sum_at) "thing" := .inl v0_is_sum_at_thing
theorem g_is_sum_at_SUMS : lk st_is_sum_at "SUMS" = some .globalImplicit := by decide +kernel
theorem g_is_sum_at_is_name : lk st_is_sum_at "is_name" = some .globalImplicit := by decide +kernel
theorem g_is_sum_at_is_small : lk st_is_sum_at "is_small" = some .globalImplicit := by decide +kernel
theorem g_is_sum_at_is_sum_at : lk st_is_sum_at "is_sum_at" = some .globalImplicit := by decide +kernel
theorem g_is_sum_at_isinstance : lk st_is_sum_at "isinstance" = some .globalImplicit := by decide +kernel
theorem g_is_sum_at_len : lk st_is_sum_at "len" = some .globalImplicit := by decide +kernel
theorem g_is_sum_at_str : lk st_is_sum_at "str" = some .globalImplicit := by decide +kernel
theorem g_is_sum_at_tuple : lk st_is_sum_at "tuple" = some .globalImplicit := by decide +kernel
noncomputable def m_is_sum_at (C : Fn → List D → Res D) : MS :=
  (sSeq (sIf (mOr (mTest (mCall (fun ds => (C .is_small ds).calm) [(mVar 0)])) (mTest (mCall (fun ds => (C .is_name ds).calm) [(mVar 0)]))) (sRet (mC (.bl true))) sNil)
  (sSeq (sIf (mOr (mTest (m2 dEq (mVarB 1) (mC (.int 0)))) (mOr (mNot (mTest (m1 (dIsi "tuple") (mVarB 0)))) (mTest (m2 dNe (m1 dLen (mVarB 0)) (mC (.int 3)))))) (sRet (mC (.bl false))) sNil)
  (sSeq (sIf (mOr (mNot (mTest (m1 (dIsi "str") (m2 dIx (mVarB 0) (mC (.int 0)))))) (mTest (m2 dNotIn (m2 dIx (mVarB 0) (mC (.int 0))) (mC k_SUMS)))) (sRet (mC (.bl false))) sNil)
  (sRet (mAndV (mCall (fun ds => (C .is_sum_at ds).calm) [(m2 dIx (mVarB 0) (mC (.int 1))), (m2 dSub (mVarB 1) (mC (.int 1)))]) (mCall (fun ds => (C .is_sum_at ds).calm) [(m2 dIx (mVarB 0) (mC (.int 2))), (m2 dSub (mVarB 1) (mC (.int 1)))]))))))
/-! ### is_sum -/
abbrev st_is_sum : Stmt := topS 12
abbrev N_is_sum : List Str := ["thing"]
theorem sc_is_sum : FnScope N_is_sum ["thing"] (defScope st_is_sum) := ⟨by decide +kernel, by decide +kernel, by decide +kernel, by decide +kernel, by decide +kernel, by decide +kernel, by decide +kernel⟩
theorem v0_is_sum_thing : lk st_is_sum "thing" = some .local := by decide +kernel
theorem v_is_sum_thing : Vis (defScope st_is_sum) "thing" := .inl v0_is_sum_thing
theorem l_is_sum_thing : Loc (defScope st_is_sum) "thing" := .inl v0_is_sum_thing
theorem g_is_sum_DEEP_SUM : lk st_is_sum "DEEP_SUM" = some .globalImplicit := by decide +kernel
theorem g_is_sum_is_sum_at : lk st_is_sum "is_sum_at" = some .globalImplicit := by decide +kernel
noncomputable def m_is_sum (C : Fn → List D → Res D) : MS :=
  (sRet (mCall (fun ds => (C .is_sum_at ds).calm) [(mVar 0), (mC k_DEEP_SUM)]))
/-! ### rises -/
abbrev st_rises : Stmt := topS 13
abbrev N_rises : List Str := ["row", "one", "other"]
theorem sc_rises : FnScope N_rises ["row"] (defScope st_rises) := ⟨by decide +kernel, by decide +kernel, by decide +kernel, by decide +kernel, by decide +kernel, by decide +kernel, by decide +kernel⟩
theorem v0_rises_row : lk st_rises "row" = some .local := by decide +kernel
theorem v_rises_row : Vis (defScope st_rises) "row" := .inl v0_rises_row
theorem l_rises_row : Loc (defScope st_rises) "row" := .inl v0_rises_row
theorem g_rises_all : lk st_rises "all" = some .globalImplicit := by decide +kernel
theorem g_rises_zip : lk st_rises "zip" = some .globalImplicit := by decide +kernel
noncomputable def m_rises_c0 (C : Fn → List D → Res D) : ME :=
  (mLc (mZip (mSl (mVarB 0) none (some (m1 dNeg (mC (.int 1))))) (mSl (mVarB 0) (some (mC (.int 1))) none)) (bTup [1, 2]) mYes (m2 dLt (mVarB 1) (mVarB 2)) [1, 2])
noncomputable def m_rises (C : Fn → List D → Res D) : MS :=
  (sRet (m1 dAll (m_rises_c0 C)))
/-! ### are_lots -/
abbrev st_are_lots : Stmt := topS 14
abbrev N_are_lots : List Str := ["thing", "lot"]
theorem sc_are_lots : FnScope N_are_lots ["thing"] (defScope st_are_lots) := ⟨by decide +kernel, by decide +kernel, by decide +kernel, by decide +kernel, by decide +kernel, by decide +kernel, by decide +kernel⟩
theorem v0_are_lots_lot : lk st_are_lots "lot" = some .local := by decide +kernel
theorem v_are_lots_lot : Vis (defScope st_are_lots) "lot" := .inl v0_are_lots_lot
theorem l_are_lots_lot : Loc (defScope st_are_lots) "lot" := .inl v0_are_lots_lot
theorem v0_are_lots_thing : lk st_are_lots "thing" = some .local := by decide +kernel
theorem v_are_lots_thing : Vis (defScope st_are_lots) "thing" := .inl v0_are_lots_thing
theorem l_are_lots_thing : Loc (defScope st_are_lots) "thing" := .inl v0_are_lots_thing
theorem g_are_lots_is_number : lk st_are_lots "is_number" = some .globalImplicit := by decide +kernel
theorem g_are_lots_is_small : lk st_are_lots "is_small" = some .globalImplicit := by decide +kernel
theorem g_are_lots_isinstance : lk st_are_lots "isinstance" = some .globalImplicit := by decide +kernel
theorem g_are_lots_len : lk st_are_lots "len" = some .globalImplicit := by decide +kernel
theorem g_are_lots_rises : lk st_are_lots "rises" = some .globalImplicit := by decide +kernel
theorem g_are_lots_tuple : lk st_are_lots "tuple" = some .globalImplicit := by decide +kernel
noncomputable def m_are_lots_b0 (C : Fn → List D → Res D) : MS :=
  (sIf (mOr (mNot (mTest (m1 (dIsi "tuple") (mVarB 1)))) (mOr (mTest (m2 dNe (m1 dLen (mVarB 1)) (mC (.int 2)))) (mOr (mNot (mTest (mCall (fun ds => (C .is_small ds).calm) [(m2 dIx (mVarB 1) (mC (.int 0)))]))) (mNot (mTest (mCall (fun ds => (C .is_number ds).calm) [(m2 dIx (mVarB 1) (mC (.int 1))), (mC (.int 1)), (mC (.int 9))])))))) (sRet (mC (.bl false))) sNil)
noncomputable def m_are_lots_c0 (C : Fn → List D → Res D) : ME :=
  (mLc (mItems (mVar 0)) (bName 1) mYes (m2 dIx (mVarB 1) (mC (.int 0))) [1])
noncomputable def m_are_lots (C : Fn → List D → Res D) : MS :=
  (sSeq (sIf (mOr (mNot (mTest (m1 (dIsi "tuple") (mVarB 0)))) (mNot (mTest (mChain dLe dLe (mC (.int 1)) (m1 dLen (mVarB 0)) (mC (.int 5)))))) (sRet (mC (.bl false))) sNil)
  (sSeq (sFor (mItems (mVar 0)) (bName 1) (m_are_lots_b0 C))
  (sRet (mCall (fun ds => (C .rises ds).calm) [(m_are_lots_c0 C)]))))
/-! ### are_options -/
abbrev st_are_options : Stmt := topS 15
abbrev N_are_options : List Str := ["thing", "part"]
theorem sc_are_options : FnScope N_are_options ["thing"] (defScope st_are_options) := ⟨by decide +kernel, by decide +kernel, by decide +kernel, by decide +kernel, by decide +kernel, by decide +kernel, by decide +kernel⟩
theorem v0_are_options_thing : lk st_are_options "thing" = some .local := by decide +kernel
theorem v_are_options_thing : Vis (defScope st_are_options) "thing" := .inl v0_are_options_thing
theorem l_are_options_thing : Loc (defScope st_are_options) "thing" := .inl v0_are_options_thing
theorem g_are_options_all : lk st_are_options "all" = some .globalImplicit := by decide +kernel
theorem g_are_options_isinstance : lk st_are_options "isinstance" = some .globalImplicit := by decide +kernel
theorem g_are_options_len : lk st_are_options "len" = some .globalImplicit := by decide +kernel
theorem g_are_options_rises : lk st_are_options "rises" = some .globalImplicit := by decide +kernel
theorem g_are_options_tuple : lk st_are_options "tuple" = some .globalImplicit := by decide +kernel
noncomputable def m_are_options_c0 (C : Fn → List D → Res D) : ME :=
  (mLc (mItems (mVar 0)) (bName 1) mYes (mCall (fun ds => (C .is_small ds).calm) [(mVar 1)]) [1])
noncomputable def m_are_options (C : Fn → List D → Res D) : MS :=
  (sSeq (sIf (mOr (mNot (mTest (m1 (dIsi "tuple") (mVarB 0)))) (mOr (mNot (mTest (mChain dLe dLe (mC (.int 1)) (m1 dLen (mVarB 0)) (mC (.int 4))))) (mNot (mTest (m1 dAll (m_are_options_c0 C)))))) (sRet (mC (.bl false))) sNil)
  (sRet (mCall (fun ds => (C .rises ds).calm) [(mVar 0)])))
/-! ### is_step -/
abbrev st_is_step : Stmt := topS 16
abbrev N_is_step : List Str := ["thing", "deep", "rest"]
theorem sc_is_step : FnScope N_is_step ["thing", "deep"] (defScope st_is_step) := ⟨by decide +kernel, by decide +kernel, by decide +kernel, by decide +kernel, by decide +kernel, by decide +kernel, by decide +kernel⟩
theorem v0_is_step_deep : lk st_is_step "deep" = some .local := by decide +kernel
theorem v_is_step_deep : Vis (defScope st_is_step) "deep" := .inl v0_is_step_deep
theorem l_is_step_deep : Loc (defScope st_is_step) "deep" := .inl v0_is_step_deep
theorem v0_is_step_rest : lk st_is_step "rest" = some .local := by decide +kernel
theorem v_is_step_rest : Vis (defScope st_is_step) "rest" := .inl v0_is_step_rest
theorem l_is_step_rest : Loc (defScope st_is_step) "rest" := .inl v0_is_step_rest
theorem v0_is_step_thing : lk st_is_step "thing" = some .local := by decide +kernel
theorem v_is_step_thing : Vis (defScope st_is_step) "thing" := .inl v0_is_step_thing
theorem l_is_step_thing : Loc (defScope st_is_step) "thing" := .inl v0_is_step_thing
theorem g_is_step_are_lots : lk st_is_step "are_lots" = some .globalImplicit := by decide +kernel
theorem g_is_step_are_options : lk st_is_step "are_options" = some .globalImplicit := by decide +kernel
theorem g_is_step_is_name : lk st_is_step "is_name" = some .globalImplicit := by decide +kernel
theorem g_is_step_is_number : lk st_is_step "is_number" = some .globalImplicit := by decide +kernel
theorem g_is_step_is_sheet_at : lk st_is_step "is_sheet_at" = some .globalImplicit := by decide +kernel
theorem g_is_step_is_sum : lk st_is_step "is_sum" = some .globalImplicit := by decide +kernel
theorem g_is_step_isinstance : lk st_is_step "isinstance" = some .globalImplicit := by decide +kernel
theorem g_is_step_len : lk st_is_step "len" = some .globalImplicit := by decide +kernel
theorem g_is_step_str : lk st_is_step "str" = some .globalImplicit := by decide +kernel
theorem g_is_step_tuple : lk st_is_step "tuple" = some .globalImplicit := by decide +kernel
noncomputable def m_is_step (C : Fn → List D → Res D) : MS :=
  (sSeq (sIf (mOr (mNot (mTest (m1 (dIsi "tuple") (mVarB 0)))) (mOr (mTest (m2 dEq (m1 dLen (mVarB 0)) (mC (.int 0)))) (mNot (mTest (m1 (dIsi "str") (m2 dIx (mVarB 0) (mC (.int 0)))))))) (sRet (mC (.bl false))) sNil)
  (sSeq (sSet 2 (mSl (mVarB 0) (some (mC (.int 1))) none))
  (sSeq (sIf (mTest (m2 dEq (m2 dIx (mVarB 0) (mC (.int 0))) (mC (.str "draw")))) (sRet (mAndV (m2 dEq (m1 dLen (mVarB 2)) (mC (.int 2))) (mAndV (mCall (fun ds => (C .is_name ds).calm) [(m2 dIx (mVarB 2) (mC (.int 0)))]) (mCall (fun ds => (C .are_lots ds).calm) [(m2 dIx (mVarB 2) (mC (.int 1)))])))) sNil)
  (sSeq (sIf (mTest (m2 dEq (m2 dIx (mVarB 0) (mC (.int 0))) (mC (.str "show")))) (sRet (mAndV (m2 dEq (m1 dLen (mVarB 2)) (mC (.int 2))) (mAndV (mCall (fun ds => (C .is_name ds).calm) [(m2 dIx (mVarB 2) (mC (.int 0)))]) (mCall (fun ds => (C .is_number ds).calm) [(m2 dIx (mVarB 2) (mC (.int 1))), (mC (.int 0)), (mC (.int 1))])))) sNil)
  (sSeq (sIf (mTest (m2 dEq (m2 dIx (mVarB 0) (mC (.int 0))) (mC (.str "ask")))) (sRet (mAndV (m2 dEq (m1 dLen (mVarB 2)) (mC (.int 3))) (mAndV (mCall (fun ds => (C .is_number ds).calm) [(m2 dIx (mVarB 2) (mC (.int 0))), (mC (.int 0)), (mC (.int 1))]) (mAndV (mCall (fun ds => (C .is_name ds).calm) [(m2 dIx (mVarB 2) (mC (.int 1)))]) (mCall (fun ds => (C .are_options ds).calm) [(m2 dIx (mVarB 2) (mC (.int 2)))]))))) sNil)
  (sSeq (sIf (mTest (m2 dEq (m2 dIx (mVarB 0) (mC (.int 0))) (mC (.str "keep")))) (sRet (mAndV (m2 dEq (m1 dLen (mVarB 2)) (mC (.int 2))) (mAndV (mCall (fun ds => (C .is_name ds).calm) [(m2 dIx (mVarB 2) (mC (.int 0)))]) (mCall (fun ds => (C .is_sum ds).calm) [(m2 dIx (mVarB 2) (mC (.int 1)))])))) sNil)
  (sSeq (sIf (mTest (m2 dEq (m2 dIx (mVarB 0) (mC (.int 0))) (mC (.str "pay")))) (sRet (mAndV (m2 dEq (m1 dLen (mVarB 2)) (mC (.int 1))) (mCall (fun ds => (C .is_sum ds).calm) [(m2 dIx (mVarB 2) (mC (.int 0)))]))) sNil)
  (sSeq (sIf (mOr (mTest (m2 dNe (m2 dIx (mVarB 0) (mC (.int 0))) (mC (.str "if")))) (mOr (mTest (m2 dNe (m1 dLen (mVarB 2)) (mC (.int 3)))) (mOr (mTest (m2 dEq (mVarB 1) (mC (.int 0)))) (mNot (mTest (mCall (fun ds => (C .is_sum ds).calm) [(m2 dIx (mVarB 2) (mC (.int 0)))])))))) (sRet (mC (.bl false))) sNil)
  (sRet (mAndV (mCall (fun ds => (C .is_sheet_at ds).calm) [(m2 dIx (mVarB 2) (mC (.int 1))), (m2 dSub (mVarB 1) (mC (.int 1)))]) (mCall (fun ds => (C .is_sheet_at ds).calm) [(m2 dIx (mVarB 2) (mC (.int 2))), (m2 dSub (mVarB 1) (mC (.int 1)))])))))))))))
/-! ### is_sheet_at -/
abbrev st_is_sheet_at : Stmt := topS 17
abbrev N_is_sheet_at : List Str := ["thing", "deep", "step"]
theorem sc_is_sheet_at : FnScope N_is_sheet_at ["thing", "deep"] (defScope st_is_sheet_at) := ⟨by decide +kernel, by decide +kernel, by decide +kernel, by decide +kernel, by decide +kernel, by decide +kernel, by decide +kernel⟩
theorem v0_is_sheet_at_thing : lk st_is_sheet_at "thing" = some .local := by decide +kernel
theorem v_is_sheet_at_thing : Vis (defScope st_is_sheet_at) "thing" := .inl v0_is_sheet_at_thing
theorem l_is_sheet_at_thing : Loc (defScope st_is_sheet_at) "thing" := .inl v0_is_sheet_at_thing
theorem g_is_sheet_at_LONGEST : lk st_is_sheet_at "LONGEST" = some .globalImplicit := by decide +kernel
theorem g_is_sheet_at_all : lk st_is_sheet_at "all" = some .globalImplicit := by decide +kernel
theorem g_is_sheet_at_isinstance : lk st_is_sheet_at "isinstance" = some .globalImplicit := by decide +kernel
theorem g_is_sheet_at_len : lk st_is_sheet_at "len" = some .globalImplicit := by decide +kernel
theorem g_is_sheet_at_tuple : lk st_is_sheet_at "tuple" = some .globalImplicit := by decide +kernel
noncomputable def m_is_sheet_at_c0 (C : Fn → List D → Res D) : ME :=
  (mLc (mItems (mVar 0)) (bName 2) mYes (mCall (fun ds => (C .is_step ds).calm) [(mVar 2), (mVar 1)]) [2])
noncomputable def m_is_sheet_at (C : Fn → List D → Res D) : MS :=
  (sSeq (sIf (mOr (mNot (mTest (m1 (dIsi "tuple") (mVarB 0)))) (mTest (m2 dGt (m1 dLen (mVarB 0)) (mC k_LONGEST)))) (sRet (mC (.bl false))) sNil)
  (sRet (m1 dAll (m_is_sheet_at_c0 C))))
/-! ### is_sheet -/
abbrev st_is_sheet : Stmt := topS 18
abbrev N_is_sheet : List Str := ["thing"]
theorem sc_is_sheet : FnScope N_is_sheet ["thing"] (defScope st_is_sheet) := ⟨by decide +kernel, by decide +kernel, by decide +kernel, by decide +kernel, by decide +kernel, by decide +kernel, by decide +kernel⟩
theorem v0_is_sheet_thing : lk st_is_sheet "thing" = some .local := by decide +kernel
theorem v_is_sheet_thing : Vis (defScope st_is_sheet) "thing" := .inl v0_is_sheet_thing
theorem l_is_sheet_thing : Loc (defScope st_is_sheet) "thing" := .inl v0_is_sheet_thing
theorem g_is_sheet_DEEP_SHEET : lk st_is_sheet "DEEP_SHEET" = some .globalImplicit := by decide +kernel
theorem g_is_sheet_is_sheet_at : lk st_is_sheet "is_sheet_at" = some .globalImplicit := by decide +kernel
noncomputable def m_is_sheet (C : Fn → List D → Res D) : MS :=
  (sRet (mCall (fun ds => (C .is_sheet_at ds).calm) [(mVar 0), (mC k_DEEP_SHEET)]))
/-! ### _law_cell_at -/
abbrev st__law_cell_at : Stmt := topS 20
abbrev N__law_cell_at : List Str := ["script", "k"]
theorem sc__law_cell_at : FnScope N__law_cell_at ["script", "k"] (defScope st__law_cell_at) := ⟨by decide +kernel, by decide +kernel, by decide +kernel, by decide +kernel, by decide +kernel, by decide +kernel, by decide +kernel⟩
theorem v0__law_cell_at_k : lk st__law_cell_at "k" = some .local := by decide +kernel
theorem v__law_cell_at_k : Vis (defScope st__law_cell_at) "k" := .inl v0__law_cell_at_k
theorem l__law_cell_at_k : Loc (defScope st__law_cell_at) "k" := .inl v0__law_cell_at_k
theorem v0__law_cell_at_script : lk st__law_cell_at "script" = some .local := by decide +kernel
theorem v__law_cell_at_script : Vis (defScope st__law_cell_at) "script" := .inl v0__law_cell_at_script
theorem l__law_cell_at_script : Loc (defScope st__law_cell_at) "script" := .inl v0__law_cell_at_script
theorem g__law_cell_at_len : lk st__law_cell_at "len" = some .globalImplicit := by decide +kernel
noncomputable def m__law_cell_at (C : Fn → List D → Res D) : MS :=
  (sSeq (sIf (mTest (m2 dLt (mVarB 1) (m1 dLen (mVarB 0)))) (sRet (m2 dIx (mVarB 0) (mVarB 1))) sNil)
  (sRet (mC (.int 0))))
/-! ### _law_mixed -/
abbrev st__law_mixed : Stmt := topS 21
abbrev N__law_mixed : List Str := ["script", "k", "drawn"]
theorem sc__law_mixed : FnScope N__law_mixed ["script", "k"] (defScope st__law_mixed) := ⟨by decide +kernel, by decide +kernel, by decide +kernel, by decide +kernel, by decide +kernel, by decide +kernel, by decide +kernel⟩
theorem v0__law_mixed_drawn : lk st__law_mixed "drawn" = some .local := by decide +kernel
theorem v__law_mixed_drawn : Vis (defScope st__law_mixed) "drawn" := .inl v0__law_mixed_drawn
theorem l__law_mixed_drawn : Loc (defScope st__law_mixed) "drawn" := .inl v0__law_mixed_drawn
theorem v0__law_mixed_k : lk st__law_mixed "k" = some .local := by decide +kernel
theorem v__law_mixed_k : Vis (defScope st__law_mixed) "k" := .inl v0__law_mixed_k
theorem l__law_mixed_k : Loc (defScope st__law_mixed) "k" := .inl v0__law_mixed_k
theorem v0__law_mixed_script : lk st__law_mixed "script" = some .local := by decide +kernel
theorem v__law_mixed_script : Vis (defScope st__law_mixed) "script" := .inl v0__law_mixed_script
theorem l__law_mixed_script : Loc (defScope st__law_mixed) "script" := .inl v0__law_mixed_script
theorem g__law_mixed__law_cell_at : lk st__law_mixed "_law_cell_at" = some .globalImplicit := by decide +kernel
noncomputable def m__law_mixed (C : Fn → List D → Res D) : MS :=
  (sSeq (sSet 2 (m2 dMod (m2 dMulA (m2 dAdd (m2 dAdd (mCall (fun ds => (C ._law_cell_at ds).calm) [(mVar 0), (mVar 1)]) (m2 dMulA (mC (.int 7919)) (mVarB 1))) (mC (.int 1))) (mC (.int 48271))) (mC (.int 2147483647))))
  (sRet (m2 dMod (m2 dAdd (m2 dAdd (m2 dMulA (mVarB 2) (mVarB 2)) (m2 dMulA (mC (.int 7)) (mVarB 2))) (mVarB 1)) (mC (.int 2147483629)))))
/-! ### _law_drawn -/
abbrev st__law_drawn : Stmt := topS 22
abbrev N__law_drawn : List Str := ["number", "k", "drawn"]
theorem sc__law_drawn : FnScope N__law_drawn ["number", "k"] (defScope st__law_drawn) := ⟨by decide +kernel, by decide +kernel, by decide +kernel, by decide +kernel, by decide +kernel, by decide +kernel, by decide +kernel⟩
theorem v0__law_drawn_drawn : lk st__law_drawn "drawn" = some .local := by decide +kernel
theorem v__law_drawn_drawn : Vis (defScope st__law_drawn) "drawn" := .inl v0__law_drawn_drawn
theorem l__law_drawn_drawn : Loc (defScope st__law_drawn) "drawn" := .inl v0__law_drawn_drawn
theorem v0__law_drawn_k : lk st__law_drawn "k" = some .local := by decide +kernel
theorem v__law_drawn_k : Vis (defScope st__law_drawn) "k" := .inl v0__law_drawn_k
theorem l__law_drawn_k : Loc (defScope st__law_drawn) "k" := .inl v0__law_drawn_k
theorem v0__law_drawn_number : lk st__law_drawn "number" = some .local := by decide +kernel
theorem v__law_drawn_number : Vis (defScope st__law_drawn) "number" := .inl v0__law_drawn_number
theorem l__law_drawn_number : Loc (defScope st__law_drawn) "number" := .inl v0__law_drawn_number
noncomputable def m__law_drawn (C : Fn → List D → Res D) : MS :=
  (sSeq (sSet 2 (m2 dMod (m2 dMulA (m2 dAdd (m2 dAdd (mVarB 0) (m2 dMulA (mC (.int 104729)) (mVarB 1))) (mC (.int 17))) (mC (.int 69621))) (mC (.int 2147483647))))
  (sRet (m2 dMod (m2 dAdd (m2 dAdd (m2 dMulA (mVarB 2) (mVarB 2)) (m2 dMulA (mC (.int 3)) (mVarB 2))) (mVarB 1)) (mC (.int 2147483629)))))
/-! ### _law_sum -/
abbrev st__law_sum : Stmt := topS 23
abbrev N__law_sum : List Str := ["number", "deep", "one", "word"]
theorem sc__law_sum : FnScope N__law_sum ["number", "deep"] (defScope st__law_sum) := ⟨by decide +kernel, by decide +kernel, by decide +kernel, by decide +kernel, by decide +kernel, by decide +kernel, by decide +kernel⟩
theorem v0__law_sum_deep : lk st__law_sum "deep" = some .local := by decide +kernel
theorem v__law_sum_deep : Vis (defScope st__law_sum) "deep" := .inl v0__law_sum_deep
theorem l__law_sum_deep : Loc (defScope st__law_sum) "deep" := .inl v0__law_sum_deep
theorem v0__law_sum_number : lk st__law_sum "number" = some .local := by decide +kernel
theorem v__law_sum_number : Vis (defScope st__law_sum) "number" := .inl v0__law_sum_number
theorem l__law_sum_number : Loc (defScope st__law_sum) "number" := .inl v0__law_sum_number
theorem v0__law_sum_one : lk st__law_sum "one" = some .local := by decide +kernel
theorem v__law_sum_one : Vis (defScope st__law_sum) "one" := .inl v0__law_sum_one
theorem l__law_sum_one : Loc (defScope st__law_sum) "one" := .inl v0__law_sum_one
theorem v0__law_sum_word : lk st__law_sum "word" = some .local := by decide +kernel
theorem v__law_sum_word : Vis (defScope st__law_sum) "word" := .inl v0__law_sum_word
theorem l__law_sum_word : Loc (defScope st__law_sum) "word" := .inl v0__law_sum_word
theorem g__law_sum__law_drawn : lk st__law_sum "_law_drawn" = some .globalImplicit := by decide +kernel
theorem g__law_sum__law_sum : lk st__law_sum "_law_sum" = some .globalImplicit := by decide +kernel
noncomputable def m__law_sum (C : Fn → List D → Res D) : MS :=
  (sSeq (sIf (mOr (mTest (m2 dEq (mVarB 1) (mC (.int 0)))) (mTest (m2 dEq (m2 dMod (mVarB 0) (mC (.int 3))) (mC (.int 0))))) (sRet (m2 dIx (mLst [(mC (.str "a")), (mC (.str "b")), (mC (.str "c")), (mC (.str "d")), (m2 dSub (m2 dMod (m2 dDiv (mVarB 0) (mC (.int 9))) (mC (.int 9))) (mC (.int 4))), (m2 dSub (m2 dMod (m2 dDiv (mVarB 0) (mC (.int 9))) (mC (.int 101))) (mC (.int 50)))]) (m2 dMod (m2 dDiv (mVarB 0) (mC (.int 3))) (mC (.int 6))))) sNil)
  (sSeq (sSet 2 (mCall (fun ds => (C ._law_sum ds).calm) [(mCall (fun ds => (C ._law_drawn ds).calm) [(mVar 0), (mC (.int 1))]), (m2 dSub (mVarB 1) (mC (.int 1)))]))
  (sSeq (sSet 3 (m2 dIx (mTup [(mC (.str "plus")), (mC (.str "less")), (mC (.str "times")), (mC (.str "under")), (mC (.str "alike"))]) (m2 dMod (m2 dDiv (mVarB 0) (mC (.int 3))) (mC (.int 5)))))
  (sRet (mTup [(mVar 3), (mVar 2), (mCall (fun ds => (C ._law_sum ds).calm) [(mCall (fun ds => (C ._law_drawn ds).calm) [(mVar 0), (mC (.int 2))]), (m2 dSub (mVarB 1) (mC (.int 1)))])])))))
/-! ### _law_numbers -/
abbrev st__law_numbers : Stmt := topS 24
abbrev N__law_numbers : List Str := ["number", "most", "found", "here", "k"]
theorem sc__law_numbers : FnScope N__law_numbers ["number", "most"] (defScope st__law_numbers) := ⟨by decide +kernel, by decide +kernel, by decide +kernel, by decide +kernel, by decide +kernel, by decide +kernel, by decide +kernel⟩
theorem v0__law_numbers_found : lk st__law_numbers "found" = some .local := by decide +kernel
theorem v__law_numbers_found : Vis (defScope st__law_numbers) "found" := .inl v0__law_numbers_found
theorem l__law_numbers_found : Loc (defScope st__law_numbers) "found" := .inl v0__law_numbers_found
theorem v0__law_numbers_here : lk st__law_numbers "here" = some .local := by decide +kernel
theorem v__law_numbers_here : Vis (defScope st__law_numbers) "here" := .inl v0__law_numbers_here
theorem l__law_numbers_here : Loc (defScope st__law_numbers) "here" := .inl v0__law_numbers_here
theorem v0__law_numbers_k : lk st__law_numbers "k" = some .local := by decide +kernel
theorem v__law_numbers_k : Vis (defScope st__law_numbers) "k" := .inl v0__law_numbers_k
theorem l__law_numbers_k : Loc (defScope st__law_numbers) "k" := .inl v0__law_numbers_k
theorem v0__law_numbers_most : lk st__law_numbers "most" = some .local := by decide +kernel
theorem v__law_numbers_most : Vis (defScope st__law_numbers) "most" := .inl v0__law_numbers_most
theorem l__law_numbers_most : Loc (defScope st__law_numbers) "most" := .inl v0__law_numbers_most
theorem v0__law_numbers_number : lk st__law_numbers "number" = some .local := by decide +kernel
theorem v__law_numbers_number : Vis (defScope st__law_numbers) "number" := .inl v0__law_numbers_number
theorem l__law_numbers_number : Loc (defScope st__law_numbers) "number" := .inl v0__law_numbers_number
theorem g__law_numbers_int : lk st__law_numbers "int" = some .globalImplicit := by decide +kernel
theorem g__law_numbers_range : lk st__law_numbers "range" = some .globalImplicit := by decide +kernel
noncomputable def m__law_numbers_b0 (C : Fn → List D → Res D) : MS :=
  (sSeq (sSet 2 (m2 dAdd (mVarB 2) (mTup [(mVar 3)])))
  (sSet 3 (m2 dAdd (m2 dAdd (mVarB 3) (mC (.int 1))) (m2 dMod (m2 dDiv (mVarB 0) (m2 dAdd (mC (.int 16)) (mVarB 4))) (mC (.int 3))))))
noncomputable def m__law_numbers (C : Fn → List D → Res D) : MS :=
  (sSeq (sSet 2 (mTup []))
  (sSeq (sSet 3 (m2 dIx (mTup [(m2 dSub (m2 dMod (mVarB 0) (mC (.int 5))) (mC (.int 3))), (m1 dNeg (mC (.int 50)))]) (m1 dInt (m2 dEq (m2 dMod (mVarB 0) (mC (.int 13))) (mC (.int 1))))))
  (sSeq (sFor (mRange1 (m2 dAdd (mC (.int 1)) (m2 dMod (m2 dDiv (mVarB 0) (mC (.int 5))) (mVarB 1)))) (bName 4) (m__law_numbers_b0 C))
  (sRet (mVar 2)))))
/-! ### _law_pick_step -/
abbrev st__law_pick_step : Stmt := topS 25
abbrev N__law_pick_step : List Str := ["number", "name", "wide", "some", "lots", "k", "part"]
theorem sc__law_pick_step : FnScope N__law_pick_step ["number", "name"] (defScope st__law_pick_step) := ⟨by decide +kernel, by decide +kernel, by decide +kernel, by decide +kernel, by decide +kernel, by decide +kernel, by decide +kernel⟩
theorem v0__law_pick_step_lots : lk st__law_pick_step "lots" = some .local := by decide +kernel
theorem v__law_pick_step_lots : Vis (defScope st__law_pick_step) "lots" := .inl v0__law_pick_step_lots
theorem l__law_pick_step_lots : Loc (defScope st__law_pick_step) "lots" := .inl v0__law_pick_step_lots
theorem v0__law_pick_step_name : lk st__law_pick_step "name" = some .local := by decide +kernel
theorem v__law_pick_step_name : Vis (defScope st__law_pick_step) "name" := .inl v0__law_pick_step_name
theorem l__law_pick_step_name : Loc (defScope st__law_pick_step) "name" := .inl v0__law_pick_step_name
theorem v0__law_pick_step_number : lk st__law_pick_step "number" = some .cell := by decide +kernel
theorem v__law_pick_step_number : Vis (defScope st__law_pick_step) "number" := .inr (.inl v0__law_pick_step_number)
theorem l__law_pick_step_number : Loc (defScope st__law_pick_step) "number" := .inr v0__law_pick_step_number
theorem v0__law_pick_step_some : lk st__law_pick_step "some" = some .local := by decide +kernel
theorem v__law_pick_step_some : Vis (defScope st__law_pick_step) "some" := .inl v0__law_pick_step_some
theorem l__law_pick_step_some : Loc (defScope st__law_pick_step) "some" := .inl v0__law_pick_step_some
theorem v0__law_pick_step_wide : lk st__law_pick_step "wide" = some .cell := by decide +kernel
theorem v__law_pick_step_wide : Vis (defScope st__law_pick_step) "wide" := .inr (.inl v0__law_pick_step_wide)
theorem l__law_pick_step_wide : Loc (defScope st__law_pick_step) "wide" := .inr v0__law_pick_step_wide
theorem g__law_pick_step__law_numbers : lk st__law_pick_step "_law_numbers" = some .globalImplicit := by decide +kernel
theorem g__law_pick_step_enumerate : lk st__law_pick_step "enumerate" = some .globalImplicit := by decide +kernel
theorem g__law_pick_step_int : lk st__law_pick_step "int" = some .globalImplicit := by decide +kernel
theorem g__law_pick_step_tuple : lk st__law_pick_step "tuple" = some .globalImplicit := by decide +kernel
noncomputable def m__law_pick_step_c0 (C : Fn → List D → Res D) : ME :=
  (mLc (mEnum (mVar 3)) (bTup [5, 6]) mYes (mTup [(mVar 6), (m2 dAdd (mC (.int 1)) (m2 dMod (m2 dDiv (mVarB 0) (m2 dAdd (mC (.int 32)) (mVarB 5))) (m2 dAdd (mC (.int 4)) (m2 dMulA (mC (.int 5)) (mVarB 2)))))]) [5, 6])
noncomputable def m__law_pick_step (C : Fn → List D → Res D) : MS :=
  (sSeq (sSet 2 (m1 dInt (m2 dEq (m2 dMod (m2 dDiv (mVarB 0) (mC (.int 7))) (mC (.int 9))) (mC (.int 1)))))
  (sSeq (sIf (mTest (m2 dLt (m2 dMod (mVarB 0) (mC (.int 5))) (mC (.int 2)))) (sSeq (sSet 3 (mCall (fun ds => (C ._law_numbers ds).calm) [(m2 dDiv (mVarB 0) (mC (.int 8))), (m2 dAdd (mC (.int 3)) (m2 dMulA (mC (.int 2)) (mVarB 2)))]))
  (sSeq (sSet 4 (m__law_pick_step_c0 C))
  (sRet (mTup [(mC (.str "draw")), (mVar 1), (m1 dTuple (mVarB 4))])))) sNil)
  (sRet (mTup [(mC (.str "ask")), (m2 dMod (m2 dDiv (mVarB 0) (mC (.int 4))) (mC (.int 2))), (mVar 1), (mCall (fun ds => (C ._law_numbers ds).calm) [(m2 dDiv (mVarB 0) (mC (.int 8))), (m2 dAdd (mC (.int 3)) (mVarB 2))])]))))
/-! ### _law_steps -/
abbrev st__law_steps : Stmt := topS 26
abbrev N__law_steps : List Str := ["number", "many", "deep", "room", "found", "left", "k", "drawn", "kind", "name", "one", "other"]
theorem sc__law_steps : FnScope N__law_steps ["number", "many", "deep", "room"] (defScope st__law_steps) := ⟨by decide +kernel, by decide +kernel, by decide +kernel, by decide +kernel, by decide +kernel, by decide +kernel, by decide +kernel⟩
theorem v0__law_steps_deep : lk st__law_steps "deep" = some .local := by decide +kernel
theorem v__law_steps_deep : Vis (defScope st__law_steps) "deep" := .inl v0__law_steps_deep
theorem l__law_steps_deep : Loc (defScope st__law_steps) "deep" := .inl v0__law_steps_deep
theorem v0__law_steps_drawn : lk st__law_steps "drawn" = some .local := by decide +kernel
theorem v__law_steps_drawn : Vis (defScope st__law_steps) "drawn" := .inl v0__law_steps_drawn
theorem l__law_steps_drawn : Loc (defScope st__law_steps) "drawn" := .inl v0__law_steps_drawn
theorem v0__law_steps_found : lk st__law_steps "found" = some .local := by decide +kernel
theorem v__law_steps_found : Vis (defScope st__law_steps) "found" := .inl v0__law_steps_found
theorem l__law_steps_found : Loc (defScope st__law_steps) "found" := .inl v0__law_steps_found
theorem v0__law_steps_k : lk st__law_steps "k" = some .local := by decide +kernel
theorem v__law_steps_k : Vis (defScope st__law_steps) "k" := .inl v0__law_steps_k
theorem l__law_steps_k : Loc (defScope st__law_steps) "k" := .inl v0__law_steps_k
theorem v0__law_steps_kind : lk st__law_steps "kind" = some .local := by decide +kernel
theorem v__law_steps_kind : Vis (defScope st__law_steps) "kind" := .inl v0__law_steps_kind
theorem l__law_steps_kind : Loc (defScope st__law_steps) "kind" := .inl v0__law_steps_kind
theorem v0__law_steps_left : lk st__law_steps "left" = some .local := by decide +kernel
theorem v__law_steps_left : Vis (defScope st__law_steps) "left" := .inl v0__law_steps_left
theorem l__law_steps_left : Loc (defScope st__law_steps) "left" := .inl v0__law_steps_left
theorem v0__law_steps_many : lk st__law_steps "many" = some .local := by decide +kernel
theorem v__law_steps_many : Vis (defScope st__law_steps) "many" := .inl v0__law_steps_many
theorem l__law_steps_many : Loc (defScope st__law_steps) "many" := .inl v0__law_steps_many
theorem v0__law_steps_name : lk st__law_steps "name" = some .local := by decide +kernel
theorem v__law_steps_name : Vis (defScope st__law_steps) "name" := .inl v0__law_steps_name
theorem l__law_steps_name : Loc (defScope st__law_steps) "name" := .inl v0__law_steps_name
theorem v0__law_steps_number : lk st__law_steps "number" = some .local := by decide +kernel
theorem v__law_steps_number : Vis (defScope st__law_steps) "number" := .inl v0__law_steps_number
theorem l__law_steps_number : Loc (defScope st__law_steps) "number" := .inl v0__law_steps_number
theorem v0__law_steps_one : lk st__law_steps "one" = some .local := by decide +kernel
theorem v__law_steps_one : Vis (defScope st__law_steps) "one" := .inl v0__law_steps_one
theorem l__law_steps_one : Loc (defScope st__law_steps) "one" := .inl v0__law_steps_one
theorem v0__law_steps_other : lk st__law_steps "other" = some .local := by decide +kernel
theorem v__law_steps_other : Vis (defScope st__law_steps) "other" := .inl v0__law_steps_other
theorem l__law_steps_other : Loc (defScope st__law_steps) "other" := .inl v0__law_steps_other
theorem v0__law_steps_room : lk st__law_steps "room" = some .local := by decide +kernel
theorem v__law_steps_room : Vis (defScope st__law_steps) "room" := .inl v0__law_steps_room
theorem l__law_steps_room : Loc (defScope st__law_steps) "room" := .inl v0__law_steps_room
theorem g__law_steps__law_drawn : lk st__law_steps "_law_drawn" = some .globalImplicit := by decide +kernel
theorem g__law_steps__law_pick_step : lk st__law_steps "_law_pick_step" = some .globalImplicit := by decide +kernel
theorem g__law_steps__law_steps : lk st__law_steps "_law_steps" = some .globalImplicit := by decide +kernel
theorem g__law_steps__law_sum : lk st__law_steps "_law_sum" = some .globalImplicit := by decide +kernel
theorem g__law_steps_range : lk st__law_steps "range" = some .globalImplicit := by decide +kernel
noncomputable def m__law_steps_b0 (C : Fn → List D → Res D) : MS :=
  (sSeq (sSet 7 (mCall (fun ds => (C ._law_drawn ds).calm) [(mVar 0), (mVar 6)]))
  (sSeq (sSet 8 (m2 dMod (mVarB 7) (mC (.int 9))))
  (sSeq (sSet 9 (m2 dIx (mC (.str "abcd")) (m2 dMod (m2 dDiv (mVarB 7) (mC (.int 9))) (mC (.int 4)))))
  (sIf (mAnd (mTest (m2 dLt (mVarB 8) (mC (.int 5)))) (mTest (m2 dGt (mVarB 5) (mC (.int 0))))) (sSeq (sSet 4 (m2 dAdd (mVarB 4) (mTup [(mCall (fun ds => (C ._law_pick_step ds).calm) [(m2 dDiv (mVarB 7) (mC (.int 9))), (mVar 9)])])))
  (sSet 5 (m2 dSub (mVarB 5) (mC (.int 1))))) (sIf (mAnd (mTest (m2 dEq (mVarB 8) (mC (.int 7)))) (mTest (m2 dGt (mVarB 2) (mC (.int 0))))) (sSeq (sSet 10 (mCall (fun ds => (C ._law_steps ds).calm) [(mCall (fun ds => (C ._law_drawn ds).calm) [(mVar 7), (mC (.int 1))]), (m2 dAdd (mC (.int 1)) (m2 dMod (m2 dDiv (mVarB 7) (mC (.int 36))) (mC (.int 3)))), (m2 dSub (mVarB 2) (mC (.int 1))), (m2 dDiv (mVarB 5) (mC (.int 2)))]))
  (sSeq (sSet 11 (mCall (fun ds => (C ._law_steps ds).calm) [(mCall (fun ds => (C ._law_drawn ds).calm) [(mVar 7), (mC (.int 2))]), (m2 dMod (m2 dDiv (mVarB 7) (mC (.int 108))) (mC (.int 3))), (m2 dSub (mVarB 2) (mC (.int 1))), (m2 dDiv (mVarB 5) (mC (.int 2)))]))
  (sSeq (sSet 4 (m2 dAdd (mVarB 4) (mTup [(mTup [(mC (.str "if")), (mCall (fun ds => (C ._law_sum ds).calm) [(m2 dDiv (mVarB 7) (mC (.int 9))), (mC (.int 2))]), (mVar 10), (mVar 11)])])))
  (sSet 5 (m2 dSub (mVarB 5) (m2 dDiv (mVarB 5) (mC (.int 2)))))))) (sIf (mTest (m2 dEq (mVarB 8) (mC (.int 8)))) (sSet 4 (m2 dAdd (mVarB 4) (mTup [(mTup [(mC (.str "keep")), (mVar 9), (mCall (fun ds => (C ._law_sum ds).calm) [(m2 dDiv (mVarB 7) (mC (.int 9))), (mC (.int 2))])])]))) (sSet 4 (m2 dAdd (mVarB 4) (mTup [(mTup [(mC (.str "show")), (mVar 9), (m2 dMod (m2 dDiv (mVarB 7) (mC (.int 36))) (mC (.int 2)))])])))))))))
noncomputable def m__law_steps (C : Fn → List D → Res D) : MS :=
  (sSeq (sSet 4 (mTup []))
  (sSeq (sSet 5 (mVar 3))
  (sSeq (sFor (mRange1 (mVar 1)) (bName 6) (m__law_steps_b0 C))
  (sSeq (sIf (mTest (m2 dGt (m2 dMod (mVarB 0) (mC (.int 4))) (mC (.int 0)))) (sSet 4 (m2 dAdd (mVarB 4) (mTup [(mTup [(mC (.str "pay")), (mCall (fun ds => (C ._law_sum ds).calm) [(m2 dDiv (mVarB 0) (mC (.int 4))), (mC (.int 3))])])]))) sNil)
  (sRet (mVar 4))))))
/-! ### _law_cards -/
abbrev st__law_cards : Stmt := topS 27
abbrev N__law_cards : List Str := ["number", "lots", "steps", "last", "pay", "part"]
theorem sc__law_cards : FnScope N__law_cards ["number"] (defScope st__law_cards) := ⟨by decide +kernel, by decide +kernel, by decide +kernel, by decide +kernel, by decide +kernel, by decide +kernel, by decide +kernel⟩
theorem v0__law_cards_last : lk st__law_cards "last" = some .local := by decide +kernel
theorem v__law_cards_last : Vis (defScope st__law_cards) "last" := .inl v0__law_cards_last
theorem l__law_cards_last : Loc (defScope st__law_cards) "last" := .inl v0__law_cards_last
theorem v0__law_cards_lots : lk st__law_cards "lots" = some .local := by decide +kernel
theorem v__law_cards_lots : Vis (defScope st__law_cards) "lots" := .inl v0__law_cards_lots
theorem l__law_cards_lots : Loc (defScope st__law_cards) "lots" := .inl v0__law_cards_lots
theorem v0__law_cards_number : lk st__law_cards "number" = some .cell := by decide +kernel
theorem v__law_cards_number : Vis (defScope st__law_cards) "number" := .inr (.inl v0__law_cards_number)
theorem l__law_cards_number : Loc (defScope st__law_cards) "number" := .inr v0__law_cards_number
theorem v0__law_cards_pay : lk st__law_cards "pay" = some .local := by decide +kernel
theorem v__law_cards_pay : Vis (defScope st__law_cards) "pay" := .inl v0__law_cards_pay
theorem l__law_cards_pay : Loc (defScope st__law_cards) "pay" := .inl v0__law_cards_pay
theorem v0__law_cards_steps : lk st__law_cards "steps" = some .local := by decide +kernel
theorem v__law_cards_steps : Vis (defScope st__law_cards) "steps" := .inl v0__law_cards_steps
theorem l__law_cards_steps : Loc (defScope st__law_cards) "steps" := .inl v0__law_cards_steps
theorem g__law_cards__law_sum : lk st__law_cards "_law_sum" = some .globalImplicit := by decide +kernel
theorem g__law_cards_range : lk st__law_cards "range" = some .globalImplicit := by decide +kernel
theorem g__law_cards_tuple : lk st__law_cards "tuple" = some .globalImplicit := by decide +kernel
noncomputable def m__law_cards_c0 (C : Fn → List D → Res D) : ME :=
  (mLc (mRange1 (m2 dAdd (mC (.int 2)) (m2 dMod (mVarB 0) (mC (.int 2))))) (bName 5) mYes (mTup [(mVar 5), (m2 dAdd (mC (.int 1)) (m2 dMod (m2 dDiv (mVarB 0) (m2 dAdd (mC (.int 7)) (mVarB 5))) (mC (.int 3))))]) [5])
noncomputable def m__law_cards (C : Fn → List D → Res D) : MS :=
  (sSeq (sSet 1 (m1 dTuple (m__law_cards_c0 C)))
  (sSeq (sSet 2 (mTup [(mTup [(mC (.str "draw")), (mC (.str "c")), (mVar 1)]), (mTup [(mC (.str "show")), (mC (.str "c")), (mC (.int 0))]), (mTup [(mC (.str "ask")), (mC (.int 0)), (mC (.str "a")), (mTup [(mC (.int 0)), (mC (.int 1))])]), (mTup [(mC (.str "show")), (mC (.str "a")), (m2 dMod (m2 dDiv (mVarB 0) (mC (.int 2))) (mC (.int 2)))])]))
  (sSeq (sSet 3 (mTup [(mTup [(mC (.str "ask")), (mC (.int 1)), (mC (.str "b")), (mTup [(mC (.int 0)), (mC (.int 1))])])]))
  (sSeq (sIf (mTest (m2 dEq (m2 dMod (m2 dDiv (mVarB 0) (mC (.int 4))) (mC (.int 2))) (mC (.int 1)))) (sSet 3 (mTup [(mTup [(mC (.str "if")), (mC (.str "a")), (mVar 3), (mTup [(mTup [(mC (.str "pay")), (mC (.int 1))])])])])) sNil)
  (sSeq (sSet 4 (mTup [(mC (.str "times")), (mTup [(mC (.str "less")), (mTup [(mC (.str "plus")), (mC (.str "a")), (mC (.int 1))]), (mC (.str "b"))]), (mTup [(mC (.str "less")), (mTup [(mC (.str "times")), (mC (.int 2)), (mC (.str "c"))]), (mC (.int 1))])]))
  (sRet (m2 dAdd (m2 dAdd (mVarB 2) (mVarB 3)) (mTup [(mTup [(mC (.str "pay")), (m2 dIx (mLst [(mVar 4), (mCall (fun ds => (C ._law_sum ds).calm) [(m2 dDiv (mVarB 0) (mC (.int 8))), (mC (.int 3))])]) (m2 dMod (m2 dDiv (mVarB 0) (mC (.int 16))) (mC (.int 2))))])]))))))))
/-! ### _law_sheet -/
abbrev st__law_sheet : Stmt := topS 28
abbrev N__law_sheet : List Str := ["number", "many", "asks"]
theorem sc__law_sheet : FnScope N__law_sheet ["number"] (defScope st__law_sheet) := ⟨by decide +kernel, by decide +kernel, by decide +kernel, by decide +kernel, by decide +kernel, by decide +kernel, by decide +kernel⟩
theorem v0__law_sheet_asks : lk st__law_sheet "asks" = some .local := by decide +kernel
theorem v__law_sheet_asks : Vis (defScope st__law_sheet) "asks" := .inl v0__law_sheet_asks
theorem l__law_sheet_asks : Loc (defScope st__law_sheet) "asks" := .inl v0__law_sheet_asks
theorem v0__law_sheet_many : lk st__law_sheet "many" = some .local := by decide +kernel
theorem v__law_sheet_many : Vis (defScope st__law_sheet) "many" := .inl v0__law_sheet_many
theorem l__law_sheet_many : Loc (defScope st__law_sheet) "many" := .inl v0__law_sheet_many
theorem v0__law_sheet_number : lk st__law_sheet "number" = some .local := by decide +kernel
theorem v__law_sheet_number : Vis (defScope st__law_sheet) "number" := .inl v0__law_sheet_number
theorem l__law_sheet_number : Loc (defScope st__law_sheet) "number" := .inl v0__law_sheet_number
theorem g__law_sheet__law_cards : lk st__law_sheet "_law_cards" = some .globalImplicit := by decide +kernel
theorem g__law_sheet__law_drawn : lk st__law_sheet "_law_drawn" = some .globalImplicit := by decide +kernel
theorem g__law_sheet__law_numbers : lk st__law_sheet "_law_numbers" = some .globalImplicit := by decide +kernel
theorem g__law_sheet__law_steps : lk st__law_sheet "_law_steps" = some .globalImplicit := by decide +kernel
theorem g__law_sheet__law_sum : lk st__law_sheet "_law_sum" = some .globalImplicit := by decide +kernel
theorem g__law_sheet_int : lk st__law_sheet "int" = some .globalImplicit := by decide +kernel
noncomputable def m__law_sheet (C : Fn → List D → Res D) : MS :=
  (sSeq (sIf (mTest (m2 dEq (m2 dMod (mVarB 0) (mC (.int 4))) (mC (.int 0)))) (sRet (mCall (fun ds => (C ._law_cards ds).calm) [(m2 dDiv (mVarB 0) (mC (.int 4)))])) sNil)
  (sSeq (sIf (mTest (m2 dEq (m2 dMod (mVarB 0) (mC (.int 4))) (mC (.int 1)))) (sSeq (sSet 2 (mTup [(mTup [(mC (.str "ask")), (mC (.int 0)), (mC (.str "a")), (mCall (fun ds => (C ._law_numbers ds).calm) [(m2 dDiv (mVarB 0) (mC (.int 4))), (mC (.int 3))])]), (mTup [(mC (.str "ask")), (mC (.int 1)), (mC (.str "b")), (mCall (fun ds => (C ._law_numbers ds).calm) [(m2 dDiv (mVarB 0) (mC (.int 64))), (mC (.int 3))])])]))
  (sRet (m2 dAdd (mVarB 2) (mTup [(mTup [(mC (.str "pay")), (mCall (fun ds => (C ._law_sum ds).calm) [(mCall (fun ds => (C ._law_drawn ds).calm) [(mVar 0), (mC (.int 3))]), (mC (.int 3))])])])))) sNil)
  (sSeq (sSet 1 (m2 dIx (mTup [(m2 dAdd (mC (.int 3)) (m2 dMod (m2 dDiv (mVarB 0) (mC (.int 4))) (mC (.int 4)))), (mC (.int 11))]) (m1 dInt (m2 dEq (m2 dMod (m2 dDiv (mVarB 0) (mC (.int 16))) (mC (.int 6))) (mC (.int 1))))))
  (sRet (mCall (fun ds => (C ._law_steps ds).calm) [(m2 dDiv (mVarB 0) (mC (.int 4))), (mVar 1), (m2 dAdd (mC (.int 2)) (m2 dMulA (mC (.int 3)) (m1 dInt (m2 dEq (m2 dMod (m2 dDiv (mVarB 0) (mC (.int 96))) (mC (.int 4))) (mC (.int 1)))))), (mC (.int 4))])))))
/-! ### _law_whole -/
abbrev st__law_whole : Stmt := topS 29
abbrev N__law_whole : List Str := ["thing", "low", "high"]
theorem sc__law_whole : FnScope N__law_whole ["thing", "low", "high"] (defScope st__law_whole) := ⟨by decide +kernel, by decide +kernel, by decide +kernel, by decide +kernel, by decide +kernel, by decide +kernel, by decide +kernel⟩
theorem v0__law_whole_high : lk st__law_whole "high" = some .local := by decide +kernel
theorem v__law_whole_high : Vis (defScope st__law_whole) "high" := .inl v0__law_whole_high
theorem l__law_whole_high : Loc (defScope st__law_whole) "high" := .inl v0__law_whole_high
theorem v0__law_whole_low : lk st__law_whole "low" = some .local := by decide +kernel
theorem v__law_whole_low : Vis (defScope st__law_whole) "low" := .inl v0__law_whole_low
theorem l__law_whole_low : Loc (defScope st__law_whole) "low" := .inl v0__law_whole_low
theorem v0__law_whole_thing : lk st__law_whole "thing" = some .local := by decide +kernel
theorem v__law_whole_thing : Vis (defScope st__law_whole) "thing" := .inl v0__law_whole_thing
theorem l__law_whole_thing : Loc (defScope st__law_whole) "thing" := .inl v0__law_whole_thing
theorem g__law_whole_bool : lk st__law_whole "bool" = some .globalImplicit := by decide +kernel
theorem g__law_whole_int : lk st__law_whole "int" = some .globalImplicit := by decide +kernel
theorem g__law_whole_isinstance : lk st__law_whole "isinstance" = some .globalImplicit := by decide +kernel
noncomputable def m__law_whole (C : Fn → List D → Res D) : MS :=
  (sRet (mAndV (m1 (dIsi "int") (mVarB 0)) (mAndV (mNotV (m1 (dIsi "bool") (mVarB 0))) (mChain dLe dLe (mVarB 1) (mVarB 0) (mVarB 2)))))
/-! ### _law_is_name -/
abbrev st__law_is_name : Stmt := topS 30
abbrev N__law_is_name : List Str := ["thing", "sign"]
theorem sc__law_is_name : FnScope N__law_is_name ["thing"] (defScope st__law_is_name) := ⟨by decide +kernel, by decide +kernel, by decide +kernel, by decide +kernel, by decide +kernel, by decide +kernel, by decide +kernel⟩
theorem v0__law_is_name_thing : lk st__law_is_name "thing" = some .local := by decide +kernel
theorem v__law_is_name_thing : Vis (defScope st__law_is_name) "thing" := .inl v0__law_is_name_thing
theorem l__law_is_name_thing : Loc (defScope st__law_is_name) "thing" := .inl v0__law_is_name_thing
theorem g__law_is_name_isinstance : lk st__law_is_name "isinstance" = some .globalImplicit := by decide +kernel
theorem g__law_is_name_len : lk st__law_is_name "len" = some .globalImplicit := by decide +kernel
theorem g__law_is_name_str : lk st__law_is_name "str" = some .globalImplicit := by decide +kernel
noncomputable def m__law_is_name_c0 (C : Fn → List D → Res D) : ME :=
  (mLc (mItems (mVar 0)) (bName 1) (mTest (m2 dLt (mM1 dFind (mC (.str "abcdefghijklmnopqrstuvwxyz")) (mVarB 1)) (mC (.int 0)))) (mVar 1) [1])
noncomputable def m__law_is_name (C : Fn → List D → Res D) : MS :=
  (sSeq (sIf (mOr (mNot (mTest (m1 (dIsi "str") (mVarB 0)))) (mOr (mNot (mTest (mChain dLe dLe (mC (.int 1)) (m1 dLen (mVarB 0)) (mC (.int 3))))) (mTest (m2 dIn (mVarB 0) (mTup [(mC (.str "ask")), (mC (.str "if")), (mC (.str "pay"))]))))) (sRet (mC (.bl false))) sNil)
  (sRet (m2 dEq (m__law_is_name_c0 C) (mLst []))))
/-! ### _law_is_sum -/
abbrev st__law_is_sum : Stmt := topS 31
abbrev N__law_is_sum : List Str := ["thing", "deep"]
theorem sc__law_is_sum : FnScope N__law_is_sum ["thing", "deep"] (defScope st__law_is_sum) := ⟨by decide +kernel, by decide +kernel, by decide +kernel, by decide +kernel, by decide +kernel, by decide +kernel, by decide +kernel⟩
theorem v0__law_is_sum_deep : lk st__law_is_sum "deep" = some .local := by decide +kernel
theorem v__law_is_sum_deep : Vis (defScope st__law_is_sum) "deep" := .inl v0__law_is_sum_deep
theorem l__law_is_sum_deep : Loc (defScope st__law_is_sum) "deep" := .inl v0__law_is_sum_deep
theorem v0__law_is_sum_thing : lk st__law_is_sum "thing" = some .local := by decide +kernel
theorem v__law_is_sum_thing : Vis (defScope st__law_is_sum) "thing" := .inl v0__law_is_sum_thing
theorem l__law_is_sum_thing : Loc (defScope st__law_is_sum) "thing" := .inl v0__law_is_sum_thing
theorem g__law_is_sum__law_is_name : lk st__law_is_sum "_law_is_name" = some .globalImplicit := by decide +kernel
theorem g__law_is_sum__law_is_sum : lk st__law_is_sum "_law_is_sum" = some .globalImplicit := by decide +kernel
theorem g__law_is_sum__law_whole : lk st__law_is_sum "_law_whole" = some .globalImplicit := by decide +kernel
theorem g__law_is_sum_isinstance : lk st__law_is_sum "isinstance" = some .globalImplicit := by decide +kernel
theorem g__law_is_sum_len : lk st__law_is_sum "len" = some .globalImplicit := by decide +kernel
theorem g__law_is_sum_tuple : lk st__law_is_sum "tuple" = some .globalImplicit := by decide +kernel
noncomputable def m__law_is_sum (C : Fn → List D → Res D) : MS :=
  (sSeq (sIf (mOr (mTest (mCall (fun ds => (C ._law_whole ds).calm) [(mVar 0), (m1 dNeg (mC (.int 50))), (mC (.int 50))])) (mTest (mCall (fun ds => (C ._law_is_name ds).calm) [(mVar 0)]))) (sRet (mC (.bl true))) sNil)
  (sSeq (sIf (mOr (mTest (m2 dEq (mVarB 1) (mC (.int 0)))) (mOr (mNot (mTest (m1 (dIsi "tuple") (mVarB 0)))) (mTest (m2 dNe (m1 dLen (mVarB 0)) (mC (.int 3)))))) (sRet (mC (.bl false))) sNil)
  (sSeq (sIf (mTest (m2 dNotIn (m2 dIx (mVarB 0) (mC (.int 0))) (mTup [(mC (.str "plus")), (mC (.str "less")), (mC (.str "times")), (mC (.str "under")), (mC (.str "alike"))]))) (sRet (mC (.bl false))) sNil)
  (sRet (mAndV (mCall (fun ds => (C ._law_is_sum ds).calm) [(m2 dIx (mVarB 0) (mC (.int 1))), (m2 dSub (mVarB 1) (mC (.int 1)))]) (mCall (fun ds => (C ._law_is_sum ds).calm) [(m2 dIx (mVarB 0) (mC (.int 2))), (m2 dSub (mVarB 1) (mC (.int 1)))]))))))
/-! ### _law_rises -/
abbrev st__law_rises : Stmt := topS 32
abbrev N__law_rises : List Str := ["row", "k"]
theorem sc__law_rises : FnScope N__law_rises ["row"] (defScope st__law_rises) := ⟨by decide +kernel, by decide +kernel, by decide +kernel, by decide +kernel, by decide +kernel, by decide +kernel, by decide +kernel⟩
theorem v0__law_rises_row : lk st__law_rises "row" = some .cell := by decide +kernel
theorem v__law_rises_row : Vis (defScope st__law_rises) "row" := .inr (.inl v0__law_rises_row)
theorem l__law_rises_row : Loc (defScope st__law_rises) "row" := .inr v0__law_rises_row
theorem g__law_rises_len : lk st__law_rises "len" = some .globalImplicit := by decide +kernel
theorem g__law_rises_range : lk st__law_rises "range" = some .globalImplicit := by decide +kernel
noncomputable def m__law_rises_c0 (C : Fn → List D → Res D) : ME :=
  (mLc (mRange2 (mC (.int 1)) (m1 dLen (mVarB 0))) (bName 1) (mTest (m2 dGe (m2 dIx (mVarB 0) (m2 dSub (mVarB 1) (mC (.int 1)))) (m2 dIx (mVarB 0) (mVarB 1)))) (mVar 1) [1])
noncomputable def m__law_rises (C : Fn → List D → Res D) : MS :=
  (sRet (m2 dEq (m__law_rises_c0 C) (mLst [])))
/-! ### _law_are_options -/
abbrev st__law_are_options : Stmt := topS 33
abbrev N__law_are_options : List Str := ["thing", "most", "part"]
theorem sc__law_are_options : FnScope N__law_are_options ["thing", "most"] (defScope st__law_are_options) := ⟨by decide +kernel, by decide +kernel, by decide +kernel, by decide +kernel, by decide +kernel, by decide +kernel, by decide +kernel⟩
theorem v0__law_are_options_most : lk st__law_are_options "most" = some .local := by decide +kernel
theorem v__law_are_options_most : Vis (defScope st__law_are_options) "most" := .inl v0__law_are_options_most
theorem l__law_are_options_most : Loc (defScope st__law_are_options) "most" := .inl v0__law_are_options_most
theorem v0__law_are_options_thing : lk st__law_are_options "thing" = some .local := by decide +kernel
theorem v__law_are_options_thing : Vis (defScope st__law_are_options) "thing" := .inl v0__law_are_options_thing
theorem l__law_are_options_thing : Loc (defScope st__law_are_options) "thing" := .inl v0__law_are_options_thing
theorem g__law_are_options__law_rises : lk st__law_are_options "_law_rises" = some .globalImplicit := by decide +kernel
theorem g__law_are_options_isinstance : lk st__law_are_options "isinstance" = some .globalImplicit := by decide +kernel
theorem g__law_are_options_len : lk st__law_are_options "len" = some .globalImplicit := by decide +kernel
theorem g__law_are_options_tuple : lk st__law_are_options "tuple" = some .globalImplicit := by decide +kernel
noncomputable def m__law_are_options_c0 (C : Fn → List D → Res D) : ME :=
  (mLc (mItems (mVar 0)) (bName 2) (mNot (mTest (mCall (fun ds => (C ._law_whole ds).calm) [(mVar 2), (m1 dNeg (mC (.int 50))), (mC (.int 50))]))) (mVar 2) [2])
noncomputable def m__law_are_options (C : Fn → List D → Res D) : MS :=
  (sSeq (sIf (mOr (mNot (mTest (m1 (dIsi "tuple") (mVarB 0)))) (mNot (mTest (mChain dLe dLe (mC (.int 1)) (m1 dLen (mVarB 0)) (mVarB 1))))) (sRet (mC (.bl false))) sNil)
  (sRet (mAndV (m2 dEq (m__law_are_options_c0 C) (mLst [])) (mCall (fun ds => (C ._law_rises ds).calm) [(mVar 0)]))))
/-! ### _law_are_lots -/
abbrev st__law_are_lots : Stmt := topS 34
abbrev N__law_are_lots : List Str := ["thing", "lot"]
theorem sc__law_are_lots : FnScope N__law_are_lots ["thing"] (defScope st__law_are_lots) := ⟨by decide +kernel, by decide +kernel, by decide +kernel, by decide +kernel, by decide +kernel, by decide +kernel, by decide +kernel⟩
theorem v0__law_are_lots_thing : lk st__law_are_lots "thing" = some .local := by decide +kernel
theorem v__law_are_lots_thing : Vis (defScope st__law_are_lots) "thing" := .inl v0__law_are_lots_thing
theorem l__law_are_lots_thing : Loc (defScope st__law_are_lots) "thing" := .inl v0__law_are_lots_thing
theorem g__law_are_lots__law_are_options : lk st__law_are_lots "_law_are_options" = some .globalImplicit := by decide +kernel
theorem g__law_are_lots_isinstance : lk st__law_are_lots "isinstance" = some .globalImplicit := by decide +kernel
theorem g__law_are_lots_tuple : lk st__law_are_lots "tuple" = some .globalImplicit := by decide +kernel
noncomputable def m__law_are_lots_c0 (C : Fn → List D → Res D) : ME :=
  (mLc (mItems (mVar 0)) (bName 1) (mOr (mNot (mTest (m1 (dIsi "tuple") (mVarB 1)))) (mTest (m2 dNe (m1 dLen (mVarB 1)) (mC (.int 2))))) (mVar 1) [1])
noncomputable def m__law_are_lots_c1 (C : Fn → List D → Res D) : ME :=
  (mLc (mItems (mVar 0)) (bName 1) (mNot (mTest (mCall (fun ds => (C ._law_whole ds).calm) [(m2 dIx (mVarB 1) (mC (.int 1))), (mC (.int 1)), (mC (.int 9))]))) (mVar 1) [1])
noncomputable def m__law_are_lots_c2 (C : Fn → List D → Res D) : ME :=
  (mLc (mItems (mVar 0)) (bName 1) mYes (m2 dIx (mVarB 1) (mC (.int 0))) [1])
noncomputable def m__law_are_lots (C : Fn → List D → Res D) : MS :=
  (sSeq (sIf (mOr (mNot (mTest (m1 (dIsi "tuple") (mVarB 0)))) (mTest (m2 dNe (m__law_are_lots_c0 C) (mLst [])))) (sRet (mC (.bl false))) sNil)
  (sSeq (sIf (mTest (m2 dNe (m__law_are_lots_c1 C) (mLst []))) (sRet (mC (.bl false))) sNil)
  (sRet (mCall (fun ds => (C ._law_are_options ds).calm) [(m1 dTuple (m__law_are_lots_c2 C)), (mC (.int 5))]))))
/-! ### _law_is_step -/
abbrev st__law_is_step : Stmt := topS 35
abbrev N__law_is_step : List Str := ["thing", "deep"]
theorem sc__law_is_step : FnScope N__law_is_step ["thing", "deep"] (defScope st__law_is_step) := ⟨by decide +kernel, by decide +kernel, by decide +kernel, by decide +kernel, by decide +kernel, by decide +kernel, by decide +kernel⟩
theorem v0__law_is_step_deep : lk st__law_is_step "deep" = some .local := by decide +kernel
theorem v__law_is_step_deep : Vis (defScope st__law_is_step) "deep" := .inl v0__law_is_step_deep
theorem l__law_is_step_deep : Loc (defScope st__law_is_step) "deep" := .inl v0__law_is_step_deep
theorem v0__law_is_step_thing : lk st__law_is_step "thing" = some .local := by decide +kernel
theorem v__law_is_step_thing : Vis (defScope st__law_is_step) "thing" := .inl v0__law_is_step_thing
theorem l__law_is_step_thing : Loc (defScope st__law_is_step) "thing" := .inl v0__law_is_step_thing
theorem g__law_is_step__law_are_lots : lk st__law_is_step "_law_are_lots" = some .globalImplicit := by decide +kernel
theorem g__law_is_step__law_are_options : lk st__law_is_step "_law_are_options" = some .globalImplicit := by decide +kernel
theorem g__law_is_step__law_is_name : lk st__law_is_step "_law_is_name" = some .globalImplicit := by decide +kernel
theorem g__law_is_step__law_is_sheet : lk st__law_is_step "_law_is_sheet" = some .globalImplicit := by decide +kernel
theorem g__law_is_step__law_is_sum : lk st__law_is_step "_law_is_sum" = some .globalImplicit := by decide +kernel
theorem g__law_is_step__law_whole : lk st__law_is_step "_law_whole" = some .globalImplicit := by decide +kernel
theorem g__law_is_step_isinstance : lk st__law_is_step "isinstance" = some .globalImplicit := by decide +kernel
theorem g__law_is_step_len : lk st__law_is_step "len" = some .globalImplicit := by decide +kernel
theorem g__law_is_step_tuple : lk st__law_is_step "tuple" = some .globalImplicit := by decide +kernel
noncomputable def m__law_is_step (C : Fn → List D → Res D) : MS :=
  (sSeq (sIf (mOr (mNot (mTest (m1 (dIsi "tuple") (mVarB 0)))) (mTest (m2 dEq (m1 dLen (mVarB 0)) (mC (.int 0))))) (sRet (mC (.bl false))) sNil)
  (sSeq (sIf (mTest (m2 dEq (m2 dIx (mVarB 0) (mC (.int 0))) (mC (.str "draw")))) (sRet (mAndV (m2 dEq (m1 dLen (mVarB 0)) (mC (.int 3))) (mAndV (mCall (fun ds => (C ._law_is_name ds).calm) [(m2 dIx (mVarB 0) (mC (.int 1)))]) (mCall (fun ds => (C ._law_are_lots ds).calm) [(m2 dIx (mVarB 0) (mC (.int 2)))])))) sNil)
  (sSeq (sIf (mTest (m2 dEq (m2 dIx (mVarB 0) (mC (.int 0))) (mC (.str "show")))) (sRet (mAndV (m2 dEq (m1 dLen (mVarB 0)) (mC (.int 3))) (mAndV (mCall (fun ds => (C ._law_is_name ds).calm) [(m2 dIx (mVarB 0) (mC (.int 1)))]) (mCall (fun ds => (C ._law_whole ds).calm) [(m2 dIx (mVarB 0) (mC (.int 2))), (mC (.int 0)), (mC (.int 1))])))) sNil)
  (sSeq (sIf (mTest (m2 dEq (m2 dIx (mVarB 0) (mC (.int 0))) (mC (.str "ask")))) (sSeq (sIf (mOr (mTest (m2 dNe (m1 dLen (mVarB 0)) (mC (.int 4)))) (mNot (mTest (mCall (fun ds => (C ._law_whole ds).calm) [(m2 dIx (mVarB 0) (mC (.int 1))), (mC (.int 0)), (mC (.int 1))])))) (sRet (mC (.bl false))) sNil)
  (sRet (mAndV (mCall (fun ds => (C ._law_is_name ds).calm) [(m2 dIx (mVarB 0) (mC (.int 2)))]) (mCall (fun ds => (C ._law_are_options ds).calm) [(m2 dIx (mVarB 0) (mC (.int 3))), (mC (.int 4))])))) sNil)
  (sSeq (sIf (mTest (m2 dEq (m2 dIx (mVarB 0) (mC (.int 0))) (mC (.str "keep")))) (sRet (mAndV (m2 dEq (m1 dLen (mVarB 0)) (mC (.int 3))) (mAndV (mCall (fun ds => (C ._law_is_name ds).calm) [(m2 dIx (mVarB 0) (mC (.int 1)))]) (mCall (fun ds => (C ._law_is_sum ds).calm) [(m2 dIx (mVarB 0) (mC (.int 2))), (mC (.int 6))])))) sNil)
  (sSeq (sIf (mTest (m2 dEq (m2 dIx (mVarB 0) (mC (.int 0))) (mC (.str "pay")))) (sRet (mAndV (m2 dEq (m1 dLen (mVarB 0)) (mC (.int 2))) (mCall (fun ds => (C ._law_is_sum ds).calm) [(m2 dIx (mVarB 0) (mC (.int 1))), (mC (.int 6))]))) sNil)
  (sSeq (sIf (mOr (mTest (m2 dNe (m2 dIx (mVarB 0) (mC (.int 0))) (mC (.str "if")))) (mOr (mTest (m2 dNe (m1 dLen (mVarB 0)) (mC (.int 4)))) (mOr (mTest (m2 dEq (mVarB 1) (mC (.int 0)))) (mNot (mTest (mCall (fun ds => (C ._law_is_sum ds).calm) [(m2 dIx (mVarB 0) (mC (.int 1))), (mC (.int 6))])))))) (sRet (mC (.bl false))) sNil)
  (sRet (mAndV (mCall (fun ds => (C ._law_is_sheet ds).calm) [(m2 dIx (mVarB 0) (mC (.int 2))), (m2 dSub (mVarB 1) (mC (.int 1)))]) (mCall (fun ds => (C ._law_is_sheet ds).calm) [(m2 dIx (mVarB 0) (mC (.int 3))), (m2 dSub (mVarB 1) (mC (.int 1)))]))))))))))
/-! ### _law_is_sheet -/
abbrev st__law_is_sheet : Stmt := topS 36
abbrev N__law_is_sheet : List Str := ["thing", "deep", "step"]
theorem sc__law_is_sheet : FnScope N__law_is_sheet ["thing", "deep"] (defScope st__law_is_sheet) := ⟨by decide +kernel, by decide +kernel, by decide +kernel, by decide +kernel, by decide +kernel, by decide +kernel, by decide +kernel⟩
theorem v0__law_is_sheet_thing : lk st__law_is_sheet "thing" = some .local := by decide +kernel
theorem v__law_is_sheet_thing : Vis (defScope st__law_is_sheet) "thing" := .inl v0__law_is_sheet_thing
theorem l__law_is_sheet_thing : Loc (defScope st__law_is_sheet) "thing" := .inl v0__law_is_sheet_thing
theorem g__law_is_sheet_isinstance : lk st__law_is_sheet "isinstance" = some .globalImplicit := by decide +kernel
theorem g__law_is_sheet_len : lk st__law_is_sheet "len" = some .globalImplicit := by decide +kernel
theorem g__law_is_sheet_tuple : lk st__law_is_sheet "tuple" = some .globalImplicit := by decide +kernel
noncomputable def m__law_is_sheet_c0 (C : Fn → List D → Res D) : ME :=
  (mLc (mItems (mVar 0)) (bName 2) (mNot (mTest (mCall (fun ds => (C ._law_is_step ds).calm) [(mVar 2), (mVar 1)]))) (mVar 2) [2])
noncomputable def m__law_is_sheet (C : Fn → List D → Res D) : MS :=
  (sSeq (sIf (mOr (mNot (mTest (m1 (dIsi "tuple") (mVarB 0)))) (mTest (m2 dGt (m1 dLen (mVarB 0)) (mC (.int 12))))) (sRet (mC (.bl false))) sNil)
  (sRet (m2 dEq (m__law_is_sheet_c0 C) (mLst []))))
/-! ### _law_odd -/
abbrev st__law_odd : Stmt := topS 37
abbrev N__law_odd : List Str := ["number", "some"]
theorem sc__law_odd : FnScope N__law_odd ["number"] (defScope st__law_odd) := ⟨by decide +kernel, by decide +kernel, by decide +kernel, by decide +kernel, by decide +kernel, by decide +kernel, by decide +kernel⟩
theorem v0__law_odd_number : lk st__law_odd "number" = some .local := by decide +kernel
theorem v__law_odd_number : Vis (defScope st__law_odd) "number" := .inl v0__law_odd_number
theorem l__law_odd_number : Loc (defScope st__law_odd) "number" := .inl v0__law_odd_number
theorem v0__law_odd_some : lk st__law_odd "some" = some .local := by decide +kernel
theorem v__law_odd_some : Vis (defScope st__law_odd) "some" := .inl v0__law_odd_some
theorem l__law_odd_some : Loc (defScope st__law_odd) "some" := .inl v0__law_odd_some
noncomputable def m__law_odd (C : Fn → List D → Res D) : MS :=
  (sSeq (sSet 1 (mLst [(m1 dNeg (mC (.int 1))), (mC (.int 0)), (mC (.int 1)), (mC (.int 50)), (mC (.int 51)), (m1 dNeg (mC (.int 51))), (mC (.bl true)), (mC (.bl false)), (mC .non), (mC (.str "")), (mC (.str "a")), (mC (.str "abcd")), (mC (.str "if")), (mC (.str "plus")), (mC (.str "A")), (mTup []), (mLst []), (mTup [(mC (.str "pay")), (mC (.int 0))])]))
  (sSeq (sSet 1 (m2 dAdd (mVarB 1) (mLst [(mTup [(mC (.str "show")), (mC (.str "a")), (mC (.int 2))]), (mTup [(mC (.str "plus")), (mC (.int 1)), (mC (.int 2))]), (mTup [(mC (.str "less")), (mC (.str "a")), (mC (.bl true))]), (mTup [(mTup [(mC (.int 0)), (mC (.int 1))])]), (mTup [(mTup [(mC (.int 0)), (mC (.int 0))])]), (mTup [(mTup [(mC (.int 0)), (mC (.int 10))])]), (mTup [(mC (.int 1)), (mC (.int 0))])])))
  (sSeq (sSet 1 (m2 dAdd (mVarB 1) (mLst [(mTup [(mTup [(mC (.int 0)), (mC (.int 1))]), (mTup [(mC (.int 0)), (mC (.int 2))])]), (mTup [(mC (.int 2)), (mC (.int 3))]), (mTup [(mC (.str "if")), (mC (.int 1)), (mTup []), (mTup [])]), (mTup [(mC (.str "ask")), (mC (.int 0)), (mC (.str "a")), (mTup [])]), (mTup [(mC (.str "keep")), (mC (.str "ask")), (mC (.int 1))])])))
  (sRet (m2 dIx (m2 dAdd (mVarB 1) (mLst [(mTup [(mTup [(mC (.str "pay")), (mC (.str "a"))])])])) (m2 dMod (mVarB 0) (mC (.int 31))))))))
/-! ### _law_spoilt -/
abbrev st__law_spoilt : Stmt := topS 38
abbrev N__law_spoilt : List Str := ["thing", "number", "deep", "at", "part", "some"]
theorem sc__law_spoilt : FnScope N__law_spoilt ["thing", "number", "deep"] (defScope st__law_spoilt) := ⟨by decide +kernel, by decide +kernel, by decide +kernel, by decide +kernel, by decide +kernel, by decide +kernel, by decide +kernel⟩
theorem v0__law_spoilt_at : lk st__law_spoilt "at" = some .local := by decide +kernel
theorem v__law_spoilt_at : Vis (defScope st__law_spoilt) "at" := .inl v0__law_spoilt_at
theorem l__law_spoilt_at : Loc (defScope st__law_spoilt) "at" := .inl v0__law_spoilt_at
theorem v0__law_spoilt_deep : lk st__law_spoilt "deep" = some .local := by decide +kernel
theorem v__law_spoilt_deep : Vis (defScope st__law_spoilt) "deep" := .inl v0__law_spoilt_deep
theorem l__law_spoilt_deep : Loc (defScope st__law_spoilt) "deep" := .inl v0__law_spoilt_deep
theorem v0__law_spoilt_number : lk st__law_spoilt "number" = some .local := by decide +kernel
theorem v__law_spoilt_number : Vis (defScope st__law_spoilt) "number" := .inl v0__law_spoilt_number
theorem l__law_spoilt_number : Loc (defScope st__law_spoilt) "number" := .inl v0__law_spoilt_number
theorem v0__law_spoilt_part : lk st__law_spoilt "part" = some .local := by decide +kernel
theorem v__law_spoilt_part : Vis (defScope st__law_spoilt) "part" := .inl v0__law_spoilt_part
theorem l__law_spoilt_part : Loc (defScope st__law_spoilt) "part" := .inl v0__law_spoilt_part
theorem v0__law_spoilt_some : lk st__law_spoilt "some" = some .local := by decide +kernel
theorem v__law_spoilt_some : Vis (defScope st__law_spoilt) "some" := .inl v0__law_spoilt_some
theorem l__law_spoilt_some : Loc (defScope st__law_spoilt) "some" := .inl v0__law_spoilt_some
theorem v0__law_spoilt_thing : lk st__law_spoilt "thing" = some .local := by decide +kernel
theorem v__law_spoilt_thing : Vis (defScope st__law_spoilt) "thing" := .inl v0__law_spoilt_thing
theorem l__law_spoilt_thing : Loc (defScope st__law_spoilt) "thing" := .inl v0__law_spoilt_thing
theorem g__law_spoilt__law_odd : lk st__law_spoilt "_law_odd" = some .globalImplicit := by decide +kernel
theorem g__law_spoilt__law_spoilt : lk st__law_spoilt "_law_spoilt" = some .globalImplicit := by decide +kernel
theorem g__law_spoilt_int : lk st__law_spoilt "int" = some .globalImplicit := by decide +kernel
theorem g__law_spoilt_isinstance : lk st__law_spoilt "isinstance" = some .globalImplicit := by decide +kernel
theorem g__law_spoilt_len : lk st__law_spoilt "len" = some .globalImplicit := by decide +kernel
theorem g__law_spoilt_list : lk st__law_spoilt "list" = some .globalImplicit := by decide +kernel
theorem g__law_spoilt_str : lk st__law_spoilt "str" = some .globalImplicit := by decide +kernel
theorem g__law_spoilt_tuple : lk st__law_spoilt "tuple" = some .globalImplicit := by decide +kernel
noncomputable def m__law_spoilt (C : Fn → List D → Res D) : MS :=
  (sSeq (sIf (mAnd (mTest (m2 dGt (mVarB 2) (mC (.int 0)))) (mAnd (mTest (m1 (dIsi "tuple") (mVarB 0))) (mAnd (mTest (m2 dGt (m1 dLen (mVarB 0)) (mC (.int 0)))) (mTest (m2 dGt (m2 dMod (mVarB 1) (mC (.int 6))) (mC (.int 0))))))) (sSeq (sSet 3 (m2 dMod (m2 dDiv (mVarB 1) (mC (.int 6))) (m1 dLen (mVarB 0))))
  (sSeq (sSet 4 (mCall (fun ds => (C ._law_spoilt ds).calm) [(m2 dIx (mVarB 0) (mVarB 3)), (m2 dDiv (mVarB 1) (mC (.int 42))), (m2 dSub (mVarB 2) (mC (.int 1)))]))
  (sRet (m2 dAdd (m2 dAdd (mSl (mVarB 0) none (some (mVar 3))) (mTup [(mVar 4)])) (mSl (mVarB 0) (some (m2 dAdd (mVarB 3) (mC (.int 1)))) none))))) sNil)
  (sSeq (sIf (mAnd (mTest (m1 (dIsi "tuple") (mVarB 0))) (mAnd (mTest (m2 dGt (m1 dLen (mVarB 0)) (mC (.int 0)))) (mTest (m2 dEq (m2 dMod (m2 dDiv (mVarB 1) (mC (.int 6))) (mC (.int 2))) (mC (.int 0)))))) (sSeq (sSet 5 (mLst [(m1 dList (mVarB 0)), (mSl (mVarB 0) none (some (m1 dNeg (mC (.int 1))))), (m2 dAdd (mVarB 0) (mSl (mVarB 0) (some (m1 dNeg (mC (.int 1)))) none)), (mSl (mVarB 0) (some (mC (.int 1))) none), (m1 dRevA (mVarB 0)), (m2 dMulA (mVarB 0) (mC (.int 4))), (m2 dMulA (mVarB 0) (mC (.int 13)))]))
  (sRet (m2 dIx (mVarB 5) (m2 dMod (m2 dDiv (mVarB 1) (mC (.int 12))) (mC (.int 7)))))) sNil)
  (sSeq (sIf (mAnd (mTest (m1 (dIsi "int") (mVarB 0))) (mTest (m2 dEq (m2 dMod (m2 dDiv (mVarB 1) (mC (.int 6))) (mC (.int 2))) (mC (.int 0))))) (sRet (m2 dIx (mLst [(m1 dStr (mVarB 0)), (m1 dNeg (mVarB 0)), (m2 dAdd (mVarB 0) (mC (.int 1))), (m2 dEq (mVarB 0) (mC (.int 1))), (m2 dAdd (mVarB 0) (mC (.int 50))), (m2 dSub (mVarB 0) (mC (.int 50)))]) (m2 dMod (m2 dDiv (mVarB 1) (mC (.int 12))) (mC (.int 6))))) sNil)
  (sSeq (sIf (mAnd (mTest (m1 (dIsi "str") (mVarB 0))) (mTest (m2 dEq (m2 dMod (m2 dDiv (mVarB 1) (mC (.int 6))) (mC (.int 2))) (mC (.int 0))))) (sRet (m2 dIx (mLst [(m2 dAdd (mVarB 0) (mC (.str "a"))), (mSl (mVarB 0) none (some (m1 dNeg (mC (.int 1))))), (mM0 dUpper (mVarB 0)), (m2 dAdd (mVarB 0) (mC (.str "1"))), (mC (.str "times")), (mC (.str "alike")), (mC (.str "draw"))]) (m2 dMod (m2 dDiv (mVarB 1) (mC (.int 12))) (mC (.int 7))))) sNil)
  (sRet (mCall (fun ds => (C ._law_odd ds).calm) [(m2 dDiv (mVarB 1) (mC (.int 6)))]))))))
/-! ### _law_same -/
abbrev st__law_same : Stmt := topS 39
abbrev N__law_same : List Str := ["found", "due"]
theorem sc__law_same : FnScope N__law_same ["found", "due"] (defScope st__law_same) := ⟨by decide +kernel, by decide +kernel, by decide +kernel, by decide +kernel, by decide +kernel, by decide +kernel, by decide +kernel⟩
theorem v0__law_same_due : lk st__law_same "due" = some .local := by decide +kernel
theorem v__law_same_due : Vis (defScope st__law_same) "due" := .inl v0__law_same_due
theorem l__law_same_due : Loc (defScope st__law_same) "due" := .inl v0__law_same_due
theorem v0__law_same_found : lk st__law_same "found" = some .local := by decide +kernel
theorem v__law_same_found : Vis (defScope st__law_same) "found" := .inl v0__law_same_found
theorem l__law_same_found : Loc (defScope st__law_same) "found" := .inl v0__law_same_found
theorem g__law_same_bool : lk st__law_same "bool" = some .globalImplicit := by decide +kernel
theorem g__law_same_isinstance : lk st__law_same "isinstance" = some .globalImplicit := by decide +kernel
noncomputable def m__law_same (C : Fn → List D → Res D) : MS :=
  (sRet (mAndV (m1 (dIsi "bool") (mVarB 0)) (m2 dEq (mVarB 0) (mVarB 1))))
/-! ### law -/
abbrev st_law : Stmt := topS 40
abbrev N_law : List Str := ["script", "number", "thing", "k", "wide", "some"]
theorem sc_law : FnScope N_law ["script"] (defScope st_law) := ⟨by decide +kernel, by decide +kernel, by decide +kernel, by decide +kernel, by decide +kernel, by decide +kernel, by decide +kernel⟩
theorem v0_law_k : lk st_law "k" = some .local := by decide +kernel
theorem v_law_k : Vis (defScope st_law) "k" := .inl v0_law_k
theorem l_law_k : Loc (defScope st_law) "k" := .inl v0_law_k
theorem v0_law_number : lk st_law "number" = some .local := by decide +kernel
theorem v_law_number : Vis (defScope st_law) "number" := .inl v0_law_number
theorem l_law_number : Loc (defScope st_law) "number" := .inl v0_law_number
theorem v0_law_script : lk st_law "script" = some .local := by decide +kernel
theorem v_law_script : Vis (defScope st_law) "script" := .inl v0_law_script
theorem l_law_script : Loc (defScope st_law) "script" := .inl v0_law_script
theorem v0_law_some : lk st_law "some" = some .local := by decide +kernel
theorem v_law_some : Vis (defScope st_law) "some" := .inl v0_law_some
theorem l_law_some : Loc (defScope st_law) "some" := .inl v0_law_some
theorem v0_law_thing : lk st_law "thing" = some .local := by decide +kernel
theorem v_law_thing : Vis (defScope st_law) "thing" := .inl v0_law_thing
theorem l_law_thing : Loc (defScope st_law) "thing" := .inl v0_law_thing
theorem v0_law_wide : lk st_law "wide" = some .local := by decide +kernel
theorem v_law_wide : Vis (defScope st_law) "wide" := .inl v0_law_wide
theorem l_law_wide : Loc (defScope st_law) "wide" := .inl v0_law_wide
theorem g_law__law_is_sheet : lk st_law "_law_is_sheet" = some .globalImplicit := by decide +kernel
theorem g_law__law_is_sum : lk st_law "_law_is_sum" = some .globalImplicit := by decide +kernel
theorem g_law__law_mixed : lk st_law "_law_mixed" = some .globalImplicit := by decide +kernel
theorem g_law__law_same : lk st_law "_law_same" = some .globalImplicit := by decide +kernel
theorem g_law__law_sheet : lk st_law "_law_sheet" = some .globalImplicit := by decide +kernel
theorem g_law__law_spoilt : lk st_law "_law_spoilt" = some .globalImplicit := by decide +kernel
theorem g_law__law_sum : lk st_law "_law_sum" = some .globalImplicit := by decide +kernel
theorem g_law_int : lk st_law "int" = some .globalImplicit := by decide +kernel
theorem g_law_is_sheet : lk st_law "is_sheet" = some .globalImplicit := by decide +kernel
theorem g_law_is_sum : lk st_law "is_sum" = some .globalImplicit := by decide +kernel
theorem g_law_range : lk st_law "range" = some .globalImplicit := by decide +kernel
noncomputable def m_law_b0 (C : Fn → List D → Res D) : MS :=
  (sSet 2 (mTup [(mTup [(mC (.str "if")), (mC (.str "a")), (mVar 2), (mTup [])])]))
noncomputable def m_law (C : Fn → List D → Res D) : MS :=
  (sSeq (sSet 1 (mCall (fun ds => (C ._law_mixed ds).calm) [(mVar 0), (mC (.int 1))]))
  (sSeq (sSet 2 (mCall (fun ds => (C ._law_sheet ds).calm) [(mCall (fun ds => (C ._law_mixed ds).calm) [(mVar 0), (mC (.int 0))])]))
  (sSeq (sIf (mTest (m2 dEq (m2 dMod (mVarB 1) (mC (.int 2))) (mC (.int 1)))) (sSet 2 (mCall (fun ds => (C ._law_spoilt ds).calm) [(mVar 2), (mCall (fun ds => (C ._law_mixed ds).calm) [(mVar 0), (mC (.int 2))]), (m2 dMod (m2 dDiv (mVarB 1) (mC (.int 2))) (mC (.int 8)))])) sNil)
  (sSeq (sFor (mRange1 (m2 dMulA (m2 dMod (m2 dDiv (mVarB 1) (mC (.int 16))) (mC (.int 8))) (m1 dInt (m2 dEq (m2 dMod (m2 dDiv (mVarB 1) (mC (.int 128))) (mC (.int 8))) (mC (.int 1)))))) (bName 3) (m_law_b0 C))
  (sSeq (sIf (mNot (mTest (mCall (fun ds => (C ._law_same ds).calm) [(mCall (fun ds => (C .is_sheet ds).calm) [(mVar 2)]), (mCall (fun ds => (C ._law_is_sheet ds).calm) [(mVar 2), (mC (.int 5))])]))) (sRet (mC (.bl false))) sNil)
  (sSeq (sSet 4 (m2 dMulA (mSl (mCall (fun ds => (C ._law_sheet ds).calm) [(mCall (fun ds => (C ._law_mixed ds).calm) [(mVar 0), (mC (.int 0))])]) none (some (mC (.int 1)))) (m2 dAdd (mC (.int 11)) (m2 dMod (m2 dDiv (mVarB 1) (mC (.int 256))) (mC (.int 3))))))
  (sSeq (sIf (mNot (mTest (mCall (fun ds => (C ._law_same ds).calm) [(mCall (fun ds => (C .is_sheet ds).calm) [(mVar 4)]), (mCall (fun ds => (C ._law_is_sheet ds).calm) [(mVar 4), (mC (.int 5))])]))) (sRet (mC (.bl false))) sNil)
  (sSeq (sSet 5 (mCall (fun ds => (C ._law_sum ds).calm) [(mCall (fun ds => (C ._law_mixed ds).calm) [(mVar 0), (mC (.int 3))]), (m2 dMod (m2 dDiv (mVarB 1) (mC (.int 1024))) (mC (.int 9)))]))
  (sSeq (sIf (mTest (m2 dEq (m2 dMod (m2 dDiv (mVarB 1) (mC (.int 9216))) (mC (.int 2))) (mC (.int 1)))) (sSet 5 (mCall (fun ds => (C ._law_spoilt ds).calm) [(mVar 5), (mCall (fun ds => (C ._law_mixed ds).calm) [(mVar 0), (mC (.int 4))]), (m2 dMod (m2 dDiv (mVarB 1) (mC (.int 18432))) (mC (.int 6)))])) sNil)
  (sRet (mCall (fun ds => (C ._law_same ds).calm) [(mCall (fun ds => (C .is_sum ds).calm) [(mVar 5)]), (mCall (fun ds => (C ._law_is_sum ds).calm) [(mVar 5), (mC (.int 6))])])))))))))))
noncomputable def callF : Nat → Fn → List D → Res D
  | 0, _ => fun _ => .stuck
  | k + 1, .is_number => runM 3 (m_is_number (callF k))
  | k + 1, .is_small => runM 1 (m_is_small (callF k))
  | k + 1, .is_name => runM 2 (m_is_name (callF k))
  | k + 1, .is_sum_at => runM 2 (m_is_sum_at (callF k))
  | k + 1, .is_sum => runM 1 (m_is_sum (callF k))
  | k + 1, .rises => runM 3 (m_rises (callF k))
  | k + 1, .are_lots => runM 2 (m_are_lots (callF k))
  | k + 1, .are_options => runM 2 (m_are_options (callF k))
  | k + 1, .is_step => runM 3 (m_is_step (callF k))
  | k + 1, .is_sheet_at => runM 3 (m_is_sheet_at (callF k))
  | k + 1, .is_sheet => runM 1 (m_is_sheet (callF k))
  | k + 1, ._law_cell_at => runM 2 (m__law_cell_at (callF k))
  | k + 1, ._law_mixed => runM 3 (m__law_mixed (callF k))
  | k + 1, ._law_drawn => runM 3 (m__law_drawn (callF k))
  | k + 1, ._law_sum => runM 4 (m__law_sum (callF k))
  | k + 1, ._law_numbers => runM 5 (m__law_numbers (callF k))
  | k + 1, ._law_pick_step => runM 7 (m__law_pick_step (callF k))
  | k + 1, ._law_steps => runM 12 (m__law_steps (callF k))
  | k + 1, ._law_cards => runM 6 (m__law_cards (callF k))
  | k + 1, ._law_sheet => runM 3 (m__law_sheet (callF k))
  | k + 1, ._law_whole => runM 3 (m__law_whole (callF k))
  | k + 1, ._law_is_name => runM 2 (m__law_is_name (callF k))
  | k + 1, ._law_is_sum => runM 2 (m__law_is_sum (callF k))
  | k + 1, ._law_rises => runM 2 (m__law_rises (callF k))
  | k + 1, ._law_are_options => runM 3 (m__law_are_options (callF k))
  | k + 1, ._law_are_lots => runM 2 (m__law_are_lots (callF k))
  | k + 1, ._law_is_step => runM 2 (m__law_is_step (callF k))
  | k + 1, ._law_is_sheet => runM 3 (m__law_is_sheet (callF k))
  | k + 1, ._law_odd => runM 2 (m__law_odd (callF k))
  | k + 1, ._law_spoilt => runM 6 (m__law_spoilt (callF k))
  | k + 1, ._law_same => runM 2 (m__law_same (callF k))
  | k + 1, .law => runM 6 (m_law (callF k))
/-- what the top has left -/
structure Top (K : PySem.W.Frag) (mg : Str → Option Value) where
  a_is_number : Addr
  d_is_number : FuncData
  f_is_number : Fun K "is_number" "is_number" st_is_number a_is_number d_is_number
  b_is_number : Binds K d_is_number ["thing", "low", "high"] []
  g_is_number : mg "is_number" = some (.ref a_is_number)
  a_is_small : Addr
  d_is_small : FuncData
  f_is_small : Fun K "is_small" "is_small" st_is_small a_is_small d_is_small
  b_is_small : Binds K d_is_small ["thing"] []
  g_is_small : mg "is_small" = some (.ref a_is_small)
  a_is_name : Addr
  d_is_name : FuncData
  f_is_name : Fun K "is_name" "is_name" st_is_name a_is_name d_is_name
  b_is_name : Binds K d_is_name ["thing"] []
  g_is_name : mg "is_name" = some (.ref a_is_name)
  a_is_sum_at : Addr
  d_is_sum_at : FuncData
  f_is_sum_at : Fun K "is_sum_at" "is_sum_at" st_is_sum_at a_is_sum_at d_is_sum_at
  b_is_sum_at : Binds K d_is_sum_at ["thing", "deep"] []
  g_is_sum_at : mg "is_sum_at" = some (.ref a_is_sum_at)
  a_is_sum : Addr
  d_is_sum : FuncData
  f_is_sum : Fun K "is_sum" "is_sum" st_is_sum a_is_sum d_is_sum
  b_is_sum : Binds K d_is_sum ["thing"] []
  g_is_sum : mg "is_sum" = some (.ref a_is_sum)
  a_rises : Addr
  d_rises : FuncData
  f_rises : Fun K "rises" "rises" st_rises a_rises d_rises
  b_rises : Binds K d_rises ["row"] []
  g_rises : mg "rises" = some (.ref a_rises)
  a_are_lots : Addr
  d_are_lots : FuncData
  f_are_lots : Fun K "are_lots" "are_lots" st_are_lots a_are_lots d_are_lots
  b_are_lots : Binds K d_are_lots ["thing"] []
  g_are_lots : mg "are_lots" = some (.ref a_are_lots)
  a_are_options : Addr
  d_are_options : FuncData
  f_are_options : Fun K "are_options" "are_options" st_are_options a_are_options d_are_options
  b_are_options : Binds K d_are_options ["thing"] []
  g_are_options : mg "are_options" = some (.ref a_are_options)
  a_is_step : Addr
  d_is_step : FuncData
  f_is_step : Fun K "is_step" "is_step" st_is_step a_is_step d_is_step
  b_is_step : Binds K d_is_step ["thing", "deep"] []
  g_is_step : mg "is_step" = some (.ref a_is_step)
  a_is_sheet_at : Addr
  d_is_sheet_at : FuncData
  f_is_sheet_at : Fun K "is_sheet_at" "is_sheet_at" st_is_sheet_at a_is_sheet_at d_is_sheet_at
  b_is_sheet_at : Binds K d_is_sheet_at ["thing", "deep"] []
  g_is_sheet_at : mg "is_sheet_at" = some (.ref a_is_sheet_at)
  a_is_sheet : Addr
  d_is_sheet : FuncData
  f_is_sheet : Fun K "is_sheet" "is_sheet" st_is_sheet a_is_sheet d_is_sheet
  b_is_sheet : Binds K d_is_sheet ["thing"] []
  g_is_sheet : mg "is_sheet" = some (.ref a_is_sheet)
  a__law_cell_at : Addr
  d__law_cell_at : FuncData
  f__law_cell_at : Fun K "_law_cell_at" "_law_cell_at" st__law_cell_at a__law_cell_at d__law_cell_at
  b__law_cell_at : Binds K d__law_cell_at ["script", "k"] []
  g__law_cell_at : mg "_law_cell_at" = some (.ref a__law_cell_at)
  a__law_mixed : Addr
  d__law_mixed : FuncData
  f__law_mixed : Fun K "_law_mixed" "_law_mixed" st__law_mixed a__law_mixed d__law_mixed
  b__law_mixed : Binds K d__law_mixed ["script", "k"] []
  g__law_mixed : mg "_law_mixed" = some (.ref a__law_mixed)
  a__law_drawn : Addr
  d__law_drawn : FuncData
  f__law_drawn : Fun K "_law_drawn" "_law_drawn" st__law_drawn a__law_drawn d__law_drawn
  b__law_drawn : Binds K d__law_drawn ["number", "k"] []
  g__law_drawn : mg "_law_drawn" = some (.ref a__law_drawn)
  a__law_sum : Addr
  d__law_sum : FuncData
  f__law_sum : Fun K "_law_sum" "_law_sum" st__law_sum a__law_sum d__law_sum
  b__law_sum : Binds K d__law_sum ["number", "deep"] []
  g__law_sum : mg "_law_sum" = some (.ref a__law_sum)
  a__law_numbers : Addr
  d__law_numbers : FuncData
  f__law_numbers : Fun K "_law_numbers" "_law_numbers" st__law_numbers a__law_numbers d__law_numbers
  b__law_numbers : Binds K d__law_numbers ["number", "most"] []
  g__law_numbers : mg "_law_numbers" = some (.ref a__law_numbers)
  a__law_pick_step : Addr
  d__law_pick_step : FuncData
  f__law_pick_step : Fun K "_law_pick_step" "_law_pick_step" st__law_pick_step a__law_pick_step d__law_pick_step
  b__law_pick_step : Binds K d__law_pick_step ["number", "name"] []
  g__law_pick_step : mg "_law_pick_step" = some (.ref a__law_pick_step)
  a__law_steps : Addr
  d__law_steps : FuncData
  f__law_steps : Fun K "_law_steps" "_law_steps" st__law_steps a__law_steps d__law_steps
  b__law_steps : Binds K d__law_steps ["number", "many", "deep", "room"] []
  g__law_steps : mg "_law_steps" = some (.ref a__law_steps)
  a__law_cards : Addr
  d__law_cards : FuncData
  f__law_cards : Fun K "_law_cards" "_law_cards" st__law_cards a__law_cards d__law_cards
  b__law_cards : Binds K d__law_cards ["number"] []
  g__law_cards : mg "_law_cards" = some (.ref a__law_cards)
  a__law_sheet : Addr
  d__law_sheet : FuncData
  f__law_sheet : Fun K "_law_sheet" "_law_sheet" st__law_sheet a__law_sheet d__law_sheet
  b__law_sheet : Binds K d__law_sheet ["number"] []
  g__law_sheet : mg "_law_sheet" = some (.ref a__law_sheet)
  a__law_whole : Addr
  d__law_whole : FuncData
  f__law_whole : Fun K "_law_whole" "_law_whole" st__law_whole a__law_whole d__law_whole
  b__law_whole : Binds K d__law_whole ["thing", "low", "high"] []
  g__law_whole : mg "_law_whole" = some (.ref a__law_whole)
  a__law_is_name : Addr
  d__law_is_name : FuncData
  f__law_is_name : Fun K "_law_is_name" "_law_is_name" st__law_is_name a__law_is_name d__law_is_name
  b__law_is_name : Binds K d__law_is_name ["thing"] []
  g__law_is_name : mg "_law_is_name" = some (.ref a__law_is_name)
  a__law_is_sum : Addr
  d__law_is_sum : FuncData
  f__law_is_sum : Fun K "_law_is_sum" "_law_is_sum" st__law_is_sum a__law_is_sum d__law_is_sum
  b__law_is_sum : Binds K d__law_is_sum ["thing", "deep"] []
  g__law_is_sum : mg "_law_is_sum" = some (.ref a__law_is_sum)
  a__law_rises : Addr
  d__law_rises : FuncData
  f__law_rises : Fun K "_law_rises" "_law_rises" st__law_rises a__law_rises d__law_rises
  b__law_rises : Binds K d__law_rises ["row"] []
  g__law_rises : mg "_law_rises" = some (.ref a__law_rises)
  a__law_are_options : Addr
  d__law_are_options : FuncData
  f__law_are_options : Fun K "_law_are_options" "_law_are_options" st__law_are_options a__law_are_options d__law_are_options
  b__law_are_options : Binds K d__law_are_options ["thing", "most"] []
  g__law_are_options : mg "_law_are_options" = some (.ref a__law_are_options)
  a__law_are_lots : Addr
  d__law_are_lots : FuncData
  f__law_are_lots : Fun K "_law_are_lots" "_law_are_lots" st__law_are_lots a__law_are_lots d__law_are_lots
  b__law_are_lots : Binds K d__law_are_lots ["thing"] []
  g__law_are_lots : mg "_law_are_lots" = some (.ref a__law_are_lots)
  a__law_is_step : Addr
  d__law_is_step : FuncData
  f__law_is_step : Fun K "_law_is_step" "_law_is_step" st__law_is_step a__law_is_step d__law_is_step
  b__law_is_step : Binds K d__law_is_step ["thing", "deep"] []
  g__law_is_step : mg "_law_is_step" = some (.ref a__law_is_step)
  a__law_is_sheet : Addr
  d__law_is_sheet : FuncData
  f__law_is_sheet : Fun K "_law_is_sheet" "_law_is_sheet" st__law_is_sheet a__law_is_sheet d__law_is_sheet
  b__law_is_sheet : Binds K d__law_is_sheet ["thing", "deep"] []
  g__law_is_sheet : mg "_law_is_sheet" = some (.ref a__law_is_sheet)
  a__law_odd : Addr
  d__law_odd : FuncData
  f__law_odd : Fun K "_law_odd" "_law_odd" st__law_odd a__law_odd d__law_odd
  b__law_odd : Binds K d__law_odd ["number"] []
  g__law_odd : mg "_law_odd" = some (.ref a__law_odd)
  a__law_spoilt : Addr
  d__law_spoilt : FuncData
  f__law_spoilt : Fun K "_law_spoilt" "_law_spoilt" st__law_spoilt a__law_spoilt d__law_spoilt
  b__law_spoilt : Binds K d__law_spoilt ["thing", "number", "deep"] []
  g__law_spoilt : mg "_law_spoilt" = some (.ref a__law_spoilt)
  a__law_same : Addr
  d__law_same : FuncData
  f__law_same : Fun K "_law_same" "_law_same" st__law_same a__law_same d__law_same
  b__law_same : Binds K d__law_same ["found", "due"] []
  g__law_same : mg "_law_same" = some (.ref a__law_same)
  a_law : Addr
  d_law : FuncData
  f_law : Fun K "law" "law" st_law a_law d_law
  b_law : Binds K d_law ["script"] []
  g_law : mg "law" = some (.ref a_law)
  z_all : mg "all" = none
  z_bool : mg "bool" = none
  z_enumerate : mg "enumerate" = none
  z_int : mg "int" = none
  z_isinstance : mg "isinstance" = none
  z_len : mg "len" = none
  z_list : mg "list" = none
  z_range : mg "range" = none
  z_str : mg "str" = none
  z_tuple : mg "tuple" = none
  z_zip : mg "zip" = none
  v_DEEP_SHEET : V
  u_DEEP_SHEET : Value
  c_DEEP_SHEET : mg "DEEP_SHEET" = some u_DEEP_SHEET
  r_DEEP_SHEET : RelV v_DEEP_SHEET u_DEEP_SHEET
  p_DEEP_SHEET : ∀ (cl : Nat → Addr) (F : Hp), Rep K cl F v_DEEP_SHEET k_DEEP_SHEET
  v_DEEP_SUM : V
  u_DEEP_SUM : Value
  c_DEEP_SUM : mg "DEEP_SUM" = some u_DEEP_SUM
  r_DEEP_SUM : RelV v_DEEP_SUM u_DEEP_SUM
  p_DEEP_SUM : ∀ (cl : Nat → Addr) (F : Hp), Rep K cl F v_DEEP_SUM k_DEEP_SUM
  v_GREATEST : V
  u_GREATEST : Value
  c_GREATEST : mg "GREATEST" = some u_GREATEST
  r_GREATEST : RelV v_GREATEST u_GREATEST
  p_GREATEST : ∀ (cl : Nat → Addr) (F : Hp), Rep K cl F v_GREATEST k_GREATEST
  v_LETTERS : V
  u_LETTERS : Value
  c_LETTERS : mg "LETTERS" = some u_LETTERS
  r_LETTERS : RelV v_LETTERS u_LETTERS
  p_LETTERS : ∀ (cl : Nat → Addr) (F : Hp), Rep K cl F v_LETTERS k_LETTERS
  v_LONGEST : V
  u_LONGEST : Value
  c_LONGEST : mg "LONGEST" = some u_LONGEST
  r_LONGEST : RelV v_LONGEST u_LONGEST
  p_LONGEST : ∀ (cl : Nat → Addr) (F : Hp), Rep K cl F v_LONGEST k_LONGEST
  v_STEPS : V
  u_STEPS : Value
  c_STEPS : mg "STEPS" = some u_STEPS
  r_STEPS : RelV v_STEPS u_STEPS
  p_STEPS : ∀ (cl : Nat → Addr) (F : Hp), Rep K cl F v_STEPS k_STEPS
  v_SUMS : V
  u_SUMS : Value
  c_SUMS : mg "SUMS" = some u_SUMS
  r_SUMS : RelV v_SUMS u_SUMS
  p_SUMS : ∀ (cl : Nat → Addr) (F : Hp), Rep K cl F v_SUMS k_SUMS
  bl : ∀ (s : Shared) (v : Value), BindsTo s d_law ⟨[v], []⟩ [("script", v)]
structure Ok (P : Program) (w : World) (K : PySem.W.Frag) (cl : Nat → Addr) (mg : Str → Option Value) (base : Heap) (T : Top K mg) (k : Nat) : Prop where
  o_is_number : FnOk P w K mg base CX0 k T.a_is_number T.d_is_number ["thing", "low", "high"] (spF K cl 3 (callF k .is_number))
  o_is_small : FnOk P w K mg base CX0 k T.a_is_small T.d_is_small ["thing"] (spF K cl 1 (callF k .is_small))
  o_is_name : FnOk P w K mg base CX0 k T.a_is_name T.d_is_name ["thing"] (spF K cl 1 (callF k .is_name))
  o_is_sum_at : FnOk P w K mg base CX0 k T.a_is_sum_at T.d_is_sum_at ["thing", "deep"] (spF K cl 2 (callF k .is_sum_at))
  o_is_sum : FnOk P w K mg base CX0 k T.a_is_sum T.d_is_sum ["thing"] (spF K cl 1 (callF k .is_sum))
  o_rises : FnOk P w K mg base CX0 k T.a_rises T.d_rises ["row"] (spF K cl 1 (callF k .rises))
  o_are_lots : FnOk P w K mg base CX0 k T.a_are_lots T.d_are_lots ["thing"] (spF K cl 1 (callF k .are_lots))
  o_are_options : FnOk P w K mg base CX0 k T.a_are_options T.d_are_options ["thing"] (spF K cl 1 (callF k .are_options))
  o_is_step : FnOk P w K mg base CX0 k T.a_is_step T.d_is_step ["thing", "deep"] (spF K cl 2 (callF k .is_step))
  o_is_sheet_at : FnOk P w K mg base CX0 k T.a_is_sheet_at T.d_is_sheet_at ["thing", "deep"] (spF K cl 2 (callF k .is_sheet_at))
  o_is_sheet : FnOk P w K mg base CX0 k T.a_is_sheet T.d_is_sheet ["thing"] (spF K cl 1 (callF k .is_sheet))
  o__law_cell_at : FnOk P w K mg base CX0 k T.a__law_cell_at T.d__law_cell_at ["script", "k"] (spF K cl 2 (callF k ._law_cell_at))
  o__law_mixed : FnOk P w K mg base CX0 k T.a__law_mixed T.d__law_mixed ["script", "k"] (spF K cl 2 (callF k ._law_mixed))
  o__law_drawn : FnOk P w K mg base CX0 k T.a__law_drawn T.d__law_drawn ["number", "k"] (spF K cl 2 (callF k ._law_drawn))
  o__law_sum : FnOk P w K mg base CX0 k T.a__law_sum T.d__law_sum ["number", "deep"] (spF K cl 2 (callF k ._law_sum))
  o__law_numbers : FnOk P w K mg base CX0 k T.a__law_numbers T.d__law_numbers ["number", "most"] (spF K cl 2 (callF k ._law_numbers))
  o__law_pick_step : FnOk P w K mg base CX0 k T.a__law_pick_step T.d__law_pick_step ["number", "name"] (spF K cl 2 (callF k ._law_pick_step))
  o__law_steps : FnOk P w K mg base CX0 k T.a__law_steps T.d__law_steps ["number", "many", "deep", "room"] (spF K cl 4 (callF k ._law_steps))
  o__law_cards : FnOk P w K mg base CX0 k T.a__law_cards T.d__law_cards ["number"] (spF K cl 1 (callF k ._law_cards))
  o__law_sheet : FnOk P w K mg base CX0 k T.a__law_sheet T.d__law_sheet ["number"] (spF K cl 1 (callF k ._law_sheet))
  o__law_whole : FnOk P w K mg base CX0 k T.a__law_whole T.d__law_whole ["thing", "low", "high"] (spF K cl 3 (callF k ._law_whole))
  o__law_is_name : FnOk P w K mg base CX0 k T.a__law_is_name T.d__law_is_name ["thing"] (spF K cl 1 (callF k ._law_is_name))
  o__law_is_sum : FnOk P w K mg base CX0 k T.a__law_is_sum T.d__law_is_sum ["thing", "deep"] (spF K cl 2 (callF k ._law_is_sum))
  o__law_rises : FnOk P w K mg base CX0 k T.a__law_rises T.d__law_rises ["row"] (spF K cl 1 (callF k ._law_rises))
  o__law_are_options : FnOk P w K mg base CX0 k T.a__law_are_options T.d__law_are_options ["thing", "most"] (spF K cl 2 (callF k ._law_are_options))
  o__law_are_lots : FnOk P w K mg base CX0 k T.a__law_are_lots T.d__law_are_lots ["thing"] (spF K cl 1 (callF k ._law_are_lots))
  o__law_is_step : FnOk P w K mg base CX0 k T.a__law_is_step T.d__law_is_step ["thing", "deep"] (spF K cl 2 (callF k ._law_is_step))
  o__law_is_sheet : FnOk P w K mg base CX0 k T.a__law_is_sheet T.d__law_is_sheet ["thing", "deep"] (spF K cl 2 (callF k ._law_is_sheet))
  o__law_odd : FnOk P w K mg base CX0 k T.a__law_odd T.d__law_odd ["number"] (spF K cl 1 (callF k ._law_odd))
  o__law_spoilt : FnOk P w K mg base CX0 k T.a__law_spoilt T.d__law_spoilt ["thing", "number", "deep"] (spF K cl 3 (callF k ._law_spoilt))
  o__law_same : FnOk P w K mg base CX0 k T.a__law_same T.d__law_same ["found", "due"] (spF K cl 2 (callF k ._law_same))
  o_law : FnOk P w K mg base CX0 k T.a_law T.d_law ["script"] (spF K cl 1 (callF k .law))
section
variable {P : Program} {w : World} {K : PySem.W.Frag} {cl : Nat → Addr} {mg : Str → Option Value} {base : Heap}
theorem d_is_number (T : Top K mg) (k : Nat) (IH : Ok P w K cl mg base T k) :
    FnOk P w K mg base CX0 (k + 1) T.a_is_number T.d_is_number ["thing", "low", "high"] (spF K cl 3 (runM 3 (m_is_number (callF k)))) :=
  fn_ok (N := N_is_number) (st := st_is_number) (m := m_is_number (callF k)) T.f_is_number sc_is_number fun cdv A outer s H E H0 F0 hr =>
  (vs_one (vs_ret (ve_and (ve_isi (T := "int") (by decide) g_is_number_isinstance T.z_isinstance g_is_number_int T.z_int bt_int (ve_varB (i := 0) rfl v_is_number_thing)) (ve_and (ve_not (ve_isi (T := "bool") (by decide) g_is_number_isinstance T.z_isinstance g_is_number_bool T.z_bool bt_bool (ve_varB (i := 0) rfl v_is_number_thing))) (ve_one (ve_chain op_le t_le op_le f_le (ve_varB (i := 1) rfl v_is_number_low) (ve_varB (i := 0) rfl v_is_number_thing) (ve_varB (i := 2) rfl v_is_number_high)))))))
theorem d_is_small (T : Top K mg) (k : Nat) (IH : Ok P w K cl mg base T k) :
    FnOk P w K mg base CX0 (k + 1) T.a_is_small T.d_is_small ["thing"] (spF K cl 1 (runM 1 (m_is_small (callF k)))) :=
  fn_ok (N := N_is_small) (st := st_is_small) (m := m_is_small (callF k)) T.f_is_small sc_is_small fun cdv A outer s H E H0 F0 hr =>
  (vs_one (vs_ret (ve_call IH.o_is_number hr g_is_small_is_number T.g_is_number T.f_is_number.kp T.b_is_number (va_cons (ve_var (i := 0) rfl v_is_small_thing) (va_cons (ve_un un_neg f_neg (pe_B (ve_glob g_is_small_GREATEST T.c_GREATEST T.r_GREATEST (T.p_GREATEST cl)))) (va_cons (ve_glob g_is_small_GREATEST T.c_GREATEST T.r_GREATEST (T.p_GREATEST cl)) va_nil))))))
theorem d_is_name (T : Top K mg) (k : Nat) (IH : Ok P w K cl mg base T k) :
    FnOk P w K mg base CX0 (k + 1) T.a_is_name T.d_is_name ["thing"] (spF K cl 1 (runM 2 (m_is_name (callF k)))) :=
  fn_ok (N := N_is_name) (st := st_is_name) (m := m_is_name (callF k)) T.f_is_name sc_is_name fun cdv A outer s H E H0 F0 hr =>
  (vs_cons (vs_if (PW.pt (vw_or (vt_not (vt_val (ve_isi (T := "str") (by decide) g_is_name_isinstance T.z_isinstance g_is_name_str T.z_str bt_str (ve_varB (i := 0) rfl v_is_name_thing)))) (vw_or (vt_not (vt_chain op_le t_le op_le f_le (pe_B ve_int) (pe_B (ve_callB o_len f_len g_is_name_len T.z_len bt_len (ve_varB (i := 0) rfl v_is_name_thing))) (pe_B ve_int))) (vw_or (vt_cmp (o_in (hu65 hr)) f_in (ve_varB (i := 0) rfl v_is_name_thing) (pe_B (ve_glob g_is_name_SUMS T.c_SUMS T.r_SUMS (T.p_SUMS cl))) rfl) (vw_or1 (vt_cmp (o_in (hu65 hr)) f_in (ve_varB (i := 0) rfl v_is_name_thing) (pe_B (ve_glob g_is_name_STEPS T.c_STEPS T.r_STEPS (T.p_STEPS cl))) rfl)))))) (vs_one (vs_ret ve_bl)) vs_nil)
  (vs_one (vs_ret (ve_callB (cr_all rfl) f_all g_is_name_all T.z_all bt_all (pe_B (ve_lc (own := [("sign", 1)]) rfl sc_is_name.nd (vi_any (ve_var (i := 0) rfl v_is_name_thing)) (blkOk_by (own := [("sign", 1)]) (N := N_is_name) (sc := defScope st_is_name) (by decide +kernel)) (fun _ _ _ _ _ => (vg_name (i := 1) sc_is_name.nd rfl (.inl (blk_local (by decide +kernel))) (.inr (blk_local (by decide +kernel))))) (by decide) (fun _ _ _ _ _ => vts_nil) (fun _ _ _ _ _ => (ve_cmp (o_in (hu65 hr)) f_in (ve_varB (i := 1) rfl (.inl (blk_local (by decide +kernel)))) (pe_B (ve_glob (blk_glob (by decide +kernel)) T.c_LETTERS T.r_LETTERS (T.p_LETTERS cl))) rfl))))))))
theorem d_is_sum_at (T : Top K mg) (k : Nat) (IH : Ok P w K cl mg base T k) :
    FnOk P w K mg base CX0 (k + 1) T.a_is_sum_at T.d_is_sum_at ["thing", "deep"] (spF K cl 2 (runM 2 (m_is_sum_at (callF k)))) :=
  fn_ok (N := N_is_sum_at) (st := st_is_sum_at) (m := m_is_sum_at (callF k)) T.f_is_sum_at sc_is_sum_at fun cdv A outer s H E H0 F0 hr =>
  (vs_cons (vs_if (PW.pt (vw_or (vt_val (ve_call IH.o_is_small hr g_is_sum_at_is_small T.g_is_small T.f_is_small.kp T.b_is_small (va_cons (ve_var (i := 0) rfl v_is_sum_at_thing) va_nil))) (vw_or1 (vt_val (ve_call IH.o_is_name hr g_is_sum_at_is_name T.g_is_name T.f_is_name.kp T.b_is_name (va_cons (ve_var (i := 0) rfl v_is_sum_at_thing) va_nil)))))) (vs_one (vs_ret ve_bl)) vs_nil)
  (vs_cons (vs_if (PW.pt (vw_or (vt_cmp (op_eqD hr.units) f_eq (ve_varB (i := 1) rfl v_is_sum_at_deep) (pe_B ve_int) (nomark _)) (vw_or (vt_not (vt_val (ve_isi (T := "tuple") (by decide) g_is_sum_at_isinstance T.z_isinstance g_is_sum_at_tuple T.z_tuple bt_tuple (ve_varB (i := 0) rfl v_is_sum_at_thing)))) (vw_or1 (vt_cmp (op_neD hr.units) f_ne (pe_B (ve_callB o_len f_len g_is_sum_at_len T.z_len bt_len (ve_varB (i := 0) rfl v_is_sum_at_thing))) (pe_B ve_int) (nomark _)))))) (vs_one (vs_ret ve_bl)) vs_nil)
  (vs_cons (vs_if (PW.pt (vw_or (vt_not (vt_val (ve_isi (T := "str") (by decide) g_is_sum_at_isinstance T.z_isinstance g_is_sum_at_str T.z_str bt_str (pe_B (ve_ix (o_ix (hu_of hr)) f_ix (ve_varB (i := 0) rfl v_is_sum_at_thing) (pe_B ve_int) (fun _ _ => rfl)))))) (vw_or1 (vt_cmp (o_notIn (hu65 hr)) f_notIn (pe_B (ve_ix (o_ix (hu_of hr)) f_ix (ve_varB (i := 0) rfl v_is_sum_at_thing) (pe_B ve_int) (fun _ _ => rfl))) (pe_B (ve_glob g_is_sum_at_SUMS T.c_SUMS T.r_SUMS (T.p_SUMS cl))) rfl)))) (vs_one (vs_ret ve_bl)) vs_nil)
  (vs_one (vs_ret (ve_and (ve_call IH.o_is_sum_at hr g_is_sum_at_is_sum_at T.g_is_sum_at T.f_is_sum_at.kp T.b_is_sum_at (va_cons (ve_ix (o_ix (hu_of hr)) f_ix (ve_varB (i := 0) rfl v_is_sum_at_thing) (pe_B ve_int) (fun _ _ => rfl)) (va_cons (ve_op op_sub f_sub (ve_varB (i := 1) rfl v_is_sum_at_deep) (pe_B ve_int)) va_nil))) (ve_one (ve_call IH.o_is_sum_at hr g_is_sum_at_is_sum_at T.g_is_sum_at T.f_is_sum_at.kp T.b_is_sum_at (va_cons (ve_ix (o_ix (hu_of hr)) f_ix (ve_varB (i := 0) rfl v_is_sum_at_thing) (pe_B ve_int) (fun _ _ => rfl)) (va_cons (ve_op op_sub f_sub (ve_varB (i := 1) rfl v_is_sum_at_deep) (pe_B ve_int)) va_nil))))))))))
theorem d_is_sum (T : Top K mg) (k : Nat) (IH : Ok P w K cl mg base T k) :
    FnOk P w K mg base CX0 (k + 1) T.a_is_sum T.d_is_sum ["thing"] (spF K cl 1 (runM 1 (m_is_sum (callF k)))) :=
  fn_ok (N := N_is_sum) (st := st_is_sum) (m := m_is_sum (callF k)) T.f_is_sum sc_is_sum fun cdv A outer s H E H0 F0 hr =>
  (vs_one (vs_ret (ve_call IH.o_is_sum_at hr g_is_sum_is_sum_at T.g_is_sum_at T.f_is_sum_at.kp T.b_is_sum_at (va_cons (ve_var (i := 0) rfl v_is_sum_thing) (va_cons (ve_glob g_is_sum_DEEP_SUM T.c_DEEP_SUM T.r_DEEP_SUM (T.p_DEEP_SUM cl)) va_nil)))))
theorem d_rises (T : Top K mg) (k : Nat) (IH : Ok P w K cl mg base T k) :
    FnOk P w K mg base CX0 (k + 1) T.a_rises T.d_rises ["row"] (spF K cl 1 (runM 3 (m_rises (callF k)))) :=
  fn_ok (N := N_rises) (st := st_rises) (m := m_rises (callF k)) T.f_rises sc_rises fun cdv A outer s H E H0 F0 hr =>
  (vs_one (vs_ret (ve_callB (cr_all rfl) f_all g_rises_all T.z_all bt_all (pe_B (ve_lc (own := [("one", 1), ("other", 2)]) rfl sc_rises.nd (vi_zip g_rises_zip T.z_zip (ve_slice (ve_varB (i := 0) rfl v_rises_row) vo_none (vo_some (ve_un un_neg f_neg (pe_B ve_int)))) (ve_slice (ve_varB (i := 0) rfl v_rises_row) (vo_some ve_int) vo_none)) (blkOk_by (own := [("one", 1), ("other", 2)]) (N := N_rises) (sc := defScope st_rises) (by decide +kernel)) (fun _ _ _ _ _ => (vg_tup rfl (.cons (pg_name (i := 1) sc_rises.nd rfl (.inl (blk_local (by decide +kernel))) (.inr (blk_local (by decide +kernel)))) (.cons (pg_name (i := 2) sc_rises.nd rfl (.inl (blk_local (by decide +kernel))) (.inr (blk_local (by decide +kernel)))) .nil rfl) rfl))) (by decide) (fun _ _ _ _ _ => vts_nil) (fun _ _ _ _ _ => (ve_cmp op_lt f_lt (ve_varB (i := 1) rfl (.inl (blk_local (by decide +kernel)))) (ve_varB (i := 2) rfl (.inl (blk_local (by decide +kernel)))) (nomark _))))))))
theorem d_are_lots (T : Top K mg) (k : Nat) (IH : Ok P w K cl mg base T k) :
    FnOk P w K mg base CX0 (k + 1) T.a_are_lots T.d_are_lots ["thing"] (spF K cl 1 (runM 2 (m_are_lots (callF k)))) :=
  fn_ok (N := N_are_lots) (st := st_are_lots) (m := m_are_lots (callF k)) T.f_are_lots sc_are_lots fun cdv A outer s H E H0 F0 hr =>
  (vs_cons (vs_if (PW.pt (vw_or (vt_not (vt_val (ve_isi (T := "tuple") (by decide) g_are_lots_isinstance T.z_isinstance g_are_lots_tuple T.z_tuple bt_tuple (ve_varB (i := 0) rfl v_are_lots_thing)))) (vw_or1 (vt_not (vt_chain op_le t_le op_le f_le (pe_B ve_int) (pe_B (ve_callB o_len f_len g_are_lots_len T.z_len bt_len (ve_varB (i := 0) rfl v_are_lots_thing))) (pe_B ve_int)))))) (vs_one (vs_ret ve_bl)) vs_nil)
  (vs_cons (vs_for (mb := m_are_lots_b0 (callF k)) PassesOwn.never rfl (vi_any (ve_var (i := 0) rfl v_are_lots_thing)) (vg_name (i := 1) sc_are_lots.nd rfl l_are_lots_lot) (vs_one (vs_if (PW.pt (vw_or (vt_not (vt_val (ve_isi (T := "tuple") (by decide) g_are_lots_isinstance T.z_isinstance g_are_lots_tuple T.z_tuple bt_tuple (ve_varB (i := 1) rfl v_are_lots_lot)))) (vw_or (vt_cmp (op_neD hr.units) f_ne (pe_B (ve_callB o_len f_len g_are_lots_len T.z_len bt_len (ve_varB (i := 1) rfl v_are_lots_lot))) (pe_B ve_int) (nomark _)) (vw_or (vt_not (vt_val (ve_call IH.o_is_small hr g_are_lots_is_small T.g_is_small T.f_is_small.kp T.b_is_small (va_cons (ve_ix (o_ix (hu_of hr)) f_ix (ve_varB (i := 1) rfl v_are_lots_lot) (pe_B ve_int) (fun _ _ => rfl)) va_nil)))) (vw_or1 (vt_not (vt_val (ve_call IH.o_is_number hr g_are_lots_is_number T.g_is_number T.f_is_number.kp T.b_is_number (va_cons (ve_ix (o_ix (hu_of hr)) f_ix (ve_varB (i := 1) rfl v_are_lots_lot) (pe_B ve_int) (fun _ _ => rfl)) (va_cons ve_int (va_cons ve_int va_nil))))))))))) (vs_one (vs_ret ve_bl)) vs_nil)))
  (vs_one (vs_ret (ve_call IH.o_rises hr g_are_lots_rises T.g_rises T.f_rises.kp T.b_rises (va_cons (ve_lc (own := [("lot", 1)]) rfl sc_are_lots.nd (vi_any (ve_var (i := 0) rfl v_are_lots_thing)) (blkOk_by (own := [("lot", 1)]) (N := N_are_lots) (sc := defScope st_are_lots) (by decide +kernel)) (fun _ _ _ _ _ => (vg_name (i := 1) sc_are_lots.nd rfl (.inl (blk_local (by decide +kernel))) (.inr (blk_local (by decide +kernel))))) (by decide) (fun _ _ _ _ _ => vts_nil) (fun _ _ _ _ _ => (ve_ix (o_ix (hu_of hr)) f_ix (ve_varB (i := 1) rfl (.inl (blk_local (by decide +kernel)))) (pe_B ve_int) (fun _ _ => rfl)))) va_nil))))))
theorem d_are_options (T : Top K mg) (k : Nat) (IH : Ok P w K cl mg base T k) :
    FnOk P w K mg base CX0 (k + 1) T.a_are_options T.d_are_options ["thing"] (spF K cl 1 (runM 2 (m_are_options (callF k)))) :=
  fn_ok (N := N_are_options) (st := st_are_options) (m := m_are_options (callF k)) T.f_are_options sc_are_options fun cdv A outer s H E H0 F0 hr =>
  (vs_cons (vs_if (PW.pt (vw_or (vt_not (vt_val (ve_isi (T := "tuple") (by decide) g_are_options_isinstance T.z_isinstance g_are_options_tuple T.z_tuple bt_tuple (ve_varB (i := 0) rfl v_are_options_thing)))) (vw_or (vt_not (vt_chain op_le t_le op_le f_le (pe_B ve_int) (pe_B (ve_callB o_len f_len g_are_options_len T.z_len bt_len (ve_varB (i := 0) rfl v_are_options_thing))) (pe_B ve_int))) (vw_or1 (vt_not (vt_val (ve_callB (cr_all rfl) f_all g_are_options_all T.z_all bt_all (pe_B (ve_lc (own := [("part", 1)]) rfl sc_are_options.nd (vi_any (ve_var (i := 0) rfl v_are_options_thing)) (blkOk_by (own := [("part", 1)]) (N := N_are_options) (sc := defScope st_are_options) (by decide +kernel)) (fun _ _ _ _ _ => (vg_name (i := 1) sc_are_options.nd rfl (.inl (blk_local (by decide +kernel))) (.inr (blk_local (by decide +kernel))))) (by decide) (fun _ _ _ _ _ => vts_nil) (fun _ _ _ _ _ => (ve_call IH.o_is_small hr (blk_glob (by decide +kernel)) T.g_is_small T.f_is_small.kp T.b_is_small (va_cons (ve_var (i := 1) rfl (.inl (blk_local (by decide +kernel)))) va_nil)))))))))))) (vs_one (vs_ret ve_bl)) vs_nil)
  (vs_one (vs_ret (ve_call IH.o_rises hr g_are_options_rises T.g_rises T.f_rises.kp T.b_rises (va_cons (ve_var (i := 0) rfl v_are_options_thing) va_nil)))))
theorem d_is_step (T : Top K mg) (k : Nat) (IH : Ok P w K cl mg base T k) :
    FnOk P w K mg base CX0 (k + 1) T.a_is_step T.d_is_step ["thing", "deep"] (spF K cl 2 (runM 3 (m_is_step (callF k)))) :=
  fn_ok (N := N_is_step) (st := st_is_step) (m := m_is_step (callF k)) T.f_is_step sc_is_step fun cdv A outer s H E H0 F0 hr =>
  (vs_cons (vs_if (PW.pt (vw_or (vt_not (vt_val (ve_isi (T := "tuple") (by decide) g_is_step_isinstance T.z_isinstance g_is_step_tuple T.z_tuple bt_tuple (ve_varB (i := 0) rfl v_is_step_thing)))) (vw_or (vt_cmp (op_eqD hr.units) f_eq (pe_B (ve_callB o_len f_len g_is_step_len T.z_len bt_len (ve_varB (i := 0) rfl v_is_step_thing))) (pe_B ve_int) (nomark _)) (vw_or1 (vt_not (vt_val (ve_isi (T := "str") (by decide) g_is_step_isinstance T.z_isinstance g_is_step_str T.z_str bt_str (pe_B (ve_ix (o_ix (hu_of hr)) f_ix (ve_varB (i := 0) rfl v_is_step_thing) (pe_B ve_int) (fun _ _ => rfl)))))))))) (vs_one (vs_ret ve_bl)) vs_nil)
  (vs_cons (vs_set (i := 2) sc_is_step.nd rfl l_is_step_rest (ve_slice (ve_varB (i := 0) rfl v_is_step_thing) (vo_some ve_int) vo_none))
  (vs_cons (vs_if (vt_cmp (op_eqD hr.units) f_eq (pe_B (ve_ix (o_ix (hu_of hr)) f_ix (ve_varB (i := 0) rfl v_is_step_thing) (pe_B ve_int) (fun _ _ => rfl))) (pe_B ve_str) (nomark _)) (vs_one (vs_ret (ve_and (ve_cmp (op_eqD hr.units) f_eq (pe_B (ve_callB o_len f_len g_is_step_len T.z_len bt_len (ve_varB (i := 2) rfl v_is_step_rest))) (pe_B ve_int) (nomark _)) (ve_and (ve_call IH.o_is_name hr g_is_step_is_name T.g_is_name T.f_is_name.kp T.b_is_name (va_cons (ve_ix (o_ix (hu_of hr)) f_ix (ve_varB (i := 2) rfl v_is_step_rest) (pe_B ve_int) (fun _ _ => rfl)) va_nil)) (ve_one (ve_call IH.o_are_lots hr g_is_step_are_lots T.g_are_lots T.f_are_lots.kp T.b_are_lots (va_cons (ve_ix (o_ix (hu_of hr)) f_ix (ve_varB (i := 2) rfl v_is_step_rest) (pe_B ve_int) (fun _ _ => rfl)) va_nil))))))) vs_nil)
  (vs_cons (vs_if (vt_cmp (op_eqD hr.units) f_eq (pe_B (ve_ix (o_ix (hu_of hr)) f_ix (ve_varB (i := 0) rfl v_is_step_thing) (pe_B ve_int) (fun _ _ => rfl))) (pe_B ve_str) (nomark _)) (vs_one (vs_ret (ve_and (ve_cmp (op_eqD hr.units) f_eq (pe_B (ve_callB o_len f_len g_is_step_len T.z_len bt_len (ve_varB (i := 2) rfl v_is_step_rest))) (pe_B ve_int) (nomark _)) (ve_and (ve_call IH.o_is_name hr g_is_step_is_name T.g_is_name T.f_is_name.kp T.b_is_name (va_cons (ve_ix (o_ix (hu_of hr)) f_ix (ve_varB (i := 2) rfl v_is_step_rest) (pe_B ve_int) (fun _ _ => rfl)) va_nil)) (ve_one (ve_call IH.o_is_number hr g_is_step_is_number T.g_is_number T.f_is_number.kp T.b_is_number (va_cons (ve_ix (o_ix (hu_of hr)) f_ix (ve_varB (i := 2) rfl v_is_step_rest) (pe_B ve_int) (fun _ _ => rfl)) (va_cons ve_int (va_cons ve_int va_nil))))))))) vs_nil)
  (vs_cons (vs_if (vt_cmp (op_eqD hr.units) f_eq (pe_B (ve_ix (o_ix (hu_of hr)) f_ix (ve_varB (i := 0) rfl v_is_step_thing) (pe_B ve_int) (fun _ _ => rfl))) (pe_B ve_str) (nomark _)) (vs_one (vs_ret (ve_and (ve_cmp (op_eqD hr.units) f_eq (pe_B (ve_callB o_len f_len g_is_step_len T.z_len bt_len (ve_varB (i := 2) rfl v_is_step_rest))) (pe_B ve_int) (nomark _)) (ve_and (ve_call IH.o_is_number hr g_is_step_is_number T.g_is_number T.f_is_number.kp T.b_is_number (va_cons (ve_ix (o_ix (hu_of hr)) f_ix (ve_varB (i := 2) rfl v_is_step_rest) (pe_B ve_int) (fun _ _ => rfl)) (va_cons ve_int (va_cons ve_int va_nil)))) (ve_and (ve_call IH.o_is_name hr g_is_step_is_name T.g_is_name T.f_is_name.kp T.b_is_name (va_cons (ve_ix (o_ix (hu_of hr)) f_ix (ve_varB (i := 2) rfl v_is_step_rest) (pe_B ve_int) (fun _ _ => rfl)) va_nil)) (ve_one (ve_call IH.o_are_options hr g_is_step_are_options T.g_are_options T.f_are_options.kp T.b_are_options (va_cons (ve_ix (o_ix (hu_of hr)) f_ix (ve_varB (i := 2) rfl v_is_step_rest) (pe_B ve_int) (fun _ _ => rfl)) va_nil)))))))) vs_nil)
  (vs_cons (vs_if (vt_cmp (op_eqD hr.units) f_eq (pe_B (ve_ix (o_ix (hu_of hr)) f_ix (ve_varB (i := 0) rfl v_is_step_thing) (pe_B ve_int) (fun _ _ => rfl))) (pe_B ve_str) (nomark _)) (vs_one (vs_ret (ve_and (ve_cmp (op_eqD hr.units) f_eq (pe_B (ve_callB o_len f_len g_is_step_len T.z_len bt_len (ve_varB (i := 2) rfl v_is_step_rest))) (pe_B ve_int) (nomark _)) (ve_and (ve_call IH.o_is_name hr g_is_step_is_name T.g_is_name T.f_is_name.kp T.b_is_name (va_cons (ve_ix (o_ix (hu_of hr)) f_ix (ve_varB (i := 2) rfl v_is_step_rest) (pe_B ve_int) (fun _ _ => rfl)) va_nil)) (ve_one (ve_call IH.o_is_sum hr g_is_step_is_sum T.g_is_sum T.f_is_sum.kp T.b_is_sum (va_cons (ve_ix (o_ix (hu_of hr)) f_ix (ve_varB (i := 2) rfl v_is_step_rest) (pe_B ve_int) (fun _ _ => rfl)) va_nil))))))) vs_nil)
  (vs_cons (vs_if (vt_cmp (op_eqD hr.units) f_eq (pe_B (ve_ix (o_ix (hu_of hr)) f_ix (ve_varB (i := 0) rfl v_is_step_thing) (pe_B ve_int) (fun _ _ => rfl))) (pe_B ve_str) (nomark _)) (vs_one (vs_ret (ve_and (ve_cmp (op_eqD hr.units) f_eq (pe_B (ve_callB o_len f_len g_is_step_len T.z_len bt_len (ve_varB (i := 2) rfl v_is_step_rest))) (pe_B ve_int) (nomark _)) (ve_one (ve_call IH.o_is_sum hr g_is_step_is_sum T.g_is_sum T.f_is_sum.kp T.b_is_sum (va_cons (ve_ix (o_ix (hu_of hr)) f_ix (ve_varB (i := 2) rfl v_is_step_rest) (pe_B ve_int) (fun _ _ => rfl)) va_nil)))))) vs_nil)
  (vs_cons (vs_if (PW.pt (vw_or (vt_cmp (op_neD hr.units) f_ne (pe_B (ve_ix (o_ix (hu_of hr)) f_ix (ve_varB (i := 0) rfl v_is_step_thing) (pe_B ve_int) (fun _ _ => rfl))) (pe_B ve_str) (nomark _)) (vw_or (vt_cmp (op_neD hr.units) f_ne (pe_B (ve_callB o_len f_len g_is_step_len T.z_len bt_len (ve_varB (i := 2) rfl v_is_step_rest))) (pe_B ve_int) (nomark _)) (vw_or (vt_cmp (op_eqD hr.units) f_eq (ve_varB (i := 1) rfl v_is_step_deep) (pe_B ve_int) (nomark _)) (vw_or1 (vt_not (vt_val (ve_call IH.o_is_sum hr g_is_step_is_sum T.g_is_sum T.f_is_sum.kp T.b_is_sum (va_cons (ve_ix (o_ix (hu_of hr)) f_ix (ve_varB (i := 2) rfl v_is_step_rest) (pe_B ve_int) (fun _ _ => rfl)) va_nil))))))))) (vs_one (vs_ret ve_bl)) vs_nil)
  (vs_one (vs_ret (ve_and (ve_call IH.o_is_sheet_at hr g_is_step_is_sheet_at T.g_is_sheet_at T.f_is_sheet_at.kp T.b_is_sheet_at (va_cons (ve_ix (o_ix (hu_of hr)) f_ix (ve_varB (i := 2) rfl v_is_step_rest) (pe_B ve_int) (fun _ _ => rfl)) (va_cons (ve_op op_sub f_sub (ve_varB (i := 1) rfl v_is_step_deep) (pe_B ve_int)) va_nil))) (ve_one (ve_call IH.o_is_sheet_at hr g_is_step_is_sheet_at T.g_is_sheet_at T.f_is_sheet_at.kp T.b_is_sheet_at (va_cons (ve_ix (o_ix (hu_of hr)) f_ix (ve_varB (i := 2) rfl v_is_step_rest) (pe_B ve_int) (fun _ _ => rfl)) (va_cons (ve_op op_sub f_sub (ve_varB (i := 1) rfl v_is_step_deep) (pe_B ve_int)) va_nil)))))))))))))))
theorem d_is_sheet_at (T : Top K mg) (k : Nat) (IH : Ok P w K cl mg base T k) :
    FnOk P w K mg base CX0 (k + 1) T.a_is_sheet_at T.d_is_sheet_at ["thing", "deep"] (spF K cl 2 (runM 3 (m_is_sheet_at (callF k)))) :=
  fn_ok (N := N_is_sheet_at) (st := st_is_sheet_at) (m := m_is_sheet_at (callF k)) T.f_is_sheet_at sc_is_sheet_at fun cdv A outer s H E H0 F0 hr =>
  (vs_cons (vs_if (PW.pt (vw_or (vt_not (vt_val (ve_isi (T := "tuple") (by decide) g_is_sheet_at_isinstance T.z_isinstance g_is_sheet_at_tuple T.z_tuple bt_tuple (ve_varB (i := 0) rfl v_is_sheet_at_thing)))) (vw_or1 (vt_cmp op_gt f_gt (pe_B (ve_callB o_len f_len g_is_sheet_at_len T.z_len bt_len (ve_varB (i := 0) rfl v_is_sheet_at_thing))) (pe_B (ve_glob g_is_sheet_at_LONGEST T.c_LONGEST T.r_LONGEST (T.p_LONGEST cl))) (nomark _))))) (vs_one (vs_ret ve_bl)) vs_nil)
  (vs_one (vs_ret (ve_callB (cr_all rfl) f_all g_is_sheet_at_all T.z_all bt_all (pe_B (ve_lc (own := [("step", 2)]) rfl sc_is_sheet_at.nd (vi_any (ve_var (i := 0) rfl v_is_sheet_at_thing)) (blkOk_by (own := [("step", 2)]) (N := N_is_sheet_at) (sc := defScope st_is_sheet_at) (by decide +kernel)) (fun _ _ _ _ _ => (vg_name (i := 2) sc_is_sheet_at.nd rfl (.inl (blk_local (by decide +kernel))) (.inr (blk_local (by decide +kernel))))) (by decide) (fun _ _ _ _ _ => vts_nil) (fun _ _ _ _ _ => (ve_call IH.o_is_step hr (blk_glob (by decide +kernel)) T.g_is_step T.f_is_step.kp T.b_is_step (va_cons (ve_var (i := 2) rfl (.inl (blk_local (by decide +kernel)))) (va_cons (ve_var (i := 1) rfl (blk_free (by decide +kernel))) va_nil))))))))))
theorem d_is_sheet (T : Top K mg) (k : Nat) (IH : Ok P w K cl mg base T k) :
    FnOk P w K mg base CX0 (k + 1) T.a_is_sheet T.d_is_sheet ["thing"] (spF K cl 1 (runM 1 (m_is_sheet (callF k)))) :=
  fn_ok (N := N_is_sheet) (st := st_is_sheet) (m := m_is_sheet (callF k)) T.f_is_sheet sc_is_sheet fun cdv A outer s H E H0 F0 hr =>
  (vs_one (vs_ret (ve_call IH.o_is_sheet_at hr g_is_sheet_is_sheet_at T.g_is_sheet_at T.f_is_sheet_at.kp T.b_is_sheet_at (va_cons (ve_var (i := 0) rfl v_is_sheet_thing) (va_cons (ve_glob g_is_sheet_DEEP_SHEET T.c_DEEP_SHEET T.r_DEEP_SHEET (T.p_DEEP_SHEET cl)) va_nil)))))
theorem d__law_cell_at (T : Top K mg) (k : Nat) (IH : Ok P w K cl mg base T k) :
    FnOk P w K mg base CX0 (k + 1) T.a__law_cell_at T.d__law_cell_at ["script", "k"] (spF K cl 2 (runM 2 (m__law_cell_at (callF k)))) :=
  fn_ok (N := N__law_cell_at) (st := st__law_cell_at) (m := m__law_cell_at (callF k)) T.f__law_cell_at sc__law_cell_at fun cdv A outer s H E H0 F0 hr =>
  (vs_cons (vs_if (vt_cmp op_lt f_lt (ve_varB (i := 1) rfl v__law_cell_at_k) (pe_B (ve_callB o_len f_len g__law_cell_at_len T.z_len bt_len (ve_varB (i := 0) rfl v__law_cell_at_script))) (nomark _)) (vs_one (vs_ret (ve_ix (o_ix (hu_of hr)) f_ix (ve_varB (i := 0) rfl v__law_cell_at_script) (ve_varB (i := 1) rfl v__law_cell_at_k) (fun _ _ => rfl)))) vs_nil)
  (vs_one (vs_ret ve_int)))
theorem d__law_mixed (T : Top K mg) (k : Nat) (IH : Ok P w K cl mg base T k) :
    FnOk P w K mg base CX0 (k + 1) T.a__law_mixed T.d__law_mixed ["script", "k"] (spF K cl 2 (runM 3 (m__law_mixed (callF k)))) :=
  fn_ok (N := N__law_mixed) (st := st__law_mixed) (m := m__law_mixed (callF k)) T.f__law_mixed sc__law_mixed fun cdv A outer s H E H0 F0 hr =>
  (vs_cons (vs_set (i := 2) sc__law_mixed.nd rfl l__law_mixed_drawn (ve_op op_mod f_mod (pe_B (ve_op o_mul f_mul (pe_B (ve_op o_add f_add (pe_B (ve_op o_add f_add (pe_B (ve_call IH.o__law_cell_at hr g__law_mixed__law_cell_at T.g__law_cell_at T.f__law_cell_at.kp T.b__law_cell_at (va_cons (ve_var (i := 0) rfl v__law_mixed_script) (va_cons (ve_var (i := 1) rfl v__law_mixed_k) va_nil)))) (pe_B (ve_op o_mul f_mul (pe_B ve_int) (ve_varB (i := 1) rfl v__law_mixed_k))))) (pe_B ve_int))) (pe_B ve_int))) (pe_B ve_int)))
  (vs_one (vs_ret (ve_op op_mod f_mod (pe_B (ve_op o_add f_add (pe_B (ve_op o_add f_add (pe_B (ve_op o_mul f_mul (ve_varB (i := 2) rfl v__law_mixed_drawn) (ve_varB (i := 2) rfl v__law_mixed_drawn))) (pe_B (ve_op o_mul f_mul (pe_B ve_int) (ve_varB (i := 2) rfl v__law_mixed_drawn))))) (ve_varB (i := 1) rfl v__law_mixed_k))) (pe_B ve_int)))))
theorem d__law_drawn (T : Top K mg) (k : Nat) (IH : Ok P w K cl mg base T k) :
    FnOk P w K mg base CX0 (k + 1) T.a__law_drawn T.d__law_drawn ["number", "k"] (spF K cl 2 (runM 3 (m__law_drawn (callF k)))) :=
  fn_ok (N := N__law_drawn) (st := st__law_drawn) (m := m__law_drawn (callF k)) T.f__law_drawn sc__law_drawn fun cdv A outer s H E H0 F0 hr =>
  (vs_cons (vs_set (i := 2) sc__law_drawn.nd rfl l__law_drawn_drawn (ve_op op_mod f_mod (pe_B (ve_op o_mul f_mul (pe_B (ve_op o_add f_add (pe_B (ve_op o_add f_add (ve_varB (i := 0) rfl v__law_drawn_number) (pe_B (ve_op o_mul f_mul (pe_B ve_int) (ve_varB (i := 1) rfl v__law_drawn_k))))) (pe_B ve_int))) (pe_B ve_int))) (pe_B ve_int)))
  (vs_one (vs_ret (ve_op op_mod f_mod (pe_B (ve_op o_add f_add (pe_B (ve_op o_add f_add (pe_B (ve_op o_mul f_mul (ve_varB (i := 2) rfl v__law_drawn_drawn) (ve_varB (i := 2) rfl v__law_drawn_drawn))) (pe_B (ve_op o_mul f_mul (pe_B ve_int) (ve_varB (i := 2) rfl v__law_drawn_drawn))))) (ve_varB (i := 1) rfl v__law_drawn_k))) (pe_B ve_int)))))
theorem d__law_sum (T : Top K mg) (k : Nat) (IH : Ok P w K cl mg base T k) :
    FnOk P w K mg base CX0 (k + 1) T.a__law_sum T.d__law_sum ["number", "deep"] (spF K cl 2 (runM 4 (m__law_sum (callF k)))) :=
  fn_ok (N := N__law_sum) (st := st__law_sum) (m := m__law_sum (callF k)) T.f__law_sum sc__law_sum fun cdv A outer s H E H0 F0 hr =>
  (vs_cons (vs_if (PW.pt (vw_or (vt_cmp (op_eqD hr.units) f_eq (ve_varB (i := 1) rfl v__law_sum_deep) (pe_B ve_int) (nomark _)) (vw_or1 (vt_cmp (op_eqD hr.units) f_eq (pe_B (ve_op op_mod f_mod (ve_varB (i := 0) rfl v__law_sum_number) (pe_B ve_int))) (pe_B ve_int) (nomark _))))) (vs_one (vs_ret (ve_ix (o_ix (hu_of hr)) f_ix (pe_B (ve_lst (va_cons ve_str (va_cons ve_str (va_cons ve_str (va_cons ve_str (va_cons (ve_op op_sub f_sub (pe_B (ve_op op_mod f_mod (pe_B (ve_op o_div f_div (ve_varB (i := 0) rfl v__law_sum_number) (pe_B ve_int))) (pe_B ve_int))) (pe_B ve_int)) (va_cons (ve_op op_sub f_sub (pe_B (ve_op op_mod f_mod (pe_B (ve_op o_div f_div (ve_varB (i := 0) rfl v__law_sum_number) (pe_B ve_int))) (pe_B ve_int))) (pe_B ve_int)) va_nil)))))))) (pe_B (ve_op op_mod f_mod (pe_B (ve_op o_div f_div (ve_varB (i := 0) rfl v__law_sum_number) (pe_B ve_int))) (pe_B ve_int))) (fun _ _ => rfl)))) vs_nil)
  (vs_cons (vs_set (i := 2) sc__law_sum.nd rfl l__law_sum_one (ve_call IH.o__law_sum hr g__law_sum__law_sum T.g__law_sum T.f__law_sum.kp T.b__law_sum (va_cons (ve_call IH.o__law_drawn hr g__law_sum__law_drawn T.g__law_drawn T.f__law_drawn.kp T.b__law_drawn (va_cons (ve_var (i := 0) rfl v__law_sum_number) (va_cons ve_int va_nil))) (va_cons (ve_op op_sub f_sub (ve_varB (i := 1) rfl v__law_sum_deep) (pe_B ve_int)) va_nil))))
  (vs_cons (vs_set (i := 3) sc__law_sum.nd rfl l__law_sum_word (ve_ix (o_ix (hu_of hr)) f_ix (pe_B (ve_tup (va_cons ve_str (va_cons ve_str (va_cons ve_str (va_cons ve_str (va_cons ve_str va_nil))))))) (pe_B (ve_op op_mod f_mod (pe_B (ve_op o_div f_div (ve_varB (i := 0) rfl v__law_sum_number) (pe_B ve_int))) (pe_B ve_int))) (fun _ _ => rfl)))
  (vs_one (vs_ret (ve_tup (va_cons (ve_var (i := 3) rfl v__law_sum_word) (va_cons (ve_var (i := 2) rfl v__law_sum_one) (va_cons (ve_call IH.o__law_sum hr g__law_sum__law_sum T.g__law_sum T.f__law_sum.kp T.b__law_sum (va_cons (ve_call IH.o__law_drawn hr g__law_sum__law_drawn T.g__law_drawn T.f__law_drawn.kp T.b__law_drawn (va_cons (ve_var (i := 0) rfl v__law_sum_number) (va_cons ve_int va_nil))) (va_cons (ve_op op_sub f_sub (ve_varB (i := 1) rfl v__law_sum_deep) (pe_B ve_int)) va_nil))) va_nil)))))))))
theorem d__law_numbers (T : Top K mg) (k : Nat) (IH : Ok P w K cl mg base T k) :
    FnOk P w K mg base CX0 (k + 1) T.a__law_numbers T.d__law_numbers ["number", "most"] (spF K cl 2 (runM 5 (m__law_numbers (callF k)))) :=
  fn_ok (N := N__law_numbers) (st := st__law_numbers) (m := m__law_numbers (callF k)) T.f__law_numbers sc__law_numbers fun cdv A outer s H E H0 F0 hr =>
  (vs_cons (vs_set (i := 2) sc__law_numbers.nd rfl l__law_numbers_found (ve_tup va_nil))
  (vs_cons (vs_set (i := 3) sc__law_numbers.nd rfl l__law_numbers_here (ve_ix (o_ix (hu_of hr)) f_ix (pe_B (ve_tup (va_cons (ve_op op_sub f_sub (pe_B (ve_op op_mod f_mod (ve_varB (i := 0) rfl v__law_numbers_number) (pe_B ve_int))) (pe_B ve_int)) (va_cons (ve_un un_neg f_neg (pe_B ve_int)) va_nil)))) (pe_B (ve_callTy call_int1 f_int g__law_numbers_int T.z_int bt_int (pe_B (ve_cmp (op_eqD hr.units) f_eq (pe_B (ve_op op_mod f_mod (ve_varB (i := 0) rfl v__law_numbers_number) (pe_B ve_int))) (pe_B ve_int) (nomark _))))) (fun _ _ => rfl)))
  (vs_cons (vs_for (mb := m__law_numbers_b0 (callF k)) PassesOwn.never rfl (vi_range1 g__law_numbers_range T.z_range (ve_op o_add f_add (pe_B ve_int) (pe_B (ve_op op_mod f_mod (pe_B (ve_op o_div f_div (ve_varB (i := 0) rfl v__law_numbers_number) (pe_B ve_int))) (ve_varB (i := 1) rfl v__law_numbers_most))))) (vg_name (i := 4) sc__law_numbers.nd rfl l__law_numbers_k) (vs_cons (vs_set (i := 2) sc__law_numbers.nd rfl l__law_numbers_found (ve_op o_add f_add (ve_varB (i := 2) rfl v__law_numbers_found) (pe_B (ve_tup (va_cons (ve_var (i := 3) rfl v__law_numbers_here) va_nil)))))
  (vs_one (vs_set (i := 3) sc__law_numbers.nd rfl l__law_numbers_here (ve_op o_add f_add (pe_B (ve_op o_add f_add (ve_varB (i := 3) rfl v__law_numbers_here) (pe_B ve_int))) (pe_B (ve_op op_mod f_mod (pe_B (ve_op o_div f_div (ve_varB (i := 0) rfl v__law_numbers_number) (pe_B (ve_op o_add f_add (pe_B ve_int) (ve_varB (i := 4) rfl v__law_numbers_k))))) (pe_B ve_int))))))))
  (vs_one (vs_ret (ve_var (i := 2) rfl v__law_numbers_found))))))
theorem d__law_pick_step (T : Top K mg) (k : Nat) (IH : Ok P w K cl mg base T k) :
    FnOk P w K mg base CX0 (k + 1) T.a__law_pick_step T.d__law_pick_step ["number", "name"] (spF K cl 2 (runM 7 (m__law_pick_step (callF k)))) :=
  fn_ok (N := N__law_pick_step) (st := st__law_pick_step) (m := m__law_pick_step (callF k)) T.f__law_pick_step sc__law_pick_step fun cdv A outer s H E H0 F0 hr =>
  (vs_cons (vs_set (i := 2) sc__law_pick_step.nd rfl l__law_pick_step_wide (ve_callTy call_int1 f_int g__law_pick_step_int T.z_int bt_int (pe_B (ve_cmp (op_eqD hr.units) f_eq (pe_B (ve_op op_mod f_mod (pe_B (ve_op o_div f_div (ve_varB (i := 0) rfl v__law_pick_step_number) (pe_B ve_int))) (pe_B ve_int))) (pe_B ve_int) (nomark _)))))
  (vs_cons (vs_if (vt_cmp op_lt f_lt (pe_B (ve_op op_mod f_mod (ve_varB (i := 0) rfl v__law_pick_step_number) (pe_B ve_int))) (pe_B ve_int) (nomark _)) (vs_cons (vs_set (i := 3) sc__law_pick_step.nd rfl l__law_pick_step_some (ve_call IH.o__law_numbers hr g__law_pick_step__law_numbers T.g__law_numbers T.f__law_numbers.kp T.b__law_numbers (va_cons (ve_op o_div f_div (ve_varB (i := 0) rfl v__law_pick_step_number) (pe_B ve_int)) (va_cons (ve_op o_add f_add (pe_B ve_int) (pe_B (ve_op o_mul f_mul (pe_B ve_int) (ve_varB (i := 2) rfl v__law_pick_step_wide)))) va_nil))))
  (vs_cons (vs_setLc (i := 4) (own := [("k", 5), ("part", 6)]) rfl sc__law_pick_step.nd rfl v0__law_pick_step_lots (sw_true sc__law_pick_step.kind v0__law_pick_step_lots rfl (by decide +kernel)) (vi_enum g__law_pick_step_enumerate T.z_enumerate (ve_var (i := 3) rfl v__law_pick_step_some)) (blkOk_by (own := [("k", 5), ("part", 6)]) (N := N__law_pick_step) (sc := defScope st__law_pick_step) (by decide +kernel)) (fun _ _ _ _ _ => (vg_tup rfl (.cons (pg_name (i := 5) sc__law_pick_step.nd rfl (.inl (blk_local (by decide +kernel))) (.inr (blk_local (by decide +kernel)))) (.cons (pg_name (i := 6) sc__law_pick_step.nd rfl (.inl (blk_local (by decide +kernel))) (.inr (blk_local (by decide +kernel)))) .nil rfl) rfl))) (by decide) (fun _ _ _ _ _ => vts_nil) (fun _ _ _ _ _ => (ve_tup (va_cons (ve_var (i := 6) rfl (.inl (blk_local (by decide +kernel)))) (va_cons (ve_op o_add f_add (pe_B ve_int) (pe_B (ve_op op_mod f_mod (pe_B (ve_op o_div f_div (ve_varB (i := 0) rfl (blk_free (by decide +kernel))) (pe_B (ve_op o_add f_add (pe_B ve_int) (ve_varB (i := 5) rfl (.inl (blk_local (by decide +kernel)))))))) (pe_B (ve_op o_add f_add (pe_B ve_int) (pe_B (ve_op o_mul f_mul (pe_B ve_int) (ve_varB (i := 2) rfl (blk_free (by decide +kernel)))))))))) va_nil)))))
  (vs_one (vs_ret (ve_tup (va_cons ve_str (va_cons (ve_var (i := 1) rfl v__law_pick_step_name) (va_cons (ve_callTy o_tuple f_tuple g__law_pick_step_tuple T.z_tuple bt_tuple (ve_varB (i := 4) rfl v__law_pick_step_lots)) va_nil)))))))) vs_nil)
  (vs_one (vs_ret (ve_tup (va_cons ve_str (va_cons (ve_op op_mod f_mod (pe_B (ve_op o_div f_div (ve_varB (i := 0) rfl v__law_pick_step_number) (pe_B ve_int))) (pe_B ve_int)) (va_cons (ve_var (i := 1) rfl v__law_pick_step_name) (va_cons (ve_call IH.o__law_numbers hr g__law_pick_step__law_numbers T.g__law_numbers T.f__law_numbers.kp T.b__law_numbers (va_cons (ve_op o_div f_div (ve_varB (i := 0) rfl v__law_pick_step_number) (pe_B ve_int)) (va_cons (ve_op o_add f_add (pe_B ve_int) (ve_varB (i := 2) rfl v__law_pick_step_wide)) va_nil))) va_nil)))))))))
theorem d__law_steps (T : Top K mg) (k : Nat) (IH : Ok P w K cl mg base T k) :
    FnOk P w K mg base CX0 (k + 1) T.a__law_steps T.d__law_steps ["number", "many", "deep", "room"] (spF K cl 4 (runM 12 (m__law_steps (callF k)))) :=
  fn_ok (N := N__law_steps) (st := st__law_steps) (m := m__law_steps (callF k)) T.f__law_steps sc__law_steps fun cdv A outer s H E H0 F0 hr =>
  (vs_cons (vs_set (i := 4) sc__law_steps.nd rfl l__law_steps_found (ve_tup va_nil))
  (vs_cons (vs_set (i := 5) sc__law_steps.nd rfl l__law_steps_left (ve_var (i := 3) rfl v__law_steps_room))
  (vs_cons (vs_for (mb := m__law_steps_b0 (callF k)) PassesOwn.never rfl (vi_range1 g__law_steps_range T.z_range (ve_var (i := 1) rfl v__law_steps_many)) (vg_name (i := 6) sc__law_steps.nd rfl l__law_steps_k) (vs_cons (vs_set (i := 7) sc__law_steps.nd rfl l__law_steps_drawn (ve_call IH.o__law_drawn hr g__law_steps__law_drawn T.g__law_drawn T.f__law_drawn.kp T.b__law_drawn (va_cons (ve_var (i := 0) rfl v__law_steps_number) (va_cons (ve_var (i := 6) rfl v__law_steps_k) va_nil))))
  (vs_cons (vs_set (i := 8) sc__law_steps.nd rfl l__law_steps_kind (ve_op op_mod f_mod (ve_varB (i := 7) rfl v__law_steps_drawn) (pe_B ve_int)))
  (vs_cons (vs_set (i := 9) sc__law_steps.nd rfl l__law_steps_name (ve_ix (o_ix (hu_of hr)) f_ix (pe_B ve_str) (pe_B (ve_op op_mod f_mod (pe_B (ve_op o_div f_div (ve_varB (i := 7) rfl v__law_steps_drawn) (pe_B ve_int))) (pe_B ve_int))) (fun _ _ => rfl)))
  (vs_one (vs_if (PW.pt (vw_and (vt_cmp op_lt f_lt (ve_varB (i := 8) rfl v__law_steps_kind) (pe_B ve_int) (nomark _)) (vw_and1 (vt_cmp op_gt f_gt (ve_varB (i := 5) rfl v__law_steps_left) (pe_B ve_int) (nomark _))))) (vs_cons (vs_set (i := 4) sc__law_steps.nd rfl l__law_steps_found (ve_op o_add f_add (ve_varB (i := 4) rfl v__law_steps_found) (pe_B (ve_tup (va_cons (ve_call IH.o__law_pick_step hr g__law_steps__law_pick_step T.g__law_pick_step T.f__law_pick_step.kp T.b__law_pick_step (va_cons (ve_op o_div f_div (ve_varB (i := 7) rfl v__law_steps_drawn) (pe_B ve_int)) (va_cons (ve_var (i := 9) rfl v__law_steps_name) va_nil))) va_nil)))))
  (vs_one (vs_set (i := 5) sc__law_steps.nd rfl l__law_steps_left (ve_op op_sub f_sub (ve_varB (i := 5) rfl v__law_steps_left) (pe_B ve_int))))) (vs_one (vs_if (PW.pt (vw_and (vt_cmp (op_eqD hr.units) f_eq (ve_varB (i := 8) rfl v__law_steps_kind) (pe_B ve_int) (nomark _)) (vw_and1 (vt_cmp op_gt f_gt (ve_varB (i := 2) rfl v__law_steps_deep) (pe_B ve_int) (nomark _))))) (vs_cons (vs_set (i := 10) sc__law_steps.nd rfl l__law_steps_one (ve_call IH.o__law_steps hr g__law_steps__law_steps T.g__law_steps T.f__law_steps.kp T.b__law_steps (va_cons (ve_call IH.o__law_drawn hr g__law_steps__law_drawn T.g__law_drawn T.f__law_drawn.kp T.b__law_drawn (va_cons (ve_var (i := 7) rfl v__law_steps_drawn) (va_cons ve_int va_nil))) (va_cons (ve_op o_add f_add (pe_B ve_int) (pe_B (ve_op op_mod f_mod (pe_B (ve_op o_div f_div (ve_varB (i := 7) rfl v__law_steps_drawn) (pe_B ve_int))) (pe_B ve_int)))) (va_cons (ve_op op_sub f_sub (ve_varB (i := 2) rfl v__law_steps_deep) (pe_B ve_int)) (va_cons (ve_op o_div f_div (ve_varB (i := 5) rfl v__law_steps_left) (pe_B ve_int)) va_nil))))))
  (vs_cons (vs_set (i := 11) sc__law_steps.nd rfl l__law_steps_other (ve_call IH.o__law_steps hr g__law_steps__law_steps T.g__law_steps T.f__law_steps.kp T.b__law_steps (va_cons (ve_call IH.o__law_drawn hr g__law_steps__law_drawn T.g__law_drawn T.f__law_drawn.kp T.b__law_drawn (va_cons (ve_var (i := 7) rfl v__law_steps_drawn) (va_cons ve_int va_nil))) (va_cons (ve_op op_mod f_mod (pe_B (ve_op o_div f_div (ve_varB (i := 7) rfl v__law_steps_drawn) (pe_B ve_int))) (pe_B ve_int)) (va_cons (ve_op op_sub f_sub (ve_varB (i := 2) rfl v__law_steps_deep) (pe_B ve_int)) (va_cons (ve_op o_div f_div (ve_varB (i := 5) rfl v__law_steps_left) (pe_B ve_int)) va_nil))))))
  (vs_cons (vs_set (i := 4) sc__law_steps.nd rfl l__law_steps_found (ve_op o_add f_add (ve_varB (i := 4) rfl v__law_steps_found) (pe_B (ve_tup (va_cons (ve_tup (va_cons ve_str (va_cons (ve_call IH.o__law_sum hr g__law_steps__law_sum T.g__law_sum T.f__law_sum.kp T.b__law_sum (va_cons (ve_op o_div f_div (ve_varB (i := 7) rfl v__law_steps_drawn) (pe_B ve_int)) (va_cons ve_int va_nil))) (va_cons (ve_var (i := 10) rfl v__law_steps_one) (va_cons (ve_var (i := 11) rfl v__law_steps_other) va_nil))))) va_nil)))))
  (vs_one (vs_set (i := 5) sc__law_steps.nd rfl l__law_steps_left (ve_op op_sub f_sub (ve_varB (i := 5) rfl v__law_steps_left) (pe_B (ve_op o_div f_div (ve_varB (i := 5) rfl v__law_steps_left) (pe_B ve_int))))))))) (vs_one (vs_if (vt_cmp (op_eqD hr.units) f_eq (ve_varB (i := 8) rfl v__law_steps_kind) (pe_B ve_int) (nomark _)) (vs_one (vs_set (i := 4) sc__law_steps.nd rfl l__law_steps_found (ve_op o_add f_add (ve_varB (i := 4) rfl v__law_steps_found) (pe_B (ve_tup (va_cons (ve_tup (va_cons ve_str (va_cons (ve_var (i := 9) rfl v__law_steps_name) (va_cons (ve_call IH.o__law_sum hr g__law_steps__law_sum T.g__law_sum T.f__law_sum.kp T.b__law_sum (va_cons (ve_op o_div f_div (ve_varB (i := 7) rfl v__law_steps_drawn) (pe_B ve_int)) (va_cons ve_int va_nil))) va_nil)))) va_nil)))))) (vs_one (vs_set (i := 4) sc__law_steps.nd rfl l__law_steps_found (ve_op o_add f_add (ve_varB (i := 4) rfl v__law_steps_found) (pe_B (ve_tup (va_cons (ve_tup (va_cons ve_str (va_cons (ve_var (i := 9) rfl v__law_steps_name) (va_cons (ve_op op_mod f_mod (pe_B (ve_op o_div f_div (ve_varB (i := 7) rfl v__law_steps_drawn) (pe_B ve_int))) (pe_B ve_int)) va_nil)))) va_nil))))))))))))))))
  (vs_cons (vs_if (vt_cmp op_gt f_gt (pe_B (ve_op op_mod f_mod (ve_varB (i := 0) rfl v__law_steps_number) (pe_B ve_int))) (pe_B ve_int) (nomark _)) (vs_one (vs_set (i := 4) sc__law_steps.nd rfl l__law_steps_found (ve_op o_add f_add (ve_varB (i := 4) rfl v__law_steps_found) (pe_B (ve_tup (va_cons (ve_tup (va_cons ve_str (va_cons (ve_call IH.o__law_sum hr g__law_steps__law_sum T.g__law_sum T.f__law_sum.kp T.b__law_sum (va_cons (ve_op o_div f_div (ve_varB (i := 0) rfl v__law_steps_number) (pe_B ve_int)) (va_cons ve_int va_nil))) va_nil))) va_nil)))))) vs_nil)
  (vs_one (vs_ret (ve_var (i := 4) rfl v__law_steps_found)))))))
theorem d__law_cards (T : Top K mg) (k : Nat) (IH : Ok P w K cl mg base T k) :
    FnOk P w K mg base CX0 (k + 1) T.a__law_cards T.d__law_cards ["number"] (spF K cl 1 (runM 6 (m__law_cards (callF k)))) :=
  fn_ok (N := N__law_cards) (st := st__law_cards) (m := m__law_cards (callF k)) T.f__law_cards sc__law_cards fun cdv A outer s H E H0 F0 hr =>
  (vs_cons (vs_set (i := 1) sc__law_cards.nd rfl l__law_cards_lots (ve_callTy o_tuple f_tuple g__law_cards_tuple T.z_tuple bt_tuple (pe_B (ve_lc (own := [("part", 5)]) rfl sc__law_cards.nd (vi_range1 g__law_cards_range T.z_range (ve_op o_add f_add (pe_B ve_int) (pe_B (ve_op op_mod f_mod (ve_varB (i := 0) rfl v__law_cards_number) (pe_B ve_int))))) (blkOk_by (own := [("part", 5)]) (N := N__law_cards) (sc := defScope st__law_cards) (by decide +kernel)) (fun _ _ _ _ _ => (vg_name (i := 5) sc__law_cards.nd rfl (.inl (blk_local (by decide +kernel))) (.inr (blk_local (by decide +kernel))))) (by decide) (fun _ _ _ _ _ => vts_nil) (fun _ _ _ _ _ => (ve_tup (va_cons (ve_var (i := 5) rfl (.inl (blk_local (by decide +kernel)))) (va_cons (ve_op o_add f_add (pe_B ve_int) (pe_B (ve_op op_mod f_mod (pe_B (ve_op o_div f_div (ve_varB (i := 0) rfl (blk_free (by decide +kernel))) (pe_B (ve_op o_add f_add (pe_B ve_int) (ve_varB (i := 5) rfl (.inl (blk_local (by decide +kernel)))))))) (pe_B ve_int)))) va_nil))))))))
  (vs_cons (vs_set (i := 2) sc__law_cards.nd rfl l__law_cards_steps (ve_tup (va_cons (ve_tup (va_cons ve_str (va_cons ve_str (va_cons (ve_var (i := 1) rfl v__law_cards_lots) va_nil)))) (va_cons (ve_tup (va_cons ve_str (va_cons ve_str (va_cons ve_int va_nil)))) (va_cons (ve_tup (va_cons ve_str (va_cons ve_int (va_cons ve_str (va_cons (ve_tup (va_cons ve_int (va_cons ve_int va_nil))) va_nil))))) (va_cons (ve_tup (va_cons ve_str (va_cons ve_str (va_cons (ve_op op_mod f_mod (pe_B (ve_op o_div f_div (ve_varB (i := 0) rfl v__law_cards_number) (pe_B ve_int))) (pe_B ve_int)) va_nil)))) va_nil))))))
  (vs_cons (vs_set (i := 3) sc__law_cards.nd rfl l__law_cards_last (ve_tup (va_cons (ve_tup (va_cons ve_str (va_cons ve_int (va_cons ve_str (va_cons (ve_tup (va_cons ve_int (va_cons ve_int va_nil))) va_nil))))) va_nil)))
  (vs_cons (vs_if (vt_cmp (op_eqD hr.units) f_eq (pe_B (ve_op op_mod f_mod (pe_B (ve_op o_div f_div (ve_varB (i := 0) rfl v__law_cards_number) (pe_B ve_int))) (pe_B ve_int))) (pe_B ve_int) (nomark _)) (vs_one (vs_set (i := 3) sc__law_cards.nd rfl l__law_cards_last (ve_tup (va_cons (ve_tup (va_cons ve_str (va_cons ve_str (va_cons (ve_var (i := 3) rfl v__law_cards_last) (va_cons (ve_tup (va_cons (ve_tup (va_cons ve_str (va_cons ve_int va_nil))) va_nil)) va_nil))))) va_nil)))) vs_nil)
  (vs_cons (vs_set (i := 4) sc__law_cards.nd rfl l__law_cards_pay (ve_tup (va_cons ve_str (va_cons (ve_tup (va_cons ve_str (va_cons (ve_tup (va_cons ve_str (va_cons ve_str (va_cons ve_int va_nil)))) (va_cons ve_str va_nil)))) (va_cons (ve_tup (va_cons ve_str (va_cons (ve_tup (va_cons ve_str (va_cons ve_int (va_cons ve_str va_nil)))) (va_cons ve_int va_nil)))) va_nil)))))
  (vs_one (vs_ret (ve_op o_add f_add (pe_B (ve_op o_add f_add (ve_varB (i := 2) rfl v__law_cards_steps) (ve_varB (i := 3) rfl v__law_cards_last))) (pe_B (ve_tup (va_cons (ve_tup (va_cons ve_str (va_cons (ve_ix (o_ix (hu_of hr)) f_ix (pe_B (ve_lst (va_cons (ve_var (i := 4) rfl v__law_cards_pay) (va_cons (ve_call IH.o__law_sum hr g__law_cards__law_sum T.g__law_sum T.f__law_sum.kp T.b__law_sum (va_cons (ve_op o_div f_div (ve_varB (i := 0) rfl v__law_cards_number) (pe_B ve_int)) (va_cons ve_int va_nil))) va_nil)))) (pe_B (ve_op op_mod f_mod (pe_B (ve_op o_div f_div (ve_varB (i := 0) rfl v__law_cards_number) (pe_B ve_int))) (pe_B ve_int))) (fun _ _ => rfl)) va_nil))) va_nil)))))))))))
theorem d__law_sheet (T : Top K mg) (k : Nat) (IH : Ok P w K cl mg base T k) :
    FnOk P w K mg base CX0 (k + 1) T.a__law_sheet T.d__law_sheet ["number"] (spF K cl 1 (runM 3 (m__law_sheet (callF k)))) :=
  fn_ok (N := N__law_sheet) (st := st__law_sheet) (m := m__law_sheet (callF k)) T.f__law_sheet sc__law_sheet fun cdv A outer s H E H0 F0 hr =>
  (vs_cons (vs_if (vt_cmp (op_eqD hr.units) f_eq (pe_B (ve_op op_mod f_mod (ve_varB (i := 0) rfl v__law_sheet_number) (pe_B ve_int))) (pe_B ve_int) (nomark _)) (vs_one (vs_ret (ve_call IH.o__law_cards hr g__law_sheet__law_cards T.g__law_cards T.f__law_cards.kp T.b__law_cards (va_cons (ve_op o_div f_div (ve_varB (i := 0) rfl v__law_sheet_number) (pe_B ve_int)) va_nil)))) vs_nil)
  (vs_cons (vs_if (vt_cmp (op_eqD hr.units) f_eq (pe_B (ve_op op_mod f_mod (ve_varB (i := 0) rfl v__law_sheet_number) (pe_B ve_int))) (pe_B ve_int) (nomark _)) (vs_cons (vs_set (i := 2) sc__law_sheet.nd rfl l__law_sheet_asks (ve_tup (va_cons (ve_tup (va_cons ve_str (va_cons ve_int (va_cons ve_str (va_cons (ve_call IH.o__law_numbers hr g__law_sheet__law_numbers T.g__law_numbers T.f__law_numbers.kp T.b__law_numbers (va_cons (ve_op o_div f_div (ve_varB (i := 0) rfl v__law_sheet_number) (pe_B ve_int)) (va_cons ve_int va_nil))) va_nil))))) (va_cons (ve_tup (va_cons ve_str (va_cons ve_int (va_cons ve_str (va_cons (ve_call IH.o__law_numbers hr g__law_sheet__law_numbers T.g__law_numbers T.f__law_numbers.kp T.b__law_numbers (va_cons (ve_op o_div f_div (ve_varB (i := 0) rfl v__law_sheet_number) (pe_B ve_int)) (va_cons ve_int va_nil))) va_nil))))) va_nil))))
  (vs_one (vs_ret (ve_op o_add f_add (ve_varB (i := 2) rfl v__law_sheet_asks) (pe_B (ve_tup (va_cons (ve_tup (va_cons ve_str (va_cons (ve_call IH.o__law_sum hr g__law_sheet__law_sum T.g__law_sum T.f__law_sum.kp T.b__law_sum (va_cons (ve_call IH.o__law_drawn hr g__law_sheet__law_drawn T.g__law_drawn T.f__law_drawn.kp T.b__law_drawn (va_cons (ve_var (i := 0) rfl v__law_sheet_number) (va_cons ve_int va_nil))) (va_cons ve_int va_nil))) va_nil))) va_nil))))))) vs_nil)
  (vs_cons (vs_set (i := 1) sc__law_sheet.nd rfl l__law_sheet_many (ve_ix (o_ix (hu_of hr)) f_ix (pe_B (ve_tup (va_cons (ve_op o_add f_add (pe_B ve_int) (pe_B (ve_op op_mod f_mod (pe_B (ve_op o_div f_div (ve_varB (i := 0) rfl v__law_sheet_number) (pe_B ve_int))) (pe_B ve_int)))) (va_cons ve_int va_nil)))) (pe_B (ve_callTy call_int1 f_int g__law_sheet_int T.z_int bt_int (pe_B (ve_cmp (op_eqD hr.units) f_eq (pe_B (ve_op op_mod f_mod (pe_B (ve_op o_div f_div (ve_varB (i := 0) rfl v__law_sheet_number) (pe_B ve_int))) (pe_B ve_int))) (pe_B ve_int) (nomark _))))) (fun _ _ => rfl)))
  (vs_one (vs_ret (ve_call IH.o__law_steps hr g__law_sheet__law_steps T.g__law_steps T.f__law_steps.kp T.b__law_steps (va_cons (ve_op o_div f_div (ve_varB (i := 0) rfl v__law_sheet_number) (pe_B ve_int)) (va_cons (ve_var (i := 1) rfl v__law_sheet_many) (va_cons (ve_op o_add f_add (pe_B ve_int) (pe_B (ve_op o_mul f_mul (pe_B ve_int) (pe_B (ve_callTy call_int1 f_int g__law_sheet_int T.z_int bt_int (pe_B (ve_cmp (op_eqD hr.units) f_eq (pe_B (ve_op op_mod f_mod (pe_B (ve_op o_div f_div (ve_varB (i := 0) rfl v__law_sheet_number) (pe_B ve_int))) (pe_B ve_int))) (pe_B ve_int) (nomark _)))))))) (va_cons ve_int va_nil))))))))))
theorem d__law_whole (T : Top K mg) (k : Nat) (IH : Ok P w K cl mg base T k) :
    FnOk P w K mg base CX0 (k + 1) T.a__law_whole T.d__law_whole ["thing", "low", "high"] (spF K cl 3 (runM 3 (m__law_whole (callF k)))) :=
  fn_ok (N := N__law_whole) (st := st__law_whole) (m := m__law_whole (callF k)) T.f__law_whole sc__law_whole fun cdv A outer s H E H0 F0 hr =>
  (vs_one (vs_ret (ve_and (ve_isi (T := "int") (by decide) g__law_whole_isinstance T.z_isinstance g__law_whole_int T.z_int bt_int (ve_varB (i := 0) rfl v__law_whole_thing)) (ve_and (ve_not (ve_isi (T := "bool") (by decide) g__law_whole_isinstance T.z_isinstance g__law_whole_bool T.z_bool bt_bool (ve_varB (i := 0) rfl v__law_whole_thing))) (ve_one (ve_chain op_le t_le op_le f_le (ve_varB (i := 1) rfl v__law_whole_low) (ve_varB (i := 0) rfl v__law_whole_thing) (ve_varB (i := 2) rfl v__law_whole_high)))))))
theorem d__law_is_name (T : Top K mg) (k : Nat) (IH : Ok P w K cl mg base T k) :
    FnOk P w K mg base CX0 (k + 1) T.a__law_is_name T.d__law_is_name ["thing"] (spF K cl 1 (runM 2 (m__law_is_name (callF k)))) :=
  fn_ok (N := N__law_is_name) (st := st__law_is_name) (m := m__law_is_name (callF k)) T.f__law_is_name sc__law_is_name fun cdv A outer s H E H0 F0 hr =>
  (vs_cons (vs_if (PW.pt (vw_or (vt_not (vt_val (ve_isi (T := "str") (by decide) g__law_is_name_isinstance T.z_isinstance g__law_is_name_str T.z_str bt_str (ve_varB (i := 0) rfl v__law_is_name_thing)))) (vw_or (vt_not (vt_chain op_le t_le op_le f_le (pe_B ve_int) (pe_B (ve_callB o_len f_len g__law_is_name_len T.z_len bt_len (ve_varB (i := 0) rfl v__law_is_name_thing))) (pe_B ve_int))) (vw_or1 (vt_cmp (o_in (hu65 hr)) f_in (ve_varB (i := 0) rfl v__law_is_name_thing) (pe_B (ve_tup (va_cons ve_str (va_cons ve_str (va_cons ve_str va_nil))))) rfl))))) (vs_one (vs_ret ve_bl)) vs_nil)
  (vs_one (vs_ret (ve_cmp (op_eqD hr.units) f_eq (pe_B (ve_lc (own := [("sign", 1)]) rfl sc__law_is_name.nd (vi_any (ve_var (i := 0) rfl v__law_is_name_thing)) (blkOk_by (own := [("sign", 1)]) (N := N__law_is_name) (sc := defScope st__law_is_name) (by decide +kernel)) (fun _ _ _ _ _ => (vg_name (i := 1) sc__law_is_name.nd rfl (.inl (blk_local (by decide +kernel))) (.inr (blk_local (by decide +kernel))))) (by decide) (fun _ _ _ _ _ => (vts_one (vt_cmp op_lt f_lt (pe_B (ve_m1 F.slot_str_find F.type_str_find mt_find f_find (pe_B ve_str) (ve_varB (i := 1) rfl (.inl (blk_local (by decide +kernel)))))) (pe_B ve_int) (nomark _)))) (fun _ _ _ _ _ => (ve_var (i := 1) rfl (.inl (blk_local (by decide +kernel))))))) (pe_B (ve_lst va_nil)) (nomark _)))))
theorem d__law_is_sum (T : Top K mg) (k : Nat) (IH : Ok P w K cl mg base T k) :
    FnOk P w K mg base CX0 (k + 1) T.a__law_is_sum T.d__law_is_sum ["thing", "deep"] (spF K cl 2 (runM 2 (m__law_is_sum (callF k)))) :=
  fn_ok (N := N__law_is_sum) (st := st__law_is_sum) (m := m__law_is_sum (callF k)) T.f__law_is_sum sc__law_is_sum fun cdv A outer s H E H0 F0 hr =>
  (vs_cons (vs_if (PW.pt (vw_or (vt_val (ve_call IH.o__law_whole hr g__law_is_sum__law_whole T.g__law_whole T.f__law_whole.kp T.b__law_whole (va_cons (ve_var (i := 0) rfl v__law_is_sum_thing) (va_cons (ve_un un_neg f_neg (pe_B ve_int)) (va_cons ve_int va_nil))))) (vw_or1 (vt_val (ve_call IH.o__law_is_name hr g__law_is_sum__law_is_name T.g__law_is_name T.f__law_is_name.kp T.b__law_is_name (va_cons (ve_var (i := 0) rfl v__law_is_sum_thing) va_nil)))))) (vs_one (vs_ret ve_bl)) vs_nil)
  (vs_cons (vs_if (PW.pt (vw_or (vt_cmp (op_eqD hr.units) f_eq (ve_varB (i := 1) rfl v__law_is_sum_deep) (pe_B ve_int) (nomark _)) (vw_or (vt_not (vt_val (ve_isi (T := "tuple") (by decide) g__law_is_sum_isinstance T.z_isinstance g__law_is_sum_tuple T.z_tuple bt_tuple (ve_varB (i := 0) rfl v__law_is_sum_thing)))) (vw_or1 (vt_cmp (op_neD hr.units) f_ne (pe_B (ve_callB o_len f_len g__law_is_sum_len T.z_len bt_len (ve_varB (i := 0) rfl v__law_is_sum_thing))) (pe_B ve_int) (nomark _)))))) (vs_one (vs_ret ve_bl)) vs_nil)
  (vs_cons (vs_if (vt_cmp (o_notIn (hu65 hr)) f_notIn (pe_B (ve_ix (o_ix (hu_of hr)) f_ix (ve_varB (i := 0) rfl v__law_is_sum_thing) (pe_B ve_int) (fun _ _ => rfl))) (pe_B (ve_tup (va_cons ve_str (va_cons ve_str (va_cons ve_str (va_cons ve_str (va_cons ve_str va_nil))))))) rfl) (vs_one (vs_ret ve_bl)) vs_nil)
  (vs_one (vs_ret (ve_and (ve_call IH.o__law_is_sum hr g__law_is_sum__law_is_sum T.g__law_is_sum T.f__law_is_sum.kp T.b__law_is_sum (va_cons (ve_ix (o_ix (hu_of hr)) f_ix (ve_varB (i := 0) rfl v__law_is_sum_thing) (pe_B ve_int) (fun _ _ => rfl)) (va_cons (ve_op op_sub f_sub (ve_varB (i := 1) rfl v__law_is_sum_deep) (pe_B ve_int)) va_nil))) (ve_one (ve_call IH.o__law_is_sum hr g__law_is_sum__law_is_sum T.g__law_is_sum T.f__law_is_sum.kp T.b__law_is_sum (va_cons (ve_ix (o_ix (hu_of hr)) f_ix (ve_varB (i := 0) rfl v__law_is_sum_thing) (pe_B ve_int) (fun _ _ => rfl)) (va_cons (ve_op op_sub f_sub (ve_varB (i := 1) rfl v__law_is_sum_deep) (pe_B ve_int)) va_nil))))))))))
theorem d__law_rises (T : Top K mg) (k : Nat) (IH : Ok P w K cl mg base T k) :
    FnOk P w K mg base CX0 (k + 1) T.a__law_rises T.d__law_rises ["row"] (spF K cl 1 (runM 2 (m__law_rises (callF k)))) :=
  fn_ok (N := N__law_rises) (st := st__law_rises) (m := m__law_rises (callF k)) T.f__law_rises sc__law_rises fun cdv A outer s H E H0 F0 hr =>
  (vs_one (vs_ret (ve_cmp (op_eqD hr.units) f_eq (pe_B (ve_lc (own := [("k", 1)]) rfl sc__law_rises.nd (vi_range2 g__law_rises_range T.z_range ve_int (ve_callB o_len f_len g__law_rises_len T.z_len bt_len (ve_varB (i := 0) rfl v__law_rises_row))) (blkOk_by (own := [("k", 1)]) (N := N__law_rises) (sc := defScope st__law_rises) (by decide +kernel)) (fun _ _ _ _ _ => (vg_name (i := 1) sc__law_rises.nd rfl (.inl (blk_local (by decide +kernel))) (.inr (blk_local (by decide +kernel))))) (by decide) (fun _ _ _ _ _ => (vts_one (vt_cmp op_ge f_ge (pe_B (ve_ix (o_ix (hu_of hr)) f_ix (ve_varB (i := 0) rfl (blk_free (by decide +kernel))) (pe_B (ve_op op_sub f_sub (ve_varB (i := 1) rfl (.inl (blk_local (by decide +kernel)))) (pe_B ve_int))) (fun _ _ => rfl))) (pe_B (ve_ix (o_ix (hu_of hr)) f_ix (ve_varB (i := 0) rfl (blk_free (by decide +kernel))) (ve_varB (i := 1) rfl (.inl (blk_local (by decide +kernel)))) (fun _ _ => rfl))) (nomark _)))) (fun _ _ _ _ _ => (ve_var (i := 1) rfl (.inl (blk_local (by decide +kernel))))))) (pe_B (ve_lst va_nil)) (nomark _))))
theorem d__law_are_options (T : Top K mg) (k : Nat) (IH : Ok P w K cl mg base T k) :
    FnOk P w K mg base CX0 (k + 1) T.a__law_are_options T.d__law_are_options ["thing", "most"] (spF K cl 2 (runM 3 (m__law_are_options (callF k)))) :=
  fn_ok (N := N__law_are_options) (st := st__law_are_options) (m := m__law_are_options (callF k)) T.f__law_are_options sc__law_are_options fun cdv A outer s H E H0 F0 hr =>
  (vs_cons (vs_if (PW.pt (vw_or (vt_not (vt_val (ve_isi (T := "tuple") (by decide) g__law_are_options_isinstance T.z_isinstance g__law_are_options_tuple T.z_tuple bt_tuple (ve_varB (i := 0) rfl v__law_are_options_thing)))) (vw_or1 (vt_not (vt_chain op_le t_le op_le f_le (pe_B ve_int) (pe_B (ve_callB o_len f_len g__law_are_options_len T.z_len bt_len (ve_varB (i := 0) rfl v__law_are_options_thing))) (ve_varB (i := 1) rfl v__law_are_options_most)))))) (vs_one (vs_ret ve_bl)) vs_nil)
  (vs_one (vs_ret (ve_and (ve_cmp (op_eqD hr.units) f_eq (pe_B (ve_lc (own := [("part", 2)]) rfl sc__law_are_options.nd (vi_any (ve_var (i := 0) rfl v__law_are_options_thing)) (blkOk_by (own := [("part", 2)]) (N := N__law_are_options) (sc := defScope st__law_are_options) (by decide +kernel)) (fun _ _ _ _ _ => (vg_name (i := 2) sc__law_are_options.nd rfl (.inl (blk_local (by decide +kernel))) (.inr (blk_local (by decide +kernel))))) (by decide) (fun _ _ _ _ _ => (vts_one (vt_not (vt_val (ve_call IH.o__law_whole hr (blk_glob (by decide +kernel)) T.g__law_whole T.f__law_whole.kp T.b__law_whole (va_cons (ve_var (i := 2) rfl (.inl (blk_local (by decide +kernel)))) (va_cons (ve_un un_neg f_neg (pe_B ve_int)) (va_cons ve_int va_nil)))))))) (fun _ _ _ _ _ => (ve_var (i := 2) rfl (.inl (blk_local (by decide +kernel))))))) (pe_B (ve_lst va_nil)) (nomark _)) (ve_one (ve_call IH.o__law_rises hr g__law_are_options__law_rises T.g__law_rises T.f__law_rises.kp T.b__law_rises (va_cons (ve_var (i := 0) rfl v__law_are_options_thing) va_nil)))))))
theorem d__law_are_lots (T : Top K mg) (k : Nat) (IH : Ok P w K cl mg base T k) :
    FnOk P w K mg base CX0 (k + 1) T.a__law_are_lots T.d__law_are_lots ["thing"] (spF K cl 1 (runM 2 (m__law_are_lots (callF k)))) :=
  fn_ok (N := N__law_are_lots) (st := st__law_are_lots) (m := m__law_are_lots (callF k)) T.f__law_are_lots sc__law_are_lots fun cdv A outer s H E H0 F0 hr =>
  (vs_cons (vs_if (PW.pt (vw_or (vt_not (vt_val (ve_isi (T := "tuple") (by decide) g__law_are_lots_isinstance T.z_isinstance g__law_are_lots_tuple T.z_tuple bt_tuple (ve_varB (i := 0) rfl v__law_are_lots_thing)))) (vw_or1 (vt_cmp (op_neD hr.units) f_ne (pe_B (ve_lc (own := [("lot", 1)]) rfl sc__law_are_lots.nd (vi_any (ve_var (i := 0) rfl v__law_are_lots_thing)) (blkOk_by (own := [("lot", 1)]) (N := N__law_are_lots) (sc := defScope st__law_are_lots) (by decide +kernel)) (fun _ _ _ _ _ => (vg_name (i := 1) sc__law_are_lots.nd rfl (.inl (blk_local (by decide +kernel))) (.inr (blk_local (by decide +kernel))))) (by decide) (fun _ _ _ _ _ => (vts_one (PW.pt (vw_or (vt_not (vt_val (ve_isi (T := "tuple") (by decide) (blk_glob (by decide +kernel)) T.z_isinstance (blk_glob (by decide +kernel)) T.z_tuple bt_tuple (ve_varB (i := 1) rfl (.inl (blk_local (by decide +kernel))))))) (vw_or1 (vt_cmp (op_neD hr.units) f_ne (pe_B (ve_callB o_len f_len (blk_glob (by decide +kernel)) T.z_len bt_len (ve_varB (i := 1) rfl (.inl (blk_local (by decide +kernel)))))) (pe_B ve_int) (nomark _))))))) (fun _ _ _ _ _ => (ve_var (i := 1) rfl (.inl (blk_local (by decide +kernel))))))) (pe_B (ve_lst va_nil)) (nomark _))))) (vs_one (vs_ret ve_bl)) vs_nil)
  (vs_cons (vs_if (vt_cmp (op_neD hr.units) f_ne (pe_B (ve_lc (own := [("lot", 1)]) rfl sc__law_are_lots.nd (vi_any (ve_var (i := 0) rfl v__law_are_lots_thing)) (blkOk_by (own := [("lot", 1)]) (N := N__law_are_lots) (sc := defScope st__law_are_lots) (by decide +kernel)) (fun _ _ _ _ _ => (vg_name (i := 1) sc__law_are_lots.nd rfl (.inl (blk_local (by decide +kernel))) (.inr (blk_local (by decide +kernel))))) (by decide) (fun _ _ _ _ _ => (vts_one (vt_not (vt_val (ve_call IH.o__law_whole hr (blk_glob (by decide +kernel)) T.g__law_whole T.f__law_whole.kp T.b__law_whole (va_cons (ve_ix (o_ix (hu_of hr)) f_ix (ve_varB (i := 1) rfl (.inl (blk_local (by decide +kernel)))) (pe_B ve_int) (fun _ _ => rfl)) (va_cons ve_int (va_cons ve_int va_nil)))))))) (fun _ _ _ _ _ => (ve_var (i := 1) rfl (.inl (blk_local (by decide +kernel))))))) (pe_B (ve_lst va_nil)) (nomark _)) (vs_one (vs_ret ve_bl)) vs_nil)
  (vs_one (vs_ret (ve_call IH.o__law_are_options hr g__law_are_lots__law_are_options T.g__law_are_options T.f__law_are_options.kp T.b__law_are_options (va_cons (ve_callTy o_tuple f_tuple g__law_are_lots_tuple T.z_tuple bt_tuple (pe_B (ve_lc (own := [("lot", 1)]) rfl sc__law_are_lots.nd (vi_any (ve_var (i := 0) rfl v__law_are_lots_thing)) (blkOk_by (own := [("lot", 1)]) (N := N__law_are_lots) (sc := defScope st__law_are_lots) (by decide +kernel)) (fun _ _ _ _ _ => (vg_name (i := 1) sc__law_are_lots.nd rfl (.inl (blk_local (by decide +kernel))) (.inr (blk_local (by decide +kernel))))) (by decide) (fun _ _ _ _ _ => vts_nil) (fun _ _ _ _ _ => (ve_ix (o_ix (hu_of hr)) f_ix (ve_varB (i := 1) rfl (.inl (blk_local (by decide +kernel)))) (pe_B ve_int) (fun _ _ => rfl)))))) (va_cons ve_int va_nil)))))))
theorem d__law_is_step (T : Top K mg) (k : Nat) (IH : Ok P w K cl mg base T k) :
    FnOk P w K mg base CX0 (k + 1) T.a__law_is_step T.d__law_is_step ["thing", "deep"] (spF K cl 2 (runM 2 (m__law_is_step (callF k)))) :=
  fn_ok (N := N__law_is_step) (st := st__law_is_step) (m := m__law_is_step (callF k)) T.f__law_is_step sc__law_is_step fun cdv A outer s H E H0 F0 hr =>
  (vs_cons (vs_if (PW.pt (vw_or (vt_not (vt_val (ve_isi (T := "tuple") (by decide) g__law_is_step_isinstance T.z_isinstance g__law_is_step_tuple T.z_tuple bt_tuple (ve_varB (i := 0) rfl v__law_is_step_thing)))) (vw_or1 (vt_cmp (op_eqD hr.units) f_eq (pe_B (ve_callB o_len f_len g__law_is_step_len T.z_len bt_len (ve_varB (i := 0) rfl v__law_is_step_thing))) (pe_B ve_int) (nomark _))))) (vs_one (vs_ret ve_bl)) vs_nil)
  (vs_cons (vs_if (vt_cmp (op_eqD hr.units) f_eq (pe_B (ve_ix (o_ix (hu_of hr)) f_ix (ve_varB (i := 0) rfl v__law_is_step_thing) (pe_B ve_int) (fun _ _ => rfl))) (pe_B ve_str) (nomark _)) (vs_one (vs_ret (ve_and (ve_cmp (op_eqD hr.units) f_eq (pe_B (ve_callB o_len f_len g__law_is_step_len T.z_len bt_len (ve_varB (i := 0) rfl v__law_is_step_thing))) (pe_B ve_int) (nomark _)) (ve_and (ve_call IH.o__law_is_name hr g__law_is_step__law_is_name T.g__law_is_name T.f__law_is_name.kp T.b__law_is_name (va_cons (ve_ix (o_ix (hu_of hr)) f_ix (ve_varB (i := 0) rfl v__law_is_step_thing) (pe_B ve_int) (fun _ _ => rfl)) va_nil)) (ve_one (ve_call IH.o__law_are_lots hr g__law_is_step__law_are_lots T.g__law_are_lots T.f__law_are_lots.kp T.b__law_are_lots (va_cons (ve_ix (o_ix (hu_of hr)) f_ix (ve_varB (i := 0) rfl v__law_is_step_thing) (pe_B ve_int) (fun _ _ => rfl)) va_nil))))))) vs_nil)
  (vs_cons (vs_if (vt_cmp (op_eqD hr.units) f_eq (pe_B (ve_ix (o_ix (hu_of hr)) f_ix (ve_varB (i := 0) rfl v__law_is_step_thing) (pe_B ve_int) (fun _ _ => rfl))) (pe_B ve_str) (nomark _)) (vs_one (vs_ret (ve_and (ve_cmp (op_eqD hr.units) f_eq (pe_B (ve_callB o_len f_len g__law_is_step_len T.z_len bt_len (ve_varB (i := 0) rfl v__law_is_step_thing))) (pe_B ve_int) (nomark _)) (ve_and (ve_call IH.o__law_is_name hr g__law_is_step__law_is_name T.g__law_is_name T.f__law_is_name.kp T.b__law_is_name (va_cons (ve_ix (o_ix (hu_of hr)) f_ix (ve_varB (i := 0) rfl v__law_is_step_thing) (pe_B ve_int) (fun _ _ => rfl)) va_nil)) (ve_one (ve_call IH.o__law_whole hr g__law_is_step__law_whole T.g__law_whole T.f__law_whole.kp T.b__law_whole (va_cons (ve_ix (o_ix (hu_of hr)) f_ix (ve_varB (i := 0) rfl v__law_is_step_thing) (pe_B ve_int) (fun _ _ => rfl)) (va_cons ve_int (va_cons ve_int va_nil))))))))) vs_nil)
  (vs_cons (vs_if (vt_cmp (op_eqD hr.units) f_eq (pe_B (ve_ix (o_ix (hu_of hr)) f_ix (ve_varB (i := 0) rfl v__law_is_step_thing) (pe_B ve_int) (fun _ _ => rfl))) (pe_B ve_str) (nomark _)) (vs_cons (vs_if (PW.pt (vw_or (vt_cmp (op_neD hr.units) f_ne (pe_B (ve_callB o_len f_len g__law_is_step_len T.z_len bt_len (ve_varB (i := 0) rfl v__law_is_step_thing))) (pe_B ve_int) (nomark _)) (vw_or1 (vt_not (vt_val (ve_call IH.o__law_whole hr g__law_is_step__law_whole T.g__law_whole T.f__law_whole.kp T.b__law_whole (va_cons (ve_ix (o_ix (hu_of hr)) f_ix (ve_varB (i := 0) rfl v__law_is_step_thing) (pe_B ve_int) (fun _ _ => rfl)) (va_cons ve_int (va_cons ve_int va_nil))))))))) (vs_one (vs_ret ve_bl)) vs_nil)
  (vs_one (vs_ret (ve_and (ve_call IH.o__law_is_name hr g__law_is_step__law_is_name T.g__law_is_name T.f__law_is_name.kp T.b__law_is_name (va_cons (ve_ix (o_ix (hu_of hr)) f_ix (ve_varB (i := 0) rfl v__law_is_step_thing) (pe_B ve_int) (fun _ _ => rfl)) va_nil)) (ve_one (ve_call IH.o__law_are_options hr g__law_is_step__law_are_options T.g__law_are_options T.f__law_are_options.kp T.b__law_are_options (va_cons (ve_ix (o_ix (hu_of hr)) f_ix (ve_varB (i := 0) rfl v__law_is_step_thing) (pe_B ve_int) (fun _ _ => rfl)) (va_cons ve_int va_nil)))))))) vs_nil)
  (vs_cons (vs_if (vt_cmp (op_eqD hr.units) f_eq (pe_B (ve_ix (o_ix (hu_of hr)) f_ix (ve_varB (i := 0) rfl v__law_is_step_thing) (pe_B ve_int) (fun _ _ => rfl))) (pe_B ve_str) (nomark _)) (vs_one (vs_ret (ve_and (ve_cmp (op_eqD hr.units) f_eq (pe_B (ve_callB o_len f_len g__law_is_step_len T.z_len bt_len (ve_varB (i := 0) rfl v__law_is_step_thing))) (pe_B ve_int) (nomark _)) (ve_and (ve_call IH.o__law_is_name hr g__law_is_step__law_is_name T.g__law_is_name T.f__law_is_name.kp T.b__law_is_name (va_cons (ve_ix (o_ix (hu_of hr)) f_ix (ve_varB (i := 0) rfl v__law_is_step_thing) (pe_B ve_int) (fun _ _ => rfl)) va_nil)) (ve_one (ve_call IH.o__law_is_sum hr g__law_is_step__law_is_sum T.g__law_is_sum T.f__law_is_sum.kp T.b__law_is_sum (va_cons (ve_ix (o_ix (hu_of hr)) f_ix (ve_varB (i := 0) rfl v__law_is_step_thing) (pe_B ve_int) (fun _ _ => rfl)) (va_cons ve_int va_nil)))))))) vs_nil)
  (vs_cons (vs_if (vt_cmp (op_eqD hr.units) f_eq (pe_B (ve_ix (o_ix (hu_of hr)) f_ix (ve_varB (i := 0) rfl v__law_is_step_thing) (pe_B ve_int) (fun _ _ => rfl))) (pe_B ve_str) (nomark _)) (vs_one (vs_ret (ve_and (ve_cmp (op_eqD hr.units) f_eq (pe_B (ve_callB o_len f_len g__law_is_step_len T.z_len bt_len (ve_varB (i := 0) rfl v__law_is_step_thing))) (pe_B ve_int) (nomark _)) (ve_one (ve_call IH.o__law_is_sum hr g__law_is_step__law_is_sum T.g__law_is_sum T.f__law_is_sum.kp T.b__law_is_sum (va_cons (ve_ix (o_ix (hu_of hr)) f_ix (ve_varB (i := 0) rfl v__law_is_step_thing) (pe_B ve_int) (fun _ _ => rfl)) (va_cons ve_int va_nil))))))) vs_nil)
  (vs_cons (vs_if (PW.pt (vw_or (vt_cmp (op_neD hr.units) f_ne (pe_B (ve_ix (o_ix (hu_of hr)) f_ix (ve_varB (i := 0) rfl v__law_is_step_thing) (pe_B ve_int) (fun _ _ => rfl))) (pe_B ve_str) (nomark _)) (vw_or (vt_cmp (op_neD hr.units) f_ne (pe_B (ve_callB o_len f_len g__law_is_step_len T.z_len bt_len (ve_varB (i := 0) rfl v__law_is_step_thing))) (pe_B ve_int) (nomark _)) (vw_or (vt_cmp (op_eqD hr.units) f_eq (ve_varB (i := 1) rfl v__law_is_step_deep) (pe_B ve_int) (nomark _)) (vw_or1 (vt_not (vt_val (ve_call IH.o__law_is_sum hr g__law_is_step__law_is_sum T.g__law_is_sum T.f__law_is_sum.kp T.b__law_is_sum (va_cons (ve_ix (o_ix (hu_of hr)) f_ix (ve_varB (i := 0) rfl v__law_is_step_thing) (pe_B ve_int) (fun _ _ => rfl)) (va_cons ve_int va_nil)))))))))) (vs_one (vs_ret ve_bl)) vs_nil)
  (vs_one (vs_ret (ve_and (ve_call IH.o__law_is_sheet hr g__law_is_step__law_is_sheet T.g__law_is_sheet T.f__law_is_sheet.kp T.b__law_is_sheet (va_cons (ve_ix (o_ix (hu_of hr)) f_ix (ve_varB (i := 0) rfl v__law_is_step_thing) (pe_B ve_int) (fun _ _ => rfl)) (va_cons (ve_op op_sub f_sub (ve_varB (i := 1) rfl v__law_is_step_deep) (pe_B ve_int)) va_nil))) (ve_one (ve_call IH.o__law_is_sheet hr g__law_is_step__law_is_sheet T.g__law_is_sheet T.f__law_is_sheet.kp T.b__law_is_sheet (va_cons (ve_ix (o_ix (hu_of hr)) f_ix (ve_varB (i := 0) rfl v__law_is_step_thing) (pe_B ve_int) (fun _ _ => rfl)) (va_cons (ve_op op_sub f_sub (ve_varB (i := 1) rfl v__law_is_step_deep) (pe_B ve_int)) va_nil))))))))))))))
theorem d__law_is_sheet (T : Top K mg) (k : Nat) (IH : Ok P w K cl mg base T k) :
    FnOk P w K mg base CX0 (k + 1) T.a__law_is_sheet T.d__law_is_sheet ["thing", "deep"] (spF K cl 2 (runM 3 (m__law_is_sheet (callF k)))) :=
  fn_ok (N := N__law_is_sheet) (st := st__law_is_sheet) (m := m__law_is_sheet (callF k)) T.f__law_is_sheet sc__law_is_sheet fun cdv A outer s H E H0 F0 hr =>
  (vs_cons (vs_if (PW.pt (vw_or (vt_not (vt_val (ve_isi (T := "tuple") (by decide) g__law_is_sheet_isinstance T.z_isinstance g__law_is_sheet_tuple T.z_tuple bt_tuple (ve_varB (i := 0) rfl v__law_is_sheet_thing)))) (vw_or1 (vt_cmp op_gt f_gt (pe_B (ve_callB o_len f_len g__law_is_sheet_len T.z_len bt_len (ve_varB (i := 0) rfl v__law_is_sheet_thing))) (pe_B ve_int) (nomark _))))) (vs_one (vs_ret ve_bl)) vs_nil)
  (vs_one (vs_ret (ve_cmp (op_eqD hr.units) f_eq (pe_B (ve_lc (own := [("step", 2)]) rfl sc__law_is_sheet.nd (vi_any (ve_var (i := 0) rfl v__law_is_sheet_thing)) (blkOk_by (own := [("step", 2)]) (N := N__law_is_sheet) (sc := defScope st__law_is_sheet) (by decide +kernel)) (fun _ _ _ _ _ => (vg_name (i := 2) sc__law_is_sheet.nd rfl (.inl (blk_local (by decide +kernel))) (.inr (blk_local (by decide +kernel))))) (by decide) (fun _ _ _ _ _ => (vts_one (vt_not (vt_val (ve_call IH.o__law_is_step hr (blk_glob (by decide +kernel)) T.g__law_is_step T.f__law_is_step.kp T.b__law_is_step (va_cons (ve_var (i := 2) rfl (.inl (blk_local (by decide +kernel)))) (va_cons (ve_var (i := 1) rfl (blk_free (by decide +kernel))) va_nil))))))) (fun _ _ _ _ _ => (ve_var (i := 2) rfl (.inl (blk_local (by decide +kernel))))))) (pe_B (ve_lst va_nil)) (nomark _)))))
theorem d__law_odd (T : Top K mg) (k : Nat) (IH : Ok P w K cl mg base T k) :
    FnOk P w K mg base CX0 (k + 1) T.a__law_odd T.d__law_odd ["number"] (spF K cl 1 (runM 2 (m__law_odd (callF k)))) :=
  fn_ok (N := N__law_odd) (st := st__law_odd) (m := m__law_odd (callF k)) T.f__law_odd sc__law_odd fun cdv A outer s H E H0 F0 hr =>
  (vs_cons (vs_set (i := 1) sc__law_odd.nd rfl l__law_odd_some (ve_lst (va_cons (ve_un un_neg f_neg (pe_B ve_int)) (va_cons ve_int (va_cons ve_int (va_cons ve_int (va_cons ve_int (va_cons (ve_un un_neg f_neg (pe_B ve_int)) (va_cons ve_bl (va_cons ve_bl (va_cons ve_non (va_cons ve_str (va_cons ve_str (va_cons ve_str (va_cons ve_str (va_cons ve_str (va_cons ve_str (va_cons (ve_tup va_nil) (va_cons (ve_lst va_nil) (va_cons (ve_tup (va_cons ve_str (va_cons ve_int va_nil))) va_nil))))))))))))))))))))
  (vs_cons (vs_set (i := 1) sc__law_odd.nd rfl l__law_odd_some (ve_op o_add f_add (ve_varB (i := 1) rfl v__law_odd_some) (pe_B (ve_lst (va_cons (ve_tup (va_cons ve_str (va_cons ve_str (va_cons ve_int va_nil)))) (va_cons (ve_tup (va_cons ve_str (va_cons ve_int (va_cons ve_int va_nil)))) (va_cons (ve_tup (va_cons ve_str (va_cons ve_str (va_cons ve_bl va_nil)))) (va_cons (ve_tup (va_cons (ve_tup (va_cons ve_int (va_cons ve_int va_nil))) va_nil)) (va_cons (ve_tup (va_cons (ve_tup (va_cons ve_int (va_cons ve_int va_nil))) va_nil)) (va_cons (ve_tup (va_cons (ve_tup (va_cons ve_int (va_cons ve_int va_nil))) va_nil)) (va_cons (ve_tup (va_cons ve_int (va_cons ve_int va_nil))) va_nil)))))))))))
  (vs_cons (vs_set (i := 1) sc__law_odd.nd rfl l__law_odd_some (ve_op o_add f_add (ve_varB (i := 1) rfl v__law_odd_some) (pe_B (ve_lst (va_cons (ve_tup (va_cons (ve_tup (va_cons ve_int (va_cons ve_int va_nil))) (va_cons (ve_tup (va_cons ve_int (va_cons ve_int va_nil))) va_nil))) (va_cons (ve_tup (va_cons ve_int (va_cons ve_int va_nil))) (va_cons (ve_tup (va_cons ve_str (va_cons ve_int (va_cons (ve_tup va_nil) (va_cons (ve_tup va_nil) va_nil))))) (va_cons (ve_tup (va_cons ve_str (va_cons ve_int (va_cons ve_str (va_cons (ve_tup va_nil) va_nil))))) (va_cons (ve_tup (va_cons ve_str (va_cons ve_str (va_cons ve_int va_nil)))) va_nil)))))))))
  (vs_one (vs_ret (ve_ix (o_ix (hu_of hr)) f_ix (pe_B (ve_op o_add f_add (ve_varB (i := 1) rfl v__law_odd_some) (pe_B (ve_lst (va_cons (ve_tup (va_cons (ve_tup (va_cons ve_str (va_cons ve_str va_nil))) va_nil)) va_nil))))) (pe_B (ve_op op_mod f_mod (ve_varB (i := 0) rfl v__law_odd_number) (pe_B ve_int))) (fun _ _ => rfl)))))))
theorem d__law_spoilt (T : Top K mg) (k : Nat) (IH : Ok P w K cl mg base T k) :
    FnOk P w K mg base CX0 (k + 1) T.a__law_spoilt T.d__law_spoilt ["thing", "number", "deep"] (spF K cl 3 (runM 6 (m__law_spoilt (callF k)))) :=
  fn_ok (N := N__law_spoilt) (st := st__law_spoilt) (m := m__law_spoilt (callF k)) T.f__law_spoilt sc__law_spoilt fun cdv A outer s H E H0 F0 hr =>
  (vs_cons (vs_if (PW.pt (vw_and (vt_cmp op_gt f_gt (ve_varB (i := 2) rfl v__law_spoilt_deep) (pe_B ve_int) (nomark _)) (vw_and (vt_val (ve_isi (T := "tuple") (by decide) g__law_spoilt_isinstance T.z_isinstance g__law_spoilt_tuple T.z_tuple bt_tuple (ve_varB (i := 0) rfl v__law_spoilt_thing))) (vw_and (vt_cmp op_gt f_gt (pe_B (ve_callB o_len f_len g__law_spoilt_len T.z_len bt_len (ve_varB (i := 0) rfl v__law_spoilt_thing))) (pe_B ve_int) (nomark _)) (vw_and1 (vt_cmp op_gt f_gt (pe_B (ve_op op_mod f_mod (ve_varB (i := 1) rfl v__law_spoilt_number) (pe_B ve_int))) (pe_B ve_int) (nomark _))))))) (vs_cons (vs_set (i := 3) sc__law_spoilt.nd rfl l__law_spoilt_at (ve_op op_mod f_mod (pe_B (ve_op o_div f_div (ve_varB (i := 1) rfl v__law_spoilt_number) (pe_B ve_int))) (pe_B (ve_callB o_len f_len g__law_spoilt_len T.z_len bt_len (ve_varB (i := 0) rfl v__law_spoilt_thing)))))
  (vs_cons (vs_set (i := 4) sc__law_spoilt.nd rfl l__law_spoilt_part (ve_call IH.o__law_spoilt hr g__law_spoilt__law_spoilt T.g__law_spoilt T.f__law_spoilt.kp T.b__law_spoilt (va_cons (ve_ix (o_ix (hu_of hr)) f_ix (ve_varB (i := 0) rfl v__law_spoilt_thing) (ve_varB (i := 3) rfl v__law_spoilt_at) (fun _ _ => rfl)) (va_cons (ve_op o_div f_div (ve_varB (i := 1) rfl v__law_spoilt_number) (pe_B ve_int)) (va_cons (ve_op op_sub f_sub (ve_varB (i := 2) rfl v__law_spoilt_deep) (pe_B ve_int)) va_nil)))))
  (vs_one (vs_ret (ve_op o_add f_add (pe_B (ve_op o_add f_add (pe_B (ve_slice (ve_varB (i := 0) rfl v__law_spoilt_thing) vo_none (vo_some (ve_var (i := 3) rfl v__law_spoilt_at)))) (pe_B (ve_tup (va_cons (ve_var (i := 4) rfl v__law_spoilt_part) va_nil))))) (pe_B (ve_slice (ve_varB (i := 0) rfl v__law_spoilt_thing) (vo_some (ve_op o_add f_add (ve_varB (i := 3) rfl v__law_spoilt_at) (pe_B ve_int))) vo_none))))))) vs_nil)
  (vs_cons (vs_if (PW.pt (vw_and (vt_val (ve_isi (T := "tuple") (by decide) g__law_spoilt_isinstance T.z_isinstance g__law_spoilt_tuple T.z_tuple bt_tuple (ve_varB (i := 0) rfl v__law_spoilt_thing))) (vw_and (vt_cmp op_gt f_gt (pe_B (ve_callB o_len f_len g__law_spoilt_len T.z_len bt_len (ve_varB (i := 0) rfl v__law_spoilt_thing))) (pe_B ve_int) (nomark _)) (vw_and1 (vt_cmp (op_eqD hr.units) f_eq (pe_B (ve_op op_mod f_mod (pe_B (ve_op o_div f_div (ve_varB (i := 1) rfl v__law_spoilt_number) (pe_B ve_int))) (pe_B ve_int))) (pe_B ve_int) (nomark _)))))) (vs_cons (vs_set (i := 5) sc__law_spoilt.nd rfl l__law_spoilt_some (ve_lst (va_cons (ve_callTy call_list_of f_list g__law_spoilt_list T.z_list bt_list (ve_varB (i := 0) rfl v__law_spoilt_thing)) (va_cons (ve_slice (ve_varB (i := 0) rfl v__law_spoilt_thing) vo_none (vo_some (ve_un un_neg f_neg (pe_B ve_int)))) (va_cons (ve_op o_add f_add (ve_varB (i := 0) rfl v__law_spoilt_thing) (pe_B (ve_slice (ve_varB (i := 0) rfl v__law_spoilt_thing) (vo_some (ve_un un_neg f_neg (pe_B ve_int))) vo_none))) (va_cons (ve_slice (ve_varB (i := 0) rfl v__law_spoilt_thing) (vo_some ve_int) vo_none) (va_cons (ve_revA (ve_varB (i := 0) rfl v__law_spoilt_thing)) (va_cons (ve_op o_mul f_mul (ve_varB (i := 0) rfl v__law_spoilt_thing) (pe_B ve_int)) (va_cons (ve_op o_mul f_mul (ve_varB (i := 0) rfl v__law_spoilt_thing) (pe_B ve_int)) va_nil)))))))))
  (vs_one (vs_ret (ve_ix (o_ix (hu_of hr)) f_ix (ve_varB (i := 5) rfl v__law_spoilt_some) (pe_B (ve_op op_mod f_mod (pe_B (ve_op o_div f_div (ve_varB (i := 1) rfl v__law_spoilt_number) (pe_B ve_int))) (pe_B ve_int))) (fun _ _ => rfl))))) vs_nil)
  (vs_cons (vs_if (PW.pt (vw_and (vt_val (ve_isi (T := "int") (by decide) g__law_spoilt_isinstance T.z_isinstance g__law_spoilt_int T.z_int bt_int (ve_varB (i := 0) rfl v__law_spoilt_thing))) (vw_and1 (vt_cmp (op_eqD hr.units) f_eq (pe_B (ve_op op_mod f_mod (pe_B (ve_op o_div f_div (ve_varB (i := 1) rfl v__law_spoilt_number) (pe_B ve_int))) (pe_B ve_int))) (pe_B ve_int) (nomark _))))) (vs_one (vs_ret (ve_ix (o_ix (hu_of hr)) f_ix (pe_B (ve_lst (va_cons (ve_callTy o_str f_str g__law_spoilt_str T.z_str bt_str (ve_varB (i := 0) rfl v__law_spoilt_thing)) (va_cons (ve_un un_neg f_neg (ve_varB (i := 0) rfl v__law_spoilt_thing)) (va_cons (ve_op o_add f_add (ve_varB (i := 0) rfl v__law_spoilt_thing) (pe_B ve_int)) (va_cons (ve_cmp (op_eqD hr.units) f_eq (ve_varB (i := 0) rfl v__law_spoilt_thing) (pe_B ve_int) (nomark _)) (va_cons (ve_op o_add f_add (ve_varB (i := 0) rfl v__law_spoilt_thing) (pe_B ve_int)) (va_cons (ve_op op_sub f_sub (ve_varB (i := 0) rfl v__law_spoilt_thing) (pe_B ve_int)) va_nil)))))))) (pe_B (ve_op op_mod f_mod (pe_B (ve_op o_div f_div (ve_varB (i := 1) rfl v__law_spoilt_number) (pe_B ve_int))) (pe_B ve_int))) (fun _ _ => rfl)))) vs_nil)
  (vs_cons (vs_if (PW.pt (vw_and (vt_val (ve_isi (T := "str") (by decide) g__law_spoilt_isinstance T.z_isinstance g__law_spoilt_str T.z_str bt_str (ve_varB (i := 0) rfl v__law_spoilt_thing))) (vw_and1 (vt_cmp (op_eqD hr.units) f_eq (pe_B (ve_op op_mod f_mod (pe_B (ve_op o_div f_div (ve_varB (i := 1) rfl v__law_spoilt_number) (pe_B ve_int))) (pe_B ve_int))) (pe_B ve_int) (nomark _))))) (vs_one (vs_ret (ve_ix (o_ix (hu_of hr)) f_ix (pe_B (ve_lst (va_cons (ve_op o_add f_add (ve_varB (i := 0) rfl v__law_spoilt_thing) (pe_B ve_str)) (va_cons (ve_slice (ve_varB (i := 0) rfl v__law_spoilt_thing) vo_none (vo_some (ve_un un_neg f_neg (pe_B ve_int)))) (va_cons (ve_m0 F.slot_str_upper F.type_str_upper mt_upper f_upper (ve_varB (i := 0) rfl v__law_spoilt_thing)) (va_cons (ve_op o_add f_add (ve_varB (i := 0) rfl v__law_spoilt_thing) (pe_B ve_str)) (va_cons ve_str (va_cons ve_str (va_cons ve_str va_nil))))))))) (pe_B (ve_op op_mod f_mod (pe_B (ve_op o_div f_div (ve_varB (i := 1) rfl v__law_spoilt_number) (pe_B ve_int))) (pe_B ve_int))) (fun _ _ => rfl)))) vs_nil)
  (vs_one (vs_ret (ve_call IH.o__law_odd hr g__law_spoilt__law_odd T.g__law_odd T.f__law_odd.kp T.b__law_odd (va_cons (ve_op o_div f_div (ve_varB (i := 1) rfl v__law_spoilt_number) (pe_B ve_int)) va_nil))))))))
theorem d__law_same (T : Top K mg) (k : Nat) (IH : Ok P w K cl mg base T k) :
    FnOk P w K mg base CX0 (k + 1) T.a__law_same T.d__law_same ["found", "due"] (spF K cl 2 (runM 2 (m__law_same (callF k)))) :=
  fn_ok (N := N__law_same) (st := st__law_same) (m := m__law_same (callF k)) T.f__law_same sc__law_same fun cdv A outer s H E H0 F0 hr =>
  (vs_one (vs_ret (ve_and (ve_isi (T := "bool") (by decide) g__law_same_isinstance T.z_isinstance g__law_same_bool T.z_bool bt_bool (ve_varB (i := 0) rfl v__law_same_found)) (ve_one (ve_cmp (op_eqD hr.units) f_eq (ve_varB (i := 0) rfl v__law_same_found) (ve_varB (i := 1) rfl v__law_same_due) (nomark _))))))
theorem d_law (T : Top K mg) (k : Nat) (IH : Ok P w K cl mg base T k) :
    FnOk P w K mg base CX0 (k + 1) T.a_law T.d_law ["script"] (spF K cl 1 (runM 6 (m_law (callF k)))) :=
  fn_ok (N := N_law) (st := st_law) (m := m_law (callF k)) T.f_law sc_law fun cdv A outer s H E H0 F0 hr =>
  (vs_cons (vs_set (i := 1) sc_law.nd rfl l_law_number (ve_call IH.o__law_mixed hr g_law__law_mixed T.g__law_mixed T.f__law_mixed.kp T.b__law_mixed (va_cons (ve_var (i := 0) rfl v_law_script) (va_cons ve_int va_nil))))
  (vs_cons (vs_set (i := 2) sc_law.nd rfl l_law_thing (ve_call IH.o__law_sheet hr g_law__law_sheet T.g__law_sheet T.f__law_sheet.kp T.b__law_sheet (va_cons (ve_call IH.o__law_mixed hr g_law__law_mixed T.g__law_mixed T.f__law_mixed.kp T.b__law_mixed (va_cons (ve_var (i := 0) rfl v_law_script) (va_cons ve_int va_nil))) va_nil)))
  (vs_cons (vs_if (vt_cmp (op_eqD hr.units) f_eq (pe_B (ve_op op_mod f_mod (ve_varB (i := 1) rfl v_law_number) (pe_B ve_int))) (pe_B ve_int) (nomark _)) (vs_one (vs_set (i := 2) sc_law.nd rfl l_law_thing (ve_call IH.o__law_spoilt hr g_law__law_spoilt T.g__law_spoilt T.f__law_spoilt.kp T.b__law_spoilt (va_cons (ve_var (i := 2) rfl v_law_thing) (va_cons (ve_call IH.o__law_mixed hr g_law__law_mixed T.g__law_mixed T.f__law_mixed.kp T.b__law_mixed (va_cons (ve_var (i := 0) rfl v_law_script) (va_cons ve_int va_nil))) (va_cons (ve_op op_mod f_mod (pe_B (ve_op o_div f_div (ve_varB (i := 1) rfl v_law_number) (pe_B ve_int))) (pe_B ve_int)) va_nil)))))) vs_nil)
  (vs_cons (vs_for (mb := m_law_b0 (callF k)) PassesOwn.never rfl (vi_range1 g_law_range T.z_range (ve_op o_mul f_mul (pe_B (ve_op op_mod f_mod (pe_B (ve_op o_div f_div (ve_varB (i := 1) rfl v_law_number) (pe_B ve_int))) (pe_B ve_int))) (pe_B (ve_callTy call_int1 f_int g_law_int T.z_int bt_int (pe_B (ve_cmp (op_eqD hr.units) f_eq (pe_B (ve_op op_mod f_mod (pe_B (ve_op o_div f_div (ve_varB (i := 1) rfl v_law_number) (pe_B ve_int))) (pe_B ve_int))) (pe_B ve_int) (nomark _))))))) (vg_name (i := 3) sc_law.nd rfl l_law_k) (vs_one (vs_set (i := 2) sc_law.nd rfl l_law_thing (ve_tup (va_cons (ve_tup (va_cons ve_str (va_cons ve_str (va_cons (ve_var (i := 2) rfl v_law_thing) (va_cons (ve_tup va_nil) va_nil))))) va_nil)))))
  (vs_cons (vs_if (vt_not (vt_val (ve_call IH.o__law_same hr g_law__law_same T.g__law_same T.f__law_same.kp T.b__law_same (va_cons (ve_call IH.o_is_sheet hr g_law_is_sheet T.g_is_sheet T.f_is_sheet.kp T.b_is_sheet (va_cons (ve_var (i := 2) rfl v_law_thing) va_nil)) (va_cons (ve_call IH.o__law_is_sheet hr g_law__law_is_sheet T.g__law_is_sheet T.f__law_is_sheet.kp T.b__law_is_sheet (va_cons (ve_var (i := 2) rfl v_law_thing) (va_cons ve_int va_nil))) va_nil))))) (vs_one (vs_ret ve_bl)) vs_nil)
  (vs_cons (vs_set (i := 4) sc_law.nd rfl l_law_wide (ve_op o_mul f_mul (pe_B (ve_slice (pe_B (ve_call IH.o__law_sheet hr g_law__law_sheet T.g__law_sheet T.f__law_sheet.kp T.b__law_sheet (va_cons (ve_call IH.o__law_mixed hr g_law__law_mixed T.g__law_mixed T.f__law_mixed.kp T.b__law_mixed (va_cons (ve_var (i := 0) rfl v_law_script) (va_cons ve_int va_nil))) va_nil))) vo_none (vo_some ve_int))) (pe_B (ve_op o_add f_add (pe_B ve_int) (pe_B (ve_op op_mod f_mod (pe_B (ve_op o_div f_div (ve_varB (i := 1) rfl v_law_number) (pe_B ve_int))) (pe_B ve_int)))))))
  (vs_cons (vs_if (vt_not (vt_val (ve_call IH.o__law_same hr g_law__law_same T.g__law_same T.f__law_same.kp T.b__law_same (va_cons (ve_call IH.o_is_sheet hr g_law_is_sheet T.g_is_sheet T.f_is_sheet.kp T.b_is_sheet (va_cons (ve_var (i := 4) rfl v_law_wide) va_nil)) (va_cons (ve_call IH.o__law_is_sheet hr g_law__law_is_sheet T.g__law_is_sheet T.f__law_is_sheet.kp T.b__law_is_sheet (va_cons (ve_var (i := 4) rfl v_law_wide) (va_cons ve_int va_nil))) va_nil))))) (vs_one (vs_ret ve_bl)) vs_nil)
  (vs_cons (vs_set (i := 5) sc_law.nd rfl l_law_some (ve_call IH.o__law_sum hr g_law__law_sum T.g__law_sum T.f__law_sum.kp T.b__law_sum (va_cons (ve_call IH.o__law_mixed hr g_law__law_mixed T.g__law_mixed T.f__law_mixed.kp T.b__law_mixed (va_cons (ve_var (i := 0) rfl v_law_script) (va_cons ve_int va_nil))) (va_cons (ve_op op_mod f_mod (pe_B (ve_op o_div f_div (ve_varB (i := 1) rfl v_law_number) (pe_B ve_int))) (pe_B ve_int)) va_nil))))
  (vs_cons (vs_if (vt_cmp (op_eqD hr.units) f_eq (pe_B (ve_op op_mod f_mod (pe_B (ve_op o_div f_div (ve_varB (i := 1) rfl v_law_number) (pe_B ve_int))) (pe_B ve_int))) (pe_B ve_int) (nomark _)) (vs_one (vs_set (i := 5) sc_law.nd rfl l_law_some (ve_call IH.o__law_spoilt hr g_law__law_spoilt T.g__law_spoilt T.f__law_spoilt.kp T.b__law_spoilt (va_cons (ve_var (i := 5) rfl v_law_some) (va_cons (ve_call IH.o__law_mixed hr g_law__law_mixed T.g__law_mixed T.f__law_mixed.kp T.b__law_mixed (va_cons (ve_var (i := 0) rfl v_law_script) (va_cons ve_int va_nil))) (va_cons (ve_op op_mod f_mod (pe_B (ve_op o_div f_div (ve_varB (i := 1) rfl v_law_number) (pe_B ve_int))) (pe_B ve_int)) va_nil)))))) vs_nil)
  (vs_one (vs_ret (ve_call IH.o__law_same hr g_law__law_same T.g__law_same T.f__law_same.kp T.b__law_same (va_cons (ve_call IH.o_is_sum hr g_law_is_sum T.g_is_sum T.f_is_sum.kp T.b_is_sum (va_cons (ve_var (i := 5) rfl v_law_some) va_nil)) (va_cons (ve_call IH.o__law_is_sum hr g_law__law_is_sum T.g__law_is_sum T.f__law_is_sum.kp T.b__law_is_sum (va_cons (ve_var (i := 5) rfl v_law_some) (va_cons ve_int va_nil))) va_nil))))))))))))))
theorem all_ok (T : Top K mg) : ∀ (k : Nat), Ok P w K cl mg base T k
  | 0 => ⟨ok_zero, ok_zero, ok_zero, ok_zero, ok_zero, ok_zero, ok_zero, ok_zero, ok_zero, ok_zero, ok_zero, ok_zero, ok_zero, ok_zero, ok_zero, ok_zero, ok_zero, ok_zero, ok_zero, ok_zero, ok_zero, ok_zero, ok_zero, ok_zero, ok_zero, ok_zero, ok_zero, ok_zero, ok_zero, ok_zero, ok_zero, ok_zero⟩
  | k + 1 => have IH := all_ok T k
    ⟨d_is_number T k IH, d_is_small T k IH, d_is_name T k IH, d_is_sum_at T k IH, d_is_sum T k IH, d_rises T k IH, d_are_lots T k IH, d_are_options T k IH, d_is_step T k IH, d_is_sheet_at T k IH, d_is_sheet T k IH, d__law_cell_at T k IH, d__law_mixed T k IH, d__law_drawn T k IH, d__law_sum T k IH, d__law_numbers T k IH, d__law_pick_step T k IH, d__law_steps T k IH, d__law_cards T k IH, d__law_sheet T k IH, d__law_whole T k IH, d__law_is_name T k IH, d__law_is_sum T k IH, d__law_rises T k IH, d__law_are_options T k IH, d__law_are_lots T k IH, d__law_is_step T k IH, d__law_is_sheet T k IH, d__law_odd T k IH, d__law_spoilt T k IH, d__law_same T k IH, d_law T k IH⟩
theorem top_mk {h : Heap} (X : K.In h) (G : h.Ns mainGlobals mg) {od0 an0 : Option Addr} {sl0 : Array (Option Value)} {oc0 kV0 dc0 pm0 cd0 ct0 : Value} {f0 : Addr} {od1 an1 : Option Addr} {sl1 : Array (Option Value)} {oc1 kV1 dc1 pm1 cd1 ct1 : Value} {f1 : Addr} {od2 an2 : Option Addr} {sl2 : Array (Option Value)} {oc2 kV2 dc2 pm2 cd2 ct2 : Value} {f2 : Addr} {od3 an3 : Option Addr} {sl3 : Array (Option Value)} {oc3 kV3 dc3 pm3 cd3 ct3 : Value} {f3 : Addr} {od4 an4 : Option Addr} {sl4 : Array (Option Value)} {oc4 kV4 dc4 pm4 cd4 ct4 : Value} {f4 : Addr} {od5 an5 : Option Addr} {sl5 : Array (Option Value)} {oc5 kV5 dc5 pm5 cd5 ct5 : Value} {f5 : Addr} {od6 an6 : Option Addr} {sl6 : Array (Option Value)} {oc6 kV6 dc6 pm6 cd6 ct6 : Value} {f6 : Addr} {od7 an7 : Option Addr} {sl7 : Array (Option Value)} {oc7 kV7 dc7 pm7 cd7 ct7 : Value} {f7 : Addr} {od8 an8 : Option Addr} {sl8 : Array (Option Value)} {oc8 kV8 dc8 pm8 cd8 ct8 : Value} {f8 : Addr} {od9 an9 : Option Addr} {sl9 : Array (Option Value)} {oc9 kV9 dc9 pm9 cd9 ct9 : Value} {f9 : Addr} {od10 an10 : Option Addr} {sl10 : Array (Option Value)} {oc10 kV10 dc10 pm10 cd10 ct10 : Value} {f10 : Addr} {od11 an11 : Option Addr} {sl11 : Array (Option Value)} {oc11 kV11 dc11 pm11 cd11 ct11 : Value} {f11 : Addr} {od12 an12 : Option Addr} {sl12 : Array (Option Value)} {oc12 kV12 dc12 pm12 cd12 ct12 : Value} {f12 : Addr} {od13 an13 : Option Addr} {sl13 : Array (Option Value)} {oc13 kV13 dc13 pm13 cd13 ct13 : Value} {f13 : Addr} {od14 an14 : Option Addr} {sl14 : Array (Option Value)} {oc14 kV14 dc14 pm14 cd14 ct14 : Value} {f14 : Addr} {od15 an15 : Option Addr} {sl15 : Array (Option Value)} {oc15 kV15 dc15 pm15 cd15 ct15 : Value} {f15 : Addr} {od16 an16 : Option Addr} {sl16 : Array (Option Value)} {oc16 kV16 dc16 pm16 cd16 ct16 : Value} {f16 : Addr} {od17 an17 : Option Addr} {sl17 : Array (Option Value)} {oc17 kV17 dc17 pm17 cd17 ct17 : Value} {f17 : Addr} {od18 an18 : Option Addr} {sl18 : Array (Option Value)} {oc18 kV18 dc18 pm18 cd18 ct18 : Value} {f18 : Addr} {od19 an19 : Option Addr} {sl19 : Array (Option Value)} {oc19 kV19 dc19 pm19 cd19 ct19 : Value} {f19 : Addr} {od20 an20 : Option Addr} {sl20 : Array (Option Value)} {oc20 kV20 dc20 pm20 cd20 ct20 : Value} {f20 : Addr} {od21 an21 : Option Addr} {sl21 : Array (Option Value)} {oc21 kV21 dc21 pm21 cd21 ct21 : Value} {f21 : Addr} {od22 an22 : Option Addr} {sl22 : Array (Option Value)} {oc22 kV22 dc22 pm22 cd22 ct22 : Value} {f22 : Addr} {od23 an23 : Option Addr} {sl23 : Array (Option Value)} {oc23 kV23 dc23 pm23 cd23 ct23 : Value} {f23 : Addr} {od24 an24 : Option Addr} {sl24 : Array (Option Value)} {oc24 kV24 dc24 pm24 cd24 ct24 : Value} {f24 : Addr} {od25 an25 : Option Addr} {sl25 : Array (Option Value)} {oc25 kV25 dc25 pm25 cd25 ct25 : Value} {f25 : Addr} {od26 an26 : Option Addr} {sl26 : Array (Option Value)} {oc26 kV26 dc26 pm26 cd26 ct26 : Value} {f26 : Addr} {od27 an27 : Option Addr} {sl27 : Array (Option Value)} {oc27 kV27 dc27 pm27 cd27 ct27 : Value} {f27 : Addr} {od28 an28 : Option Addr} {sl28 : Array (Option Value)} {oc28 kV28 dc28 pm28 cd28 ct28 : Value} {f28 : Addr} {od29 an29 : Option Addr} {sl29 : Array (Option Value)} {oc29 kV29 dc29 pm29 cd29 ct29 : Value} {f29 : Addr} {od30 an30 : Option Addr} {sl30 : Array (Option Value)} {oc30 kV30 dc30 pm30 cd30 ct30 : Value} {f30 : Addr} {od31 an31 : Option Addr} {sl31 : Array (Option Value)} {oc31 kV31 dc31 pm31 cd31 ct31 : Value} {f31 : Addr} {tk_DEEP_SHEET : Tok} {tk_DEEP_SUM : Tok} {tk_GREATEST : Tok} {tk_LETTERS : Tok} {tk_LONGEST : Tok} {ad_STEPS : Addr} {n_STEPS : Nat} {sl_STEPS : Array (Option Value)} {t0_STEPS t1_STEPS t2_STEPS t3_STEPS t4_STEPS t5_STEPS : Tok} {ad_SUMS : Addr} {n_SUMS : Nat} {sl_SUMS : Array (Option Value)} {t0_SUMS t1_SUMS t2_SUMS t3_SUMS t4_SUMS : Tok}
    (a0 : PySem.W.nsIn K mainGlobals "is_number" = some (some (.ref f0))) (l0 : K.lookup f0 = some ⟨oc0, od0, .func (PySem.W.fnOf "is_number" "is_number" (defArgs st_is_number) (defBody st_is_number) (defScope st_is_number) .none kV0 dc0 pm0 an0 cd0 ct0), sl0⟩) (c0 : PySem.W.codeIn K cd0 "is_number" = true) (k0 : PySem.W.keepIn K (.ref f0) = true)
    (a1 : PySem.W.nsIn K mainGlobals "is_small" = some (some (.ref f1))) (l1 : K.lookup f1 = some ⟨oc1, od1, .func (PySem.W.fnOf "is_small" "is_small" (defArgs st_is_small) (defBody st_is_small) (defScope st_is_small) .none kV1 dc1 pm1 an1 cd1 ct1), sl1⟩) (c1 : PySem.W.codeIn K cd1 "is_small" = true) (k1 : PySem.W.keepIn K (.ref f1) = true)
    (a2 : PySem.W.nsIn K mainGlobals "is_name" = some (some (.ref f2))) (l2 : K.lookup f2 = some ⟨oc2, od2, .func (PySem.W.fnOf "is_name" "is_name" (defArgs st_is_name) (defBody st_is_name) (defScope st_is_name) .none kV2 dc2 pm2 an2 cd2 ct2), sl2⟩) (c2 : PySem.W.codeIn K cd2 "is_name" = true) (k2 : PySem.W.keepIn K (.ref f2) = true)
    (a3 : PySem.W.nsIn K mainGlobals "is_sum_at" = some (some (.ref f3))) (l3 : K.lookup f3 = some ⟨oc3, od3, .func (PySem.W.fnOf "is_sum_at" "is_sum_at" (defArgs st_is_sum_at) (defBody st_is_sum_at) (defScope st_is_sum_at) .none kV3 dc3 pm3 an3 cd3 ct3), sl3⟩) (c3 : PySem.W.codeIn K cd3 "is_sum_at" = true) (k3 : PySem.W.keepIn K (.ref f3) = true)
    (a4 : PySem.W.nsIn K mainGlobals "is_sum" = some (some (.ref f4))) (l4 : K.lookup f4 = some ⟨oc4, od4, .func (PySem.W.fnOf "is_sum" "is_sum" (defArgs st_is_sum) (defBody st_is_sum) (defScope st_is_sum) .none kV4 dc4 pm4 an4 cd4 ct4), sl4⟩) (c4 : PySem.W.codeIn K cd4 "is_sum" = true) (k4 : PySem.W.keepIn K (.ref f4) = true)
    (a5 : PySem.W.nsIn K mainGlobals "rises" = some (some (.ref f5))) (l5 : K.lookup f5 = some ⟨oc5, od5, .func (PySem.W.fnOf "rises" "rises" (defArgs st_rises) (defBody st_rises) (defScope st_rises) .none kV5 dc5 pm5 an5 cd5 ct5), sl5⟩) (c5 : PySem.W.codeIn K cd5 "rises" = true) (k5 : PySem.W.keepIn K (.ref f5) = true)
    (a6 : PySem.W.nsIn K mainGlobals "are_lots" = some (some (.ref f6))) (l6 : K.lookup f6 = some ⟨oc6, od6, .func (PySem.W.fnOf "are_lots" "are_lots" (defArgs st_are_lots) (defBody st_are_lots) (defScope st_are_lots) .none kV6 dc6 pm6 an6 cd6 ct6), sl6⟩) (c6 : PySem.W.codeIn K cd6 "are_lots" = true) (k6 : PySem.W.keepIn K (.ref f6) = true)
    (a7 : PySem.W.nsIn K mainGlobals "are_options" = some (some (.ref f7))) (l7 : K.lookup f7 = some ⟨oc7, od7, .func (PySem.W.fnOf "are_options" "are_options" (defArgs st_are_options) (defBody st_are_options) (defScope st_are_options) .none kV7 dc7 pm7 an7 cd7 ct7), sl7⟩) (c7 : PySem.W.codeIn K cd7 "are_options" = true) (k7 : PySem.W.keepIn K (.ref f7) = true)
    (a8 : PySem.W.nsIn K mainGlobals "is_step" = some (some (.ref f8))) (l8 : K.lookup f8 = some ⟨oc8, od8, .func (PySem.W.fnOf "is_step" "is_step" (defArgs st_is_step) (defBody st_is_step) (defScope st_is_step) .none kV8 dc8 pm8 an8 cd8 ct8), sl8⟩) (c8 : PySem.W.codeIn K cd8 "is_step" = true) (k8 : PySem.W.keepIn K (.ref f8) = true)
    (a9 : PySem.W.nsIn K mainGlobals "is_sheet_at" = some (some (.ref f9))) (l9 : K.lookup f9 = some ⟨oc9, od9, .func (PySem.W.fnOf "is_sheet_at" "is_sheet_at" (defArgs st_is_sheet_at) (defBody st_is_sheet_at) (defScope st_is_sheet_at) .none kV9 dc9 pm9 an9 cd9 ct9), sl9⟩) (c9 : PySem.W.codeIn K cd9 "is_sheet_at" = true) (k9 : PySem.W.keepIn K (.ref f9) = true)
    (a10 : PySem.W.nsIn K mainGlobals "is_sheet" = some (some (.ref f10))) (l10 : K.lookup f10 = some ⟨oc10, od10, .func (PySem.W.fnOf "is_sheet" "is_sheet" (defArgs st_is_sheet) (defBody st_is_sheet) (defScope st_is_sheet) .none kV10 dc10 pm10 an10 cd10 ct10), sl10⟩) (c10 : PySem.W.codeIn K cd10 "is_sheet" = true) (k10 : PySem.W.keepIn K (.ref f10) = true)
    (a11 : PySem.W.nsIn K mainGlobals "_law_cell_at" = some (some (.ref f11))) (l11 : K.lookup f11 = some ⟨oc11, od11, .func (PySem.W.fnOf "_law_cell_at" "_law_cell_at" (defArgs st__law_cell_at) (defBody st__law_cell_at) (defScope st__law_cell_at) .none kV11 dc11 pm11 an11 cd11 ct11), sl11⟩) (c11 : PySem.W.codeIn K cd11 "_law_cell_at" = true) (k11 : PySem.W.keepIn K (.ref f11) = true)
    (a12 : PySem.W.nsIn K mainGlobals "_law_mixed" = some (some (.ref f12))) (l12 : K.lookup f12 = some ⟨oc12, od12, .func (PySem.W.fnOf "_law_mixed" "_law_mixed" (defArgs st__law_mixed) (defBody st__law_mixed) (defScope st__law_mixed) .none kV12 dc12 pm12 an12 cd12 ct12), sl12⟩) (c12 : PySem.W.codeIn K cd12 "_law_mixed" = true) (k12 : PySem.W.keepIn K (.ref f12) = true)
    (a13 : PySem.W.nsIn K mainGlobals "_law_drawn" = some (some (.ref f13))) (l13 : K.lookup f13 = some ⟨oc13, od13, .func (PySem.W.fnOf "_law_drawn" "_law_drawn" (defArgs st__law_drawn) (defBody st__law_drawn) (defScope st__law_drawn) .none kV13 dc13 pm13 an13 cd13 ct13), sl13⟩) (c13 : PySem.W.codeIn K cd13 "_law_drawn" = true) (k13 : PySem.W.keepIn K (.ref f13) = true)
    (a14 : PySem.W.nsIn K mainGlobals "_law_sum" = some (some (.ref f14))) (l14 : K.lookup f14 = some ⟨oc14, od14, .func (PySem.W.fnOf "_law_sum" "_law_sum" (defArgs st__law_sum) (defBody st__law_sum) (defScope st__law_sum) .none kV14 dc14 pm14 an14 cd14 ct14), sl14⟩) (c14 : PySem.W.codeIn K cd14 "_law_sum" = true) (k14 : PySem.W.keepIn K (.ref f14) = true)
    (a15 : PySem.W.nsIn K mainGlobals "_law_numbers" = some (some (.ref f15))) (l15 : K.lookup f15 = some ⟨oc15, od15, .func (PySem.W.fnOf "_law_numbers" "_law_numbers" (defArgs st__law_numbers) (defBody st__law_numbers) (defScope st__law_numbers) .none kV15 dc15 pm15 an15 cd15 ct15), sl15⟩) (c15 : PySem.W.codeIn K cd15 "_law_numbers" = true) (k15 : PySem.W.keepIn K (.ref f15) = true)
    (a16 : PySem.W.nsIn K mainGlobals "_law_pick_step" = some (some (.ref f16))) (l16 : K.lookup f16 = some ⟨oc16, od16, .func (PySem.W.fnOf "_law_pick_step" "_law_pick_step" (defArgs st__law_pick_step) (defBody st__law_pick_step) (defScope st__law_pick_step) .none kV16 dc16 pm16 an16 cd16 ct16), sl16⟩) (c16 : PySem.W.codeIn K cd16 "_law_pick_step" = true) (k16 : PySem.W.keepIn K (.ref f16) = true)
    (a17 : PySem.W.nsIn K mainGlobals "_law_steps" = some (some (.ref f17))) (l17 : K.lookup f17 = some ⟨oc17, od17, .func (PySem.W.fnOf "_law_steps" "_law_steps" (defArgs st__law_steps) (defBody st__law_steps) (defScope st__law_steps) .none kV17 dc17 pm17 an17 cd17 ct17), sl17⟩) (c17 : PySem.W.codeIn K cd17 "_law_steps" = true) (k17 : PySem.W.keepIn K (.ref f17) = true)
    (a18 : PySem.W.nsIn K mainGlobals "_law_cards" = some (some (.ref f18))) (l18 : K.lookup f18 = some ⟨oc18, od18, .func (PySem.W.fnOf "_law_cards" "_law_cards" (defArgs st__law_cards) (defBody st__law_cards) (defScope st__law_cards) .none kV18 dc18 pm18 an18 cd18 ct18), sl18⟩) (c18 : PySem.W.codeIn K cd18 "_law_cards" = true) (k18 : PySem.W.keepIn K (.ref f18) = true)
    (a19 : PySem.W.nsIn K mainGlobals "_law_sheet" = some (some (.ref f19))) (l19 : K.lookup f19 = some ⟨oc19, od19, .func (PySem.W.fnOf "_law_sheet" "_law_sheet" (defArgs st__law_sheet) (defBody st__law_sheet) (defScope st__law_sheet) .none kV19 dc19 pm19 an19 cd19 ct19), sl19⟩) (c19 : PySem.W.codeIn K cd19 "_law_sheet" = true) (k19 : PySem.W.keepIn K (.ref f19) = true)
    (a20 : PySem.W.nsIn K mainGlobals "_law_whole" = some (some (.ref f20))) (l20 : K.lookup f20 = some ⟨oc20, od20, .func (PySem.W.fnOf "_law_whole" "_law_whole" (defArgs st__law_whole) (defBody st__law_whole) (defScope st__law_whole) .none kV20 dc20 pm20 an20 cd20 ct20), sl20⟩) (c20 : PySem.W.codeIn K cd20 "_law_whole" = true) (k20 : PySem.W.keepIn K (.ref f20) = true)
    (a21 : PySem.W.nsIn K mainGlobals "_law_is_name" = some (some (.ref f21))) (l21 : K.lookup f21 = some ⟨oc21, od21, .func (PySem.W.fnOf "_law_is_name" "_law_is_name" (defArgs st__law_is_name) (defBody st__law_is_name) (defScope st__law_is_name) .none kV21 dc21 pm21 an21 cd21 ct21), sl21⟩) (c21 : PySem.W.codeIn K cd21 "_law_is_name" = true) (k21 : PySem.W.keepIn K (.ref f21) = true)
    (a22 : PySem.W.nsIn K mainGlobals "_law_is_sum" = some (some (.ref f22))) (l22 : K.lookup f22 = some ⟨oc22, od22, .func (PySem.W.fnOf "_law_is_sum" "_law_is_sum" (defArgs st__law_is_sum) (defBody st__law_is_sum) (defScope st__law_is_sum) .none kV22 dc22 pm22 an22 cd22 ct22), sl22⟩) (c22 : PySem.W.codeIn K cd22 "_law_is_sum" = true) (k22 : PySem.W.keepIn K (.ref f22) = true)
    (a23 : PySem.W.nsIn K mainGlobals "_law_rises" = some (some (.ref f23))) (l23 : K.lookup f23 = some ⟨oc23, od23, .func (PySem.W.fnOf "_law_rises" "_law_rises" (defArgs st__law_rises) (defBody st__law_rises) (defScope st__law_rises) .none kV23 dc23 pm23 an23 cd23 ct23), sl23⟩) (c23 : PySem.W.codeIn K cd23 "_law_rises" = true) (k23 : PySem.W.keepIn K (.ref f23) = true)
    (a24 : PySem.W.nsIn K mainGlobals "_law_are_options" = some (some (.ref f24))) (l24 : K.lookup f24 = some ⟨oc24, od24, .func (PySem.W.fnOf "_law_are_options" "_law_are_options" (defArgs st__law_are_options) (defBody st__law_are_options) (defScope st__law_are_options) .none kV24 dc24 pm24 an24 cd24 ct24), sl24⟩) (c24 : PySem.W.codeIn K cd24 "_law_are_options" = true) (k24 : PySem.W.keepIn K (.ref f24) = true)
    (a25 : PySem.W.nsIn K mainGlobals "_law_are_lots" = some (some (.ref f25))) (l25 : K.lookup f25 = some ⟨oc25, od25, .func (PySem.W.fnOf "_law_are_lots" "_law_are_lots" (defArgs st__law_are_lots) (defBody st__law_are_lots) (defScope st__law_are_lots) .none kV25 dc25 pm25 an25 cd25 ct25), sl25⟩) (c25 : PySem.W.codeIn K cd25 "_law_are_lots" = true) (k25 : PySem.W.keepIn K (.ref f25) = true)
    (a26 : PySem.W.nsIn K mainGlobals "_law_is_step" = some (some (.ref f26))) (l26 : K.lookup f26 = some ⟨oc26, od26, .func (PySem.W.fnOf "_law_is_step" "_law_is_step" (defArgs st__law_is_step) (defBody st__law_is_step) (defScope st__law_is_step) .none kV26 dc26 pm26 an26 cd26 ct26), sl26⟩) (c26 : PySem.W.codeIn K cd26 "_law_is_step" = true) (k26 : PySem.W.keepIn K (.ref f26) = true)
    (a27 : PySem.W.nsIn K mainGlobals "_law_is_sheet" = some (some (.ref f27))) (l27 : K.lookup f27 = some ⟨oc27, od27, .func (PySem.W.fnOf "_law_is_sheet" "_law_is_sheet" (defArgs st__law_is_sheet) (defBody st__law_is_sheet) (defScope st__law_is_sheet) .none kV27 dc27 pm27 an27 cd27 ct27), sl27⟩) (c27 : PySem.W.codeIn K cd27 "_law_is_sheet" = true) (k27 : PySem.W.keepIn K (.ref f27) = true)
    (a28 : PySem.W.nsIn K mainGlobals "_law_odd" = some (some (.ref f28))) (l28 : K.lookup f28 = some ⟨oc28, od28, .func (PySem.W.fnOf "_law_odd" "_law_odd" (defArgs st__law_odd) (defBody st__law_odd) (defScope st__law_odd) .none kV28 dc28 pm28 an28 cd28 ct28), sl28⟩) (c28 : PySem.W.codeIn K cd28 "_law_odd" = true) (k28 : PySem.W.keepIn K (.ref f28) = true)
    (a29 : PySem.W.nsIn K mainGlobals "_law_spoilt" = some (some (.ref f29))) (l29 : K.lookup f29 = some ⟨oc29, od29, .func (PySem.W.fnOf "_law_spoilt" "_law_spoilt" (defArgs st__law_spoilt) (defBody st__law_spoilt) (defScope st__law_spoilt) .none kV29 dc29 pm29 an29 cd29 ct29), sl29⟩) (c29 : PySem.W.codeIn K cd29 "_law_spoilt" = true) (k29 : PySem.W.keepIn K (.ref f29) = true)
    (a30 : PySem.W.nsIn K mainGlobals "_law_same" = some (some (.ref f30))) (l30 : K.lookup f30 = some ⟨oc30, od30, .func (PySem.W.fnOf "_law_same" "_law_same" (defArgs st__law_same) (defBody st__law_same) (defScope st__law_same) .none kV30 dc30 pm30 an30 cd30 ct30), sl30⟩) (c30 : PySem.W.codeIn K cd30 "_law_same" = true) (k30 : PySem.W.keepIn K (.ref f30) = true)
    (a31 : PySem.W.nsIn K mainGlobals "law" = some (some (.ref f31))) (l31 : K.lookup f31 = some ⟨oc31, od31, .func (PySem.W.fnOf "law" "law" (defArgs st_law) (defBody st_law) (defScope st_law) .none kV31 dc31 pm31 an31 cd31 ct31), sl31⟩) (c31 : PySem.W.codeIn K cd31 "law" = true) (k31 : PySem.W.keepIn K (.ref f31) = true)
    (ca_DEEP_SHEET : PySem.W.nsIn K mainGlobals "DEEP_SHEET" = some (some (.int 5 tk_DEEP_SHEET)))
    (ca_DEEP_SUM : PySem.W.nsIn K mainGlobals "DEEP_SUM" = some (some (.int 6 tk_DEEP_SUM)))
    (ca_GREATEST : PySem.W.nsIn K mainGlobals "GREATEST" = some (some (.int 50 tk_GREATEST)))
    (ca_LETTERS : PySem.W.nsIn K mainGlobals "LETTERS" = some (some (.str "abcdefghijklmnopqrstuvwxyz" tk_LETTERS)))
    (ca_LONGEST : PySem.W.nsIn K mainGlobals "LONGEST" = some (some (.int 12 tk_LONGEST)))
    (ca_STEPS : PySem.W.nsIn K mainGlobals "STEPS" = some (some (.ref ad_STEPS))) (cb_STEPS : K.lookup ad_STEPS = some ⟨.type "tuple", none, .seq #[.str "draw" t0_STEPS, .str "show" t1_STEPS, .str "ask" t2_STEPS, .str "keep" t3_STEPS, .str "if" t4_STEPS, .str "pay" t5_STEPS] n_STEPS, sl_STEPS⟩)
    (ca_SUMS : PySem.W.nsIn K mainGlobals "SUMS" = some (some (.ref ad_SUMS))) (cb_SUMS : K.lookup ad_SUMS = some ⟨.type "tuple", none, .seq #[.str "plus" t0_SUMS, .str "less" t1_SUMS, .str "times" t2_SUMS, .str "under" t3_SUMS, .str "alike" t4_SUMS] n_SUMS, sl_SUMS⟩)
    (z_all : PySem.W.nsIn K mainGlobals "all" = some none) (z_bool : PySem.W.nsIn K mainGlobals "bool" = some none) (z_enumerate : PySem.W.nsIn K mainGlobals "enumerate" = some none) (z_int : PySem.W.nsIn K mainGlobals "int" = some none) (z_isinstance : PySem.W.nsIn K mainGlobals "isinstance" = some none) (z_len : PySem.W.nsIn K mainGlobals "len" = some none) (z_list : PySem.W.nsIn K mainGlobals "list" = some none) (z_range : PySem.W.nsIn K mainGlobals "range" = some none) (z_str : PySem.W.nsIn K mainGlobals "str" = some none) (z_tuple : PySem.W.nsIn K mainGlobals "tuple" = some none) (z_zip : PySem.W.nsIn K mainGlobals "zip" = some none) :
    ∃ T : Top K mg, True := by
  have F0 := fun_mk (st := st_is_number) l0 c0 k0
  have b0 := F0.binds (ps := ["thing", "low", "high"]) fun _ _ _ _ _ _ us hl => match us, hl with | [_, _, _], _ => rfl
  have F1 := fun_mk (st := st_is_small) l1 c1 k1
  have b1 := F1.binds (ps := ["thing"]) fun _ _ _ _ _ _ us hl => match us, hl with | [_], _ => rfl
  have F2 := fun_mk (st := st_is_name) l2 c2 k2
  have b2 := F2.binds (ps := ["thing"]) fun _ _ _ _ _ _ us hl => match us, hl with | [_], _ => rfl
  have F3 := fun_mk (st := st_is_sum_at) l3 c3 k3
  have b3 := F3.binds (ps := ["thing", "deep"]) fun _ _ _ _ _ _ us hl => match us, hl with | [_, _], _ => rfl
  have F4 := fun_mk (st := st_is_sum) l4 c4 k4
  have b4 := F4.binds (ps := ["thing"]) fun _ _ _ _ _ _ us hl => match us, hl with | [_], _ => rfl
  have F5 := fun_mk (st := st_rises) l5 c5 k5
  have b5 := F5.binds (ps := ["row"]) fun _ _ _ _ _ _ us hl => match us, hl with | [_], _ => rfl
  have F6 := fun_mk (st := st_are_lots) l6 c6 k6
  have b6 := F6.binds (ps := ["thing"]) fun _ _ _ _ _ _ us hl => match us, hl with | [_], _ => rfl
  have F7 := fun_mk (st := st_are_options) l7 c7 k7
  have b7 := F7.binds (ps := ["thing"]) fun _ _ _ _ _ _ us hl => match us, hl with | [_], _ => rfl
  have F8 := fun_mk (st := st_is_step) l8 c8 k8
  have b8 := F8.binds (ps := ["thing", "deep"]) fun _ _ _ _ _ _ us hl => match us, hl with | [_, _], _ => rfl
  have F9 := fun_mk (st := st_is_sheet_at) l9 c9 k9
  have b9 := F9.binds (ps := ["thing", "deep"]) fun _ _ _ _ _ _ us hl => match us, hl with | [_, _], _ => rfl
  have F10 := fun_mk (st := st_is_sheet) l10 c10 k10
  have b10 := F10.binds (ps := ["thing"]) fun _ _ _ _ _ _ us hl => match us, hl with | [_], _ => rfl
  have F11 := fun_mk (st := st__law_cell_at) l11 c11 k11
  have b11 := F11.binds (ps := ["script", "k"]) fun _ _ _ _ _ _ us hl => match us, hl with | [_, _], _ => rfl
  have F12 := fun_mk (st := st__law_mixed) l12 c12 k12
  have b12 := F12.binds (ps := ["script", "k"]) fun _ _ _ _ _ _ us hl => match us, hl with | [_, _], _ => rfl
  have F13 := fun_mk (st := st__law_drawn) l13 c13 k13
  have b13 := F13.binds (ps := ["number", "k"]) fun _ _ _ _ _ _ us hl => match us, hl with | [_, _], _ => rfl
  have F14 := fun_mk (st := st__law_sum) l14 c14 k14
  have b14 := F14.binds (ps := ["number", "deep"]) fun _ _ _ _ _ _ us hl => match us, hl with | [_, _], _ => rfl
  have F15 := fun_mk (st := st__law_numbers) l15 c15 k15
  have b15 := F15.binds (ps := ["number", "most"]) fun _ _ _ _ _ _ us hl => match us, hl with | [_, _], _ => rfl
  have F16 := fun_mk (st := st__law_pick_step) l16 c16 k16
  have b16 := F16.binds (ps := ["number", "name"]) fun _ _ _ _ _ _ us hl => match us, hl with | [_, _], _ => rfl
  have F17 := fun_mk (st := st__law_steps) l17 c17 k17
  have b17 := F17.binds (ps := ["number", "many", "deep", "room"]) fun _ _ _ _ _ _ us hl => match us, hl with | [_, _, _, _], _ => rfl
  have F18 := fun_mk (st := st__law_cards) l18 c18 k18
  have b18 := F18.binds (ps := ["number"]) fun _ _ _ _ _ _ us hl => match us, hl with | [_], _ => rfl
  have F19 := fun_mk (st := st__law_sheet) l19 c19 k19
  have b19 := F19.binds (ps := ["number"]) fun _ _ _ _ _ _ us hl => match us, hl with | [_], _ => rfl
  have F20 := fun_mk (st := st__law_whole) l20 c20 k20
  have b20 := F20.binds (ps := ["thing", "low", "high"]) fun _ _ _ _ _ _ us hl => match us, hl with | [_, _, _], _ => rfl
  have F21 := fun_mk (st := st__law_is_name) l21 c21 k21
  have b21 := F21.binds (ps := ["thing"]) fun _ _ _ _ _ _ us hl => match us, hl with | [_], _ => rfl
  have F22 := fun_mk (st := st__law_is_sum) l22 c22 k22
  have b22 := F22.binds (ps := ["thing", "deep"]) fun _ _ _ _ _ _ us hl => match us, hl with | [_, _], _ => rfl
  have F23 := fun_mk (st := st__law_rises) l23 c23 k23
  have b23 := F23.binds (ps := ["row"]) fun _ _ _ _ _ _ us hl => match us, hl with | [_], _ => rfl
  have F24 := fun_mk (st := st__law_are_options) l24 c24 k24
  have b24 := F24.binds (ps := ["thing", "most"]) fun _ _ _ _ _ _ us hl => match us, hl with | [_, _], _ => rfl
  have F25 := fun_mk (st := st__law_are_lots) l25 c25 k25
  have b25 := F25.binds (ps := ["thing"]) fun _ _ _ _ _ _ us hl => match us, hl with | [_], _ => rfl
  have F26 := fun_mk (st := st__law_is_step) l26 c26 k26
  have b26 := F26.binds (ps := ["thing", "deep"]) fun _ _ _ _ _ _ us hl => match us, hl with | [_, _], _ => rfl
  have F27 := fun_mk (st := st__law_is_sheet) l27 c27 k27
  have b27 := F27.binds (ps := ["thing", "deep"]) fun _ _ _ _ _ _ us hl => match us, hl with | [_, _], _ => rfl
  have F28 := fun_mk (st := st__law_odd) l28 c28 k28
  have b28 := F28.binds (ps := ["number"]) fun _ _ _ _ _ _ us hl => match us, hl with | [_], _ => rfl
  have F29 := fun_mk (st := st__law_spoilt) l29 c29 k29
  have b29 := F29.binds (ps := ["thing", "number", "deep"]) fun _ _ _ _ _ _ us hl => match us, hl with | [_, _, _], _ => rfl
  have F30 := fun_mk (st := st__law_same) l30 c30 k30
  have b30 := F30.binds (ps := ["found", "due"]) fun _ _ _ _ _ _ us hl => match us, hl with | [_, _], _ => rfl
  have F31 := fun_mk (st := st_law) l31 c31 k31
  have b31 := F31.binds (ps := ["script"]) fun _ _ _ _ _ _ us hl => match us, hl with | [_], _ => rfl
  exact ⟨{ 
           a_is_number := f0
           d_is_number := _
           f_is_number := F0
           b_is_number := b0
           g_is_number := PySem.W.mg_of X G a0
           a_is_small := f1
           d_is_small := _
           f_is_small := F1
           b_is_small := b1
           g_is_small := PySem.W.mg_of X G a1
           a_is_name := f2
           d_is_name := _
           f_is_name := F2
           b_is_name := b2
           g_is_name := PySem.W.mg_of X G a2
           a_is_sum_at := f3
           d_is_sum_at := _
           f_is_sum_at := F3
           b_is_sum_at := b3
           g_is_sum_at := PySem.W.mg_of X G a3
           a_is_sum := f4
           d_is_sum := _
           f_is_sum := F4
           b_is_sum := b4
           g_is_sum := PySem.W.mg_of X G a4
           a_rises := f5
           d_rises := _
           f_rises := F5
           b_rises := b5
           g_rises := PySem.W.mg_of X G a5
           a_are_lots := f6
           d_are_lots := _
           f_are_lots := F6
           b_are_lots := b6
           g_are_lots := PySem.W.mg_of X G a6
           a_are_options := f7
           d_are_options := _
           f_are_options := F7
           b_are_options := b7
           g_are_options := PySem.W.mg_of X G a7
           a_is_step := f8
           d_is_step := _
           f_is_step := F8
           b_is_step := b8
           g_is_step := PySem.W.mg_of X G a8
           a_is_sheet_at := f9
           d_is_sheet_at := _
           f_is_sheet_at := F9
           b_is_sheet_at := b9
           g_is_sheet_at := PySem.W.mg_of X G a9
           a_is_sheet := f10
           d_is_sheet := _
           f_is_sheet := F10
           b_is_sheet := b10
           g_is_sheet := PySem.W.mg_of X G a10
           a__law_cell_at := f11
           d__law_cell_at := _
           f__law_cell_at := F11
           b__law_cell_at := b11
           g__law_cell_at := PySem.W.mg_of X G a11
           a__law_mixed := f12
           d__law_mixed := _
           f__law_mixed := F12
           b__law_mixed := b12
           g__law_mixed := PySem.W.mg_of X G a12
           a__law_drawn := f13
           d__law_drawn := _
           f__law_drawn := F13
           b__law_drawn := b13
           g__law_drawn := PySem.W.mg_of X G a13
           a__law_sum := f14
           d__law_sum := _
           f__law_sum := F14
           b__law_sum := b14
           g__law_sum := PySem.W.mg_of X G a14
           a__law_numbers := f15
           d__law_numbers := _
           f__law_numbers := F15
           b__law_numbers := b15
           g__law_numbers := PySem.W.mg_of X G a15
           a__law_pick_step := f16
           d__law_pick_step := _
           f__law_pick_step := F16
           b__law_pick_step := b16
           g__law_pick_step := PySem.W.mg_of X G a16
           a__law_steps := f17
           d__law_steps := _
           f__law_steps := F17
           b__law_steps := b17
           g__law_steps := PySem.W.mg_of X G a17
           a__law_cards := f18
           d__law_cards := _
           f__law_cards := F18
           b__law_cards := b18
           g__law_cards := PySem.W.mg_of X G a18
           a__law_sheet := f19
           d__law_sheet := _
           f__law_sheet := F19
           b__law_sheet := b19
           g__law_sheet := PySem.W.mg_of X G a19
           a__law_whole := f20
           d__law_whole := _
           f__law_whole := F20
           b__law_whole := b20
           g__law_whole := PySem.W.mg_of X G a20
           a__law_is_name := f21
           d__law_is_name := _
           f__law_is_name := F21
           b__law_is_name := b21
           g__law_is_name := PySem.W.mg_of X G a21
           a__law_is_sum := f22
           d__law_is_sum := _
           f__law_is_sum := F22
           b__law_is_sum := b22
           g__law_is_sum := PySem.W.mg_of X G a22
           a__law_rises := f23
           d__law_rises := _
           f__law_rises := F23
           b__law_rises := b23
           g__law_rises := PySem.W.mg_of X G a23
           a__law_are_options := f24
           d__law_are_options := _
           f__law_are_options := F24
           b__law_are_options := b24
           g__law_are_options := PySem.W.mg_of X G a24
           a__law_are_lots := f25
           d__law_are_lots := _
           f__law_are_lots := F25
           b__law_are_lots := b25
           g__law_are_lots := PySem.W.mg_of X G a25
           a__law_is_step := f26
           d__law_is_step := _
           f__law_is_step := F26
           b__law_is_step := b26
           g__law_is_step := PySem.W.mg_of X G a26
           a__law_is_sheet := f27
           d__law_is_sheet := _
           f__law_is_sheet := F27
           b__law_is_sheet := b27
           g__law_is_sheet := PySem.W.mg_of X G a27
           a__law_odd := f28
           d__law_odd := _
           f__law_odd := F28
           b__law_odd := b28
           g__law_odd := PySem.W.mg_of X G a28
           a__law_spoilt := f29
           d__law_spoilt := _
           f__law_spoilt := F29
           b__law_spoilt := b29
           g__law_spoilt := PySem.W.mg_of X G a29
           a__law_same := f30
           d__law_same := _
           f__law_same := F30
           b__law_same := b30
           g__law_same := PySem.W.mg_of X G a30
           a_law := f31
           d_law := _
           f_law := F31
           b_law := b31
           g_law := PySem.W.mg_of X G a31
           z_all := PySem.W.mg_none_of X G z_all
           z_bool := PySem.W.mg_none_of X G z_bool
           z_enumerate := PySem.W.mg_none_of X G z_enumerate
           z_int := PySem.W.mg_none_of X G z_int
           z_isinstance := PySem.W.mg_none_of X G z_isinstance
           z_len := PySem.W.mg_none_of X G z_len
           z_list := PySem.W.mg_none_of X G z_list
           z_range := PySem.W.mg_none_of X G z_range
           z_str := PySem.W.mg_none_of X G z_str
           z_tuple := PySem.W.mg_none_of X G z_tuple
           z_zip := PySem.W.mg_none_of X G z_zip
           v_DEEP_SHEET := .int _
           u_DEEP_SHEET := _
           c_DEEP_SHEET := PySem.W.mg_of X G ca_DEEP_SHEET
           r_DEEP_SHEET := ⟨_, rfl⟩
           p_DEEP_SHEET := fun cl F => .int _
           v_DEEP_SUM := .int _
           u_DEEP_SUM := _
           c_DEEP_SUM := PySem.W.mg_of X G ca_DEEP_SUM
           r_DEEP_SUM := ⟨_, rfl⟩
           p_DEEP_SUM := fun cl F => .int _
           v_GREATEST := .int _
           u_GREATEST := _
           c_GREATEST := PySem.W.mg_of X G ca_GREATEST
           r_GREATEST := ⟨_, rfl⟩
           p_GREATEST := fun cl F => .int _
           v_LETTERS := .str _
           u_LETTERS := _
           c_LETTERS := PySem.W.mg_of X G ca_LETTERS
           r_LETTERS := ⟨_, rfl⟩
           p_LETTERS := fun cl F => .str _
           v_LONGEST := .int _
           u_LONGEST := _
           c_LONGEST := PySem.W.mg_of X G ca_LONGEST
           r_LONGEST := ⟨_, rfl⟩
           p_LONGEST := fun cl F => .int _
           v_STEPS := .ref ad_STEPS
           u_STEPS := _
           c_STEPS := PySem.W.mg_of X G ca_STEPS
           r_STEPS := rfl
           p_STEPS := fun cl F => .tup (vs := [.str "draw", .str "show", .str "ask", .str "keep", .str "if", .str "pay"]) (.inr ⟨_, _, _, cb_STEPS, rfl, rfl, rfl, Nat.le_of_ble_eq_true rfl, (.cons ⟨_, rfl⟩ (.cons ⟨_, rfl⟩ (.cons ⟨_, rfl⟩ (.cons ⟨_, rfl⟩ (.cons ⟨_, rfl⟩ (.cons ⟨_, rfl⟩ .nil))))))⟩) (.cons (.str _) (.cons (.str _) (.cons (.str _) (.cons (.str _) (.cons (.str _) (.cons (.str _) .nil))))))
           v_SUMS := .ref ad_SUMS
           u_SUMS := _
           c_SUMS := PySem.W.mg_of X G ca_SUMS
           r_SUMS := rfl
           p_SUMS := fun cl F => .tup (vs := [.str "plus", .str "less", .str "times", .str "under", .str "alike"]) (.inr ⟨_, _, _, cb_SUMS, rfl, rfl, rfl, Nat.le_of_ble_eq_true rfl, (.cons ⟨_, rfl⟩ (.cons ⟨_, rfl⟩ (.cons ⟨_, rfl⟩ (.cons ⟨_, rfl⟩ (.cons ⟨_, rfl⟩ .nil)))))⟩) (.cons (.str _) (.cons (.str _) (.cons (.str _) (.cons (.str _) (.cons (.str _) .nil)))))
           bl := fun s v => .of_eq rfl
         }, trivial⟩
end
theorem all_mk {l : PySem.W.OpenLaw} {w : World} {K : PySem.W.Frag} (cl : Nat → Addr) (kk : Nat) {h : Heap} {mg : Str → Option Value} {fa : Addr} (hfa : mg "law" = some (.ref fa)) (E : ∃ T : Top K mg, True) :
    ∃ fd : FuncData, (∀ (s : Shared) (v : Value), BindsTo s fd ⟨[v], []⟩ [("script", v)]) ∧ ∀ base : Heap, K.In base → base.Ns mainGlobals mg → FnOk l.prog w K mg base CX0 kk fa fd ["script"] (spF K cl 1 (callF kk .law)) := by
  obtain ⟨T, _⟩ := E
  have e := hfa.symm.trans T.g_law
  cases e
  exact ⟨T.d_law, T.bl, fun base _ _ => (all_ok T kk).o_law⟩
def drw (n k : Int) : Int := (n + 104729 * k + 17) * 69621 % 2147483647
def drawn (n k : Int) : Int := (drw n k * drw n k + 3 * drw n k + k) % 2147483629
def mxd (c : Int) (k : Int) : Int := (c + 7919 * k + 1) * 48271 % 2147483647
def mixed (ns : List Int) (k : Nat) : Int := (mxd (ns.getD k 0) k * mxd (ns.getD k 0) k + 7 * mxd (ns.getD k 0) k + k) % 2147483629
theorem drw_bd (n k : Int) : 0 ≤ drw n k ∧ drw n k < 2147483647 := by unfold drw; omega
theorem mxd_bd (n k : Int) : 0 ≤ mxd n k ∧ mxd n k < 2147483647 := by unfold mxd; omega
theorem drawn_bd (n k : Int) : 0 ≤ drawn n k ∧ drawn n k < 2147483629 := by unfold drawn; omega
theorem mixed_bd (ns : List Int) (k : Nat) : 0 ≤ mixed ns k ∧ mixed ns k < 2147483629 := by unfold mixed; omega
theorem c_cell (k : Nat) (ns : List Int) (j : Nat) : callF (k + 1) ._law_cell_at [.lst (ns.map .int), .int j] = .ok (.int (ns.getD j 0)) := by
  show runM 2 (m__law_cell_at (callF k)) _ = _
  by_cases h : j < ns.length
  · have e : dIx (.lst (ns.map .int)) (.int j) = .ok (.int (ns.getD j 0)) := by simp [dIx, atI, ixN, h]
    have h' : (j : Int) < ns.length := by omega
    simp only [e_run, e_seq, e_nil, e_brk, e_cnt, e_if, e_ret, e_retN, e_set, e_for, e_test, e_not, e_and, e_or, e_notV, e_andV, e_orV, e_ifE, e_m1, e_m2, e_c, e_var, e_varB, e_evN, e_evC, e_tup, e_lst, e_call, e_items, e_yes, r_seqN, r_seqR, r_seqB, r_seqC, r_seqE, r_seqS, r_bifT, r_bifF, r_bifE, r_ret, r_retE, r_put, r_putE, r_outR, r_outN, r_outE, r_ap2, r_bol, r_neg, r_bl, r_cons, r_getv, r_getb, r_tupl, r_lstl, r_loop, view_val, Res.bind_ok, Res.bind_err, Res.bind_stuck, Res.calm_ok, List.getElem?_cons_zero, List.getElem?_cons_succ, List.set_cons_zero, List.set_cons_succ, List.map_cons, List.map_nil, List.cons_append, List.nil_append, List.append_nil, List.length_cons, List.length_nil, List.replicate_succ, List.replicate_zero, Nat.reduceSub, Nat.reduceAdd, Nat.zero_add, Nat.sub_self, dAdd_int, dSub_int, dLt_int, dLe_int, dGt_int, dGe_int, dNeg_int, dInt_bl, dInt_int, dEq_int, dNe_int, decide_true, decide_false, Bool.not_true, Bool.not_false, if_true, if_false, Bool.false_eq_true, ofS_eq, String.reduceEq, e_chain, r_chn, r_chmT, r_chmF, e_sl, e_oN, e_oS, r_opt, r_slc, e_mM0, r_mm0, e_mM1, r_mm1, e_enum, r_enmL, r_enmT, e_zip, r_zpLL, r_zpLT, r_zpTL, r_zpTT, e_rg1, dDiv_int, dMod_int, Int.reduceLT, m__law_cell_at, dLen, List.length_map, h', e]
  · have e : ns.getD j 0 = 0 := by simp [List.getD, List.getElem?_eq_none (Nat.le_of_not_lt h)]
    have h' : ¬ (j : Int) < ns.length := by omega
    simp only [e_run, e_seq, e_nil, e_brk, e_cnt, e_if, e_ret, e_retN, e_set, e_for, e_test, e_not, e_and, e_or, e_notV, e_andV, e_orV, e_ifE, e_m1, e_m2, e_c, e_var, e_varB, e_evN, e_evC, e_tup, e_lst, e_call, e_items, e_yes, r_seqN, r_seqR, r_seqB, r_seqC, r_seqE, r_seqS, r_bifT, r_bifF, r_bifE, r_ret, r_retE, r_put, r_putE, r_outR, r_outN, r_outE, r_ap2, r_bol, r_neg, r_bl, r_cons, r_getv, r_getb, r_tupl, r_lstl, r_loop, view_val, Res.bind_ok, Res.bind_err, Res.bind_stuck, Res.calm_ok, List.getElem?_cons_zero, List.getElem?_cons_succ, List.set_cons_zero, List.set_cons_succ, List.map_cons, List.map_nil, List.cons_append, List.nil_append, List.append_nil, List.length_cons, List.length_nil, List.replicate_succ, List.replicate_zero, Nat.reduceSub, Nat.reduceAdd, Nat.zero_add, Nat.sub_self, dAdd_int, dSub_int, dLt_int, dLe_int, dGt_int, dGe_int, dNeg_int, dInt_bl, dInt_int, dEq_int, dNe_int, decide_true, decide_false, Bool.not_true, Bool.not_false, if_true, if_false, Bool.false_eq_true, ofS_eq, String.reduceEq, e_chain, r_chn, r_chmT, r_chmF, e_sl, e_oN, e_oS, r_opt, r_slc, e_mM0, r_mm0, e_mM1, r_mm1, e_enum, r_enmL, r_enmT, e_zip, r_zpLL, r_zpLT, r_zpTL, r_zpTT, e_rg1, dDiv_int, dMod_int, Int.reduceLT, m__law_cell_at, dLen, List.length_map, h', e]
theorem mulDD (d : Int) (h1 : 0 ≤ d) (h2 : d < 2147483647) : mulOk d d = true := mulOk_left (by omega) (by omega)
theorem c_drawn (k : Nat) (n j : Int) : callF (k + 1) ._law_drawn [.int n, .int j] = .ok (.int (drawn n j)) := by
  show runM 3 (m__law_drawn (callF k)) _ = _
  have h1 : mulOk 104729 j = true := mulOk_left (by decide) (by decide)
  have h2 : mulOk (n + 104729 * j + 17) 69621 = true := mulOk_right (by decide) (by decide)
  have h3 : mulOk (drw n j) (drw n j) = true := mulDD _ (drw_bd n j).1 (drw_bd n j).2
  have h4 : mulOk 3 (drw n j) = true := mulOk_left (by decide) (by decide)
  have e1 : dMod (.int ((n + 104729 * j + 17) * 69621)) (.int 2147483647) = .ok (.int (drw n j)) := dMod_int (by decide)
  have e2 : dMod (.int (drw n j * drw n j + 3 * drw n j + j)) (.int 2147483629) = .ok (.int (drawn n j)) := dMod_int (by decide)
  simp only [e_run, e_seq, e_nil, e_brk, e_cnt, e_if, e_ret, e_retN, e_set, e_for, e_test, e_not, e_and, e_or, e_notV, e_andV, e_orV, e_ifE, e_m1, e_m2, e_c, e_var, e_varB, e_evN, e_evC, e_tup, e_lst, e_call, e_items, e_yes, r_seqN, r_seqR, r_seqB, r_seqC, r_seqE, r_seqS, r_bifT, r_bifF, r_bifE, r_ret, r_retE, r_put, r_putE, r_outR, r_outN, r_outE, r_ap2, r_bol, r_neg, r_bl, r_cons, r_getv, r_getb, r_tupl, r_lstl, r_loop, view_val, Res.bind_ok, Res.bind_err, Res.bind_stuck, Res.calm_ok, List.getElem?_cons_zero, List.getElem?_cons_succ, List.set_cons_zero, List.set_cons_succ, List.map_cons, List.map_nil, List.cons_append, List.nil_append, List.append_nil, List.length_cons, List.length_nil, List.replicate_succ, List.replicate_zero, Nat.reduceSub, Nat.reduceAdd, Nat.zero_add, Nat.sub_self, dAdd_int, dSub_int, dLt_int, dLe_int, dGt_int, dGe_int, dNeg_int, dInt_bl, dInt_int, dEq_int, dNe_int, decide_true, decide_false, Bool.not_true, Bool.not_false, if_true, if_false, Bool.false_eq_true, ofS_eq, String.reduceEq, e_chain, r_chn, r_chmT, r_chmF, e_sl, e_oN, e_oS, r_opt, r_slc, e_mM0, r_mm0, e_mM1, r_mm1, e_enum, r_enmL, r_enmT, e_zip, r_zpLL, r_zpLT, r_zpTL, r_zpTT, e_rg1, dDiv_int, dMod_int, Int.reduceLT, m__law_drawn, dMul_int h1, dMul_int h2, e1, dMul_int h3, dMul_int h4, e2]
theorem c_mixed (k : Nat) (ns : List Int) (j : Nat) : callF (k + 2) ._law_mixed [.lst (ns.map .int), .int j] = .ok (.int (mixed ns j)) := by
  show runM 3 (m__law_mixed (callF (k + 1))) _ = _
  have h1 : mulOk 7919 j = true := mulOk_left (by decide) (by decide)
  have h2 : mulOk (ns.getD j 0 + 7919 * j + 1) 48271 = true := mulOk_right (by decide) (by decide)
  have h3 : mulOk (mxd (ns.getD j 0) j) (mxd (ns.getD j 0) j) = true := mulDD _ (mxd_bd _ _).1 (mxd_bd _ _).2
  have h4 : mulOk 7 (mxd (ns.getD j 0) j) = true := mulOk_left (by decide) (by decide)
  have e1 : dMod (.int ((ns.getD j 0 + 7919 * j + 1) * 48271)) (.int 2147483647) = .ok (.int (mxd (ns.getD j 0) j)) := dMod_int (by decide)
  have e2 : dMod (.int (mxd (ns.getD j 0) j * mxd (ns.getD j 0) j + 7 * mxd (ns.getD j 0) j + j)) (.int 2147483629) = .ok (.int (mixed ns j)) := dMod_int (by decide)
  simp only [e_run, e_seq, e_nil, e_brk, e_cnt, e_if, e_ret, e_retN, e_set, e_for, e_test, e_not, e_and, e_or, e_notV, e_andV, e_orV, e_ifE, e_m1, e_m2, e_c, e_var, e_varB, e_evN, e_evC, e_tup, e_lst, e_call, e_items, e_yes, r_seqN, r_seqR, r_seqB, r_seqC, r_seqE, r_seqS, r_bifT, r_bifF, r_bifE, r_ret, r_retE, r_put, r_putE, r_outR, r_outN, r_outE, r_ap2, r_bol, r_neg, r_bl, r_cons, r_getv, r_getb, r_tupl, r_lstl, r_loop, view_val, Res.bind_ok, Res.bind_err, Res.bind_stuck, Res.calm_ok, List.getElem?_cons_zero, List.getElem?_cons_succ, List.set_cons_zero, List.set_cons_succ, List.map_cons, List.map_nil, List.cons_append, List.nil_append, List.append_nil, List.length_cons, List.length_nil, List.replicate_succ, List.replicate_zero, Nat.reduceSub, Nat.reduceAdd, Nat.zero_add, Nat.sub_self, dAdd_int, dSub_int, dLt_int, dLe_int, dGt_int, dGe_int, dNeg_int, dInt_bl, dInt_int, dEq_int, dNe_int, decide_true, decide_false, Bool.not_true, Bool.not_false, if_true, if_false, Bool.false_eq_true, ofS_eq, String.reduceEq, e_chain, r_chn, r_chmT, r_chmF, e_sl, e_oN, e_oS, r_opt, r_slc, e_mM0, r_mm0, e_mM1, r_mm1, e_enum, r_enmL, r_enmT, e_zip, r_zpLL, r_zpLT, r_zpTL, r_zpTT, e_rg1, dDiv_int, dMod_int, Int.reduceLT, m__law_mixed, c_cell, dMul_int h1, dMul_int h2, e1, dMul_int h3, dMul_int h4, e2]
theorem six (i : Int) (h0 : 0 ≤ i) (h1 : i < 6) : i = 0 ∨ i = 1 ∨ i = 2 ∨ i = 3 ∨ i = 4 ∨ i = 5 := by omega
theorem five (i : Int) (h0 : 0 ≤ i) (h1 : i < 5) : i = 0 ∨ i = 1 ∨ i = 2 ∨ i = 3 ∨ i = 4 := by omega
theorem c_sum_leaf (dp : Nat) (k : Nat) (n : Int) (hn : 0 ≤ n) (h : dp = 0 ∨ n % 3 = 0) : ∃ s : Sm, s.Ok dp ∧ callF (k + 1) ._law_sum [.int n, .int dp] = .ok s.d := by
  have d3 : dDiv (.int n) (.int 3) = .ok (.int (n / 3)) := dDiv_int (by decide) (by decide)
  have d9 : dDiv (.int n) (.int 9) = .ok (.int (n / 9)) := dDiv_int (by decide) (by decide)
  have m3 : dMod (.int n) (.int 3) = .ok (.int (n % 3)) := dMod_int (by decide)
  have m6 : dMod (.int (n / 3)) (.int 6) = .ok (.int (n / 3 % 6)) := dMod_int (by decide)
  have m9 : dMod (.int (n / 9)) (.int 9) = .ok (.int (n / 9 % 9)) := dMod_int (by decide)
  have m101 : dMod (.int (n / 9)) (.int 101) = .ok (.int (n / 9 % 101)) := dMod_int (by decide)
  have step : ∀ (d : D), dIx (.lst [.str "a", .str "b", .str "c", .str "d", .int (n / 9 % 9 - 4), .int (n / 9 % 101 - 50)]) (.int (n / 3 % 6)) = .ok d → callF (k + 1) ._law_sum [.int n, .int dp] = .ok d := by
    intro d hd
    show runM 4 (m__law_sum (callF k)) _ = _
    by_cases h0 : (dp : Int) = 0
    · simp only [e_run, e_seq, e_nil, e_brk, e_cnt, e_if, e_ret, e_retN, e_set, e_for, e_test, e_not, e_and, e_or, e_notV, e_andV, e_orV, e_ifE, e_m1, e_m2, e_c, e_var, e_varB, e_evN, e_evC, e_tup, e_lst, e_call, e_items, e_yes, r_seqN, r_seqR, r_seqB, r_seqC, r_seqE, r_seqS, r_bifT, r_bifF, r_bifE, r_ret, r_retE, r_put, r_putE, r_outR, r_outN, r_outE, r_ap2, r_bol, r_neg, r_bl, r_cons, r_getv, r_getb, r_tupl, r_lstl, r_loop, view_val, Res.bind_ok, Res.bind_err, Res.bind_stuck, Res.calm_ok, List.getElem?_cons_zero, List.getElem?_cons_succ, List.set_cons_zero, List.set_cons_succ, List.map_cons, List.map_nil, List.cons_append, List.nil_append, List.append_nil, List.length_cons, List.length_nil, List.replicate_succ, List.replicate_zero, Nat.reduceSub, Nat.reduceAdd, Nat.zero_add, Nat.sub_self, dAdd_int, dSub_int, dLt_int, dLe_int, dGt_int, dGe_int, dNeg_int, dInt_bl, dInt_int, dEq_int, dNe_int, decide_true, decide_false, Bool.not_true, Bool.not_false, if_true, if_false, Bool.false_eq_true, ofS_eq, String.reduceEq, e_chain, r_chn, r_chmT, r_chmF, e_sl, e_oN, e_oS, r_opt, r_slc, e_mM0, r_mm0, e_mM1, r_mm1, e_enum, r_enmL, r_enmT, e_zip, r_zpLL, r_zpLT, r_zpTL, r_zpTT, e_rg1, dDiv_int, dMod_int, Int.reduceLT, m__law_sum, h0, d3, d9, m3, m6, m9, m101, hd]
    · have h3 : n % 3 = 0 := h.resolve_left (by omega)
      simp only [e_run, e_seq, e_nil, e_brk, e_cnt, e_if, e_ret, e_retN, e_set, e_for, e_test, e_not, e_and, e_or, e_notV, e_andV, e_orV, e_ifE, e_m1, e_m2, e_c, e_var, e_varB, e_evN, e_evC, e_tup, e_lst, e_call, e_items, e_yes, r_seqN, r_seqR, r_seqB, r_seqC, r_seqE, r_seqS, r_bifT, r_bifF, r_bifE, r_ret, r_retE, r_put, r_putE, r_outR, r_outN, r_outE, r_ap2, r_bol, r_neg, r_bl, r_cons, r_getv, r_getb, r_tupl, r_lstl, r_loop, view_val, Res.bind_ok, Res.bind_err, Res.bind_stuck, Res.calm_ok, List.getElem?_cons_zero, List.getElem?_cons_succ, List.set_cons_zero, List.set_cons_succ, List.map_cons, List.map_nil, List.cons_append, List.nil_append, List.append_nil, List.length_cons, List.length_nil, List.replicate_succ, List.replicate_zero, Nat.reduceSub, Nat.reduceAdd, Nat.zero_add, Nat.sub_self, dAdd_int, dSub_int, dLt_int, dLe_int, dGt_int, dGe_int, dNeg_int, dInt_bl, dInt_int, dEq_int, dNe_int, decide_true, decide_false, Bool.not_true, Bool.not_false, if_true, if_false, Bool.false_eq_true, ofS_eq, String.reduceEq, e_chain, r_chn, r_chmT, r_chmF, e_sl, e_oN, e_oS, r_opt, r_slc, e_mM0, r_mm0, e_mM1, r_mm1, e_enum, r_enmL, r_enmT, e_zip, r_zpLL, r_zpLT, r_zpTL, r_zpTT, e_rg1, dDiv_int, dMod_int, Int.reduceLT, m__law_sum, h0, h3, d3, d9, m3, m6, m9, m101, hd]
  rcases six (n / 3 % 6) (by omega) (by omega) with e | e | e | e | e | e
  · exact ⟨.nam "a", .nam (.inl rfl), step _ (by rw [e]; rfl)⟩
  · exact ⟨.nam "b", .nam (.inr (.inl rfl)), step _ (by rw [e]; rfl)⟩
  · exact ⟨.nam "c", .nam (.inr (.inr (.inl rfl))), step _ (by rw [e]; rfl)⟩
  · exact ⟨.nam "d", .nam (.inr (.inr (.inr rfl))), step _ (by rw [e]; rfl)⟩
  · exact ⟨.num (n / 9 % 9 - 4), .num (by omega) (by omega), step _ (by rw [e]; rfl)⟩
  · exact ⟨.num (n / 9 % 101 - 50), .num (by omega) (by omega), step _ (by rw [e]; rfl)⟩
theorem c_sum : ∀ (dp : Nat) (k : Nat) (n : Int), 0 ≤ n → ∃ s : Sm, s.Ok dp ∧ callF (k + dp + 2) ._law_sum [.int n, .int dp] = .ok s.d := by
  intro dp
  induction dp with
  | zero => intro k n hn; exact c_sum_leaf 0 (k + 1) n hn (.inl rfl)
  | succ dp ih =>
    intro k n hn
    by_cases h3 : n % 3 = 0
    · exact c_sum_leaf (dp + 1) (k + dp + 2) n hn (.inr h3)
    · obtain ⟨a, ha, ea⟩ := ih k (drawn n 1) (drawn_bd n 1).1
      obtain ⟨b, hb, eb⟩ := ih k (drawn n 2) (drawn_bd n 2).1
      have d3 : dDiv (.int n) (.int 3) = .ok (.int (n / 3)) := dDiv_int (by decide) (by decide)
      have m3 : dMod (.int n) (.int 3) = .ok (.int (n % 3)) := dMod_int (by decide)
      have m5 : dMod (.int (n / 3)) (.int 5) = .ok (.int (n / 3 % 5)) := dMod_int (by decide)
      have step : ∀ (w : Str), dIx (.tup [.str "plus", .str "less", .str "times", .str "under", .str "alike"]) (.int (n / 3 % 5)) = .ok (.str w) → callF (k + (dp + 1) + 2) ._law_sum [.int n, .int (dp + 1 : Nat)] = .ok (Sm.op w a b).d := by
        intro w hw
        show runM 4 (m__law_sum (callF (k + dp + 2))) _ = _
        have c1 := c_drawn (k + dp + 1) n 1
        have c2 := c_drawn (k + dp + 1) n 2
        have e0 : ((dp + 1 : Nat) : Int) - 1 = dp := by omega
        have e1 : ¬ ((dp + 1 : Nat) : Int) = 0 := by omega
        simp only [e_run, e_seq, e_nil, e_brk, e_cnt, e_if, e_ret, e_retN, e_set, e_for, e_test, e_not, e_and, e_or, e_notV, e_andV, e_orV, e_ifE, e_m1, e_m2, e_c, e_var, e_varB, e_evN, e_evC, e_tup, e_lst, e_call, e_items, e_yes, r_seqN, r_seqR, r_seqB, r_seqC, r_seqE, r_seqS, r_bifT, r_bifF, r_bifE, r_ret, r_retE, r_put, r_putE, r_outR, r_outN, r_outE, r_ap2, r_bol, r_neg, r_bl, r_cons, r_getv, r_getb, r_tupl, r_lstl, r_loop, view_val, Res.bind_ok, Res.bind_err, Res.bind_stuck, Res.calm_ok, List.getElem?_cons_zero, List.getElem?_cons_succ, List.set_cons_zero, List.set_cons_succ, List.map_cons, List.map_nil, List.cons_append, List.nil_append, List.append_nil, List.length_cons, List.length_nil, List.replicate_succ, List.replicate_zero, Nat.reduceSub, Nat.reduceAdd, Nat.zero_add, Nat.sub_self, dAdd_int, dSub_int, dLt_int, dLe_int, dGt_int, dGe_int, dNeg_int, dInt_bl, dInt_int, dEq_int, dNe_int, decide_true, decide_false, Bool.not_true, Bool.not_false, if_true, if_false, Bool.false_eq_true, ofS_eq, String.reduceEq, e_chain, r_chn, r_chmT, r_chmF, e_sl, e_oN, e_oS, r_opt, r_slc, e_mM0, r_mm0, e_mM1, r_mm1, e_enum, r_enmL, r_enmT, e_zip, r_zpLL, r_zpLT, r_zpTL, r_zpTT, e_rg1, dDiv_int, dMod_int, Int.reduceLT, m__law_sum, d3, m3, m5, e1, h3, c1, c2, e0, ea, eb, hw, Sm.d]
      rcases five (n / 3 % 5) (by omega) (by omega) with e | e | e | e | e
      · exact ⟨.op "plus" a b, .op (.inl rfl) ha hb, step _ (by rw [e]; rfl)⟩
      · exact ⟨.op "less" a b, .op (.inr (.inl rfl)) ha hb, step _ (by rw [e]; rfl)⟩
      · exact ⟨.op "times" a b, .op (.inr (.inr (.inl rfl))) ha hb, step _ (by rw [e]; rfl)⟩
      · exact ⟨.op "under" a b, .op (.inr (.inr (.inr (.inl rfl)))) ha hb, step _ (by rw [e]; rfl)⟩
      · exact ⟨.op "alike" a b, .op (.inr (.inr (.inr (.inr rfl)))) ha hb, step _ (by rw [e]; rfl)⟩

theorem dAdd_tup {xs ys : List D} (h : xs.length + ys.length ≤ 1000000) : dAdd (.tup xs) (.tup ys) = .ok (.tup (xs ++ ys)) := by
  have : xs.length + ys.length ≤ sizeLine := by rw [sizeLine_eq]; omega
  simp only [dAdd, if_pos this]
theorem c_numbers_loop (C : Fn → List D → Res D) (n : Int) (m : D) : ∀ (cnt : Nat) (i : Int) (os : List Int) (h : Int) (sl : Option O), 0 ≤ i → i + cnt ≤ 100 → os.length ≤ i → os.Pairwise (· < ·) → (∀ o ∈ os, -50 ≤ o ∧ o < h) → -50 ≤ h → h ≤ 1 + 3 * i →
    ∃ (os' : List Int) (h' : Int) (sl' : Option O), forM (bName 4) (m__law_numbers_b0 C) (rangeD i cnt) [some (.val (.int n)), some (.val m), some (.val (.tup (os.map .int))), some (.val (.int h)), sl] = .ok (.nx [some (.val (.int n)), some (.val m), some (.val (.tup (os'.map .int))), some (.val (.int h')), sl']) ∧
      os'.length = os.length + cnt ∧ os'.Pairwise (· < ·) ∧ (∀ o ∈ os', -50 ≤ o ∧ o < h') ∧ h' ≤ 1 + 3 * (i + cnt) := by
  intro cnt
  induction cnt with
  | zero => intro i os h sl _ _ _ p b _ b2; exact ⟨os, h, sl, rfl, rfl, p, b, by simpa using b2⟩
  | succ cnt ih =>
    intro i os h sl h0 h1 hl p b hb b2
    have q1 : dDiv (.int n) (.int (16 + i)) = .ok (.int (n / (16 + i))) := dDiv_int (by omega) (by omega)
    have q2 : dAdd (.tup (os.map .int)) (.tup [.int h]) = .ok (.tup ((os ++ [h]).map .int)) := by
      rw [dAdd_tup (by simp; omega)]; simp
    obtain ⟨os', h', sl', e, e2, e3, e4, e5⟩ := ih (i + 1) (os ++ [h]) (h + 1 + n / (16 + i) % 3) (some (.val (.int i))) (by omega) (by omega) (by simp; omega)
      (by
        rw [List.pairwise_append]
        refine ⟨p, by simp, fun a ha c hc => ?_⟩
        simp only [List.mem_singleton] at hc
        subst hc
        exact (b a ha).2)
      (by
        intro o ho
        rcases List.mem_append.mp ho with ho | ho
        · have := b o ho; omega
        · simp only [List.mem_singleton] at ho; subst ho; omega) (by omega) (by omega)
    refine ⟨os', h', sl', ?_, by simp at e2; omega, e3, e4, by omega⟩
    rw [rangeD_succ, for_name (ρ2 := [some (.val (.int n)), some (.val m), some (.val (.tup ((os ++ [h]).map .int))), some (.val (.int (h + 1 + n / (16 + i) % 3))), some (.val (.int i))]) (by simp only [e_run, e_seq, e_nil, e_brk, e_cnt, e_if, e_ret, e_retN, e_set, e_for, e_test, e_not, e_and, e_or, e_notV, e_andV, e_orV, e_ifE, e_m1, e_m2, e_c, e_var, e_varB, e_evN, e_evC, e_tup, e_lst, e_call, e_items, e_yes, r_seqN, r_seqR, r_seqB, r_seqC, r_seqE, r_seqS, r_bifT, r_bifF, r_bifE, r_ret, r_retE, r_put, r_putE, r_outR, r_outN, r_outE, r_ap2, r_bol, r_neg, r_bl, r_cons, r_getv, r_getb, r_tupl, r_lstl, r_loop, view_val, Res.bind_ok, Res.bind_err, Res.bind_stuck, Res.calm_ok, List.getElem?_cons_zero, List.getElem?_cons_succ, List.set_cons_zero, List.set_cons_succ, List.map_cons, List.map_nil, List.cons_append, List.nil_append, List.append_nil, List.length_cons, List.length_nil, List.replicate_succ, List.replicate_zero, Nat.reduceSub, Nat.reduceAdd, Nat.zero_add, Nat.sub_self, dAdd_int, dSub_int, dLt_int, dLe_int, dGt_int, dGe_int, dNeg_int, dInt_bl, dInt_int, dEq_int, dNe_int, decide_true, decide_false, Bool.not_true, Bool.not_false, if_true, if_false, Bool.false_eq_true, ofS_eq, String.reduceEq, e_chain, r_chn, r_chmT, r_chmF, e_sl, e_oN, e_oS, r_opt, r_slc, e_mM0, r_mm0, e_mM1, r_mm1, e_enum, r_enmL, r_enmT, e_zip, r_zpLL, r_zpLT, r_zpTL, r_zpTT, e_rg1, dDiv_int, dMod_int, Int.reduceLT, m__law_numbers_b0, q1, q2]), e]
theorem c_numbers (k : Nat) (n : Int) (most : Nat) (hn : 0 ≤ n) (h1 : 1 ≤ most) (h2 : most ≤ 5) : ∃ os : List Int, optsOk most os ∧ callF (k + 1) ._law_numbers [.int n, .int most] = .ok (.tup (os.map .int)) := by
  have q1 : dMod (.int (n / 5)) (.int most) = .ok (.int (n / 5 % most)) := dMod_int (by omega)
  have hm0 : 0 ≤ n / 5 % (most : Int) := Int.emod_nonneg _ (by omega)
  have hm1 : n / 5 % (most : Int) < most := Int.emod_lt_of_pos _ (by omega)
  have q2 : ∀ m, dIx (.tup [.int (n % 5 - 3), .int m]) (.int (if decide (n % 13 = 1) = true then 1 else 0)) = .ok (.int (if n % 13 = 1 then m else n % 5 - 3)) := by
    intro m
    by_cases h : n % 13 = 1 <;> simp [h, dIx, atI, ixN]
  obtain ⟨os, h', sl', e, e2, e3, e4, e5⟩ := c_numbers_loop (callF k) n (.int most) (1 + n / 5 % most).toNat 0 [] (if n % 13 = 1 then -50 else n % 5 - 3) none (by omega) (by omega) (by simp) .nil (by simp) (by split <;> omega) (by split <;> omega)
  have q3 : Res.rg1 (.ok (.int (1 + n / 5 % most))) = .ok (rangeD 0 (1 + n / 5 % most).toNat) := r_rg1 (by omega) (by omega)
  refine ⟨os, ⟨by simp at e2; omega, by simp at e2; omega, e3, fun i hi => by have := e4 i hi; omega⟩, ?_⟩
  simp only [List.map_nil] at e
  show runM 5 (m__law_numbers (callF k)) _ = _
  simp only [e_run, e_seq, e_nil, e_brk, e_cnt, e_if, e_ret, e_retN, e_set, e_for, e_test, e_not, e_and, e_or, e_notV, e_andV, e_orV, e_ifE, e_m1, e_m2, e_c, e_var, e_varB, e_evN, e_evC, e_tup, e_lst, e_call, e_items, e_yes, r_seqN, r_seqR, r_seqB, r_seqC, r_seqE, r_seqS, r_bifT, r_bifF, r_bifE, r_ret, r_retE, r_put, r_putE, r_outR, r_outN, r_outE, r_ap2, r_bol, r_neg, r_bl, r_cons, r_getv, r_getb, r_tupl, r_lstl, r_loop, view_val, Res.bind_ok, Res.bind_err, Res.bind_stuck, Res.calm_ok, List.getElem?_cons_zero, List.getElem?_cons_succ, List.set_cons_zero, List.set_cons_succ, List.map_cons, List.map_nil, List.cons_append, List.nil_append, List.append_nil, List.length_cons, List.length_nil, List.replicate_succ, List.replicate_zero, Nat.reduceSub, Nat.reduceAdd, Nat.zero_add, Nat.sub_self, dAdd_int, dSub_int, dLt_int, dLe_int, dGt_int, dGe_int, dNeg_int, dInt_bl, dInt_int, dEq_int, dNe_int, decide_true, decide_false, Bool.not_true, Bool.not_false, if_true, if_false, Bool.false_eq_true, ofS_eq, String.reduceEq, e_chain, r_chn, r_chmT, r_chmF, e_sl, e_oN, e_oS, r_opt, r_slc, e_mM0, r_mm0, e_mM1, r_mm1, e_enum, r_enmL, r_enmT, e_zip, r_zpLL, r_zpLT, r_zpTL, r_zpTT, e_rg1, dDiv_int, dMod_int, Int.reduceLT, m__law_numbers, q1, q2, q3, e]
/-- drawn lots -/
def lotOf (n v : Int) : D → D
  | .tup [.int i, .int o] => .tup [.int o, .int (1 + n / (32 + i) % v)]
  | d => d
theorem enum_int (os : List Int) : enumD (os.map .int) = os.mapIdx fun i o => .tup [.int i, .int o] := by
  unfold enumD
  apply List.ext_getElem?
  intro i
  simp only [List.getElem?_mapIdx, List.getElem?_map, Option.map_map, Function.comp_def]
theorem c_pick (k : Nat) (n : Int) (x : Str) (hn : 0 ≤ n) (hx : isN x) (dp : Nat) : ∃ s : Stp, s.Ok dp ∧ s.pk = 1 ∧ callF (k + 2) ._law_pick_step [.int n, .str x] = .ok s.d := by
  by_cases hc : n % 5 < 2
  · have main : ∀ wd : Int, (if decide (n / 7 % 9 = 1) = true then (1 : Int) else 0) = wd → (wd = 0 ∨ wd = 1) → ∃ s : Stp, s.Ok dp ∧ s.pk = 1 ∧ callF (k + 2) ._law_pick_step [.int n, .str x] = .ok s.d := by
      intro wd e0 hw
      obtain ⟨os, hos, eo⟩ := c_numbers k (n / 8) (3 + 2 * wd).toNat (by omega) (by omega) (by omega)
      have e1 : (((3 + 2 * wd).toNat : Nat) : Int) = 3 + 2 * wd := by omega
      rw [e1] at eo
      have q1 : dMulA (.int 2) (.int wd) = .ok (.int (2 * wd)) := dMul_int (mulOk_left (by decide) (by decide))
      have q2 : dMulA (.int 5) (.int wd) = .ok (.int (5 * wd)) := dMul_int (mulOk_left (by decide) (by decide))
      have ol : os.length ≤ 5 := by have := hos.2.1; omega
      have ql : m__law_pick_step_c0 (callF (k + 1)) [some (.val (.int n)), some (.val (.str x)), some (.val (.int wd)), some (.val (.tup (os.map .int))), none, none, none] = .ok (.lst ((enumD (os.map .int)).map (lotOf n (4 + 5 * wd)))) := by
        refine mLc_all (xs := enumD (os.map .int)) (by simp only [e_run, e_seq, e_nil, e_brk, e_cnt, e_if, e_ret, e_retN, e_set, e_for, e_test, e_not, e_and, e_or, e_notV, e_andV, e_orV, e_ifE, e_m1, e_m2, e_c, e_var, e_varB, e_evN, e_evC, e_tup, e_lst, e_call, e_items, e_yes, r_seqN, r_seqR, r_seqB, r_seqC, r_seqE, r_seqS, r_bifT, r_bifF, r_bifE, r_ret, r_retE, r_put, r_putE, r_outR, r_outN, r_outE, r_ap2, r_bol, r_neg, r_bl, r_cons, r_getv, r_getb, r_tupl, r_lstl, r_loop, view_val, Res.bind_ok, Res.bind_err, Res.bind_stuck, Res.calm_ok, List.getElem?_cons_zero, List.getElem?_cons_succ, List.set_cons_zero, List.set_cons_succ, List.map_cons, List.map_nil, List.cons_append, List.nil_append, List.append_nil, List.length_cons, List.length_nil, List.replicate_succ, List.replicate_zero, Nat.reduceSub, Nat.reduceAdd, Nat.zero_add, Nat.sub_self, dAdd_int, dSub_int, dLt_int, dLe_int, dGt_int, dGe_int, dNeg_int, dInt_bl, dInt_int, dEq_int, dNe_int, decide_true, decide_false, Bool.not_true, Bool.not_false, if_true, if_false, Bool.false_eq_true, ofS_eq, String.reduceEq, e_chain, r_chn, r_chmT, r_chmF, e_sl, e_oN, e_oS, r_opt, r_slc, e_mM0, r_mm0, e_mM1, r_mm1, e_enum, r_enmL, r_enmT, e_zip, r_zpLL, r_zpLT, r_zpTL, r_zpTT, e_rg1, dDiv_int, dMod_int, Int.reduceLT]) (by simp [enumD]; rw [sizeLine_eq]; omega) fun y hy => ?_
        rw [enum_int] at hy
        obtain ⟨i, hi, rfl⟩ := List.mem_mapIdx.mp hy
        have r1 : dDiv (.int n) (.int (32 + (i : Int))) = .ok (.int (n / (32 + i))) := dDiv_int (by omega) (by omega)
        have r2 : dMod (.int (n / (32 + (i : Int)))) (.int (4 + 5 * wd)) = .ok (.int (n / (32 + i) % (4 + 5 * wd))) := dMod_int (by omega)
        exact ⟨_, r_bTup rfl, by simp only [e_run, e_seq, e_nil, e_brk, e_cnt, e_if, e_ret, e_retN, e_set, e_for, e_test, e_not, e_and, e_or, e_notV, e_andV, e_orV, e_ifE, e_m1, e_m2, e_c, e_var, e_varB, e_evN, e_evC, e_tup, e_lst, e_call, e_items, e_yes, r_seqN, r_seqR, r_seqB, r_seqC, r_seqE, r_seqS, r_bifT, r_bifF, r_bifE, r_ret, r_retE, r_put, r_putE, r_outR, r_outN, r_outE, r_ap2, r_bol, r_neg, r_bl, r_cons, r_getv, r_getb, r_tupl, r_lstl, r_loop, view_val, Res.bind_ok, Res.bind_err, Res.bind_stuck, Res.calm_ok, List.getElem?_cons_zero, List.getElem?_cons_succ, List.set_cons_zero, List.set_cons_succ, List.map_cons, List.map_nil, List.cons_append, List.nil_append, List.append_nil, List.length_cons, List.length_nil, List.replicate_succ, List.replicate_zero, Nat.reduceSub, Nat.reduceAdd, Nat.zero_add, Nat.sub_self, dAdd_int, dSub_int, dLt_int, dLe_int, dGt_int, dGe_int, dNeg_int, dInt_bl, dInt_int, dEq_int, dNe_int, decide_true, decide_false, Bool.not_true, Bool.not_false, if_true, if_false, Bool.false_eq_true, ofS_eq, String.reduceEq, e_chain, r_chn, r_chmT, r_chmF, e_sl, e_oN, e_oS, r_opt, r_slc, e_mM0, r_mm0, e_mM1, r_mm1, e_enum, r_enmL, r_enmT, e_zip, r_zpLL, r_zpLT, r_zpTL, r_zpTT, e_rg1, dDiv_int, dMod_int, Int.reduceLT, wipeE, setAll, q2, r1, r2, lotOf]⟩
      have el : (enumD (os.map .int)).map (lotOf n (4 + 5 * wd)) = lotsD (os.mapIdx fun i o => (o, 1 + n / (32 + i) % (4 + 5 * wd))) := by
        rw [enum_int]
        unfold lotsD
        apply List.ext_getElem?
        intro i
        simp only [List.getElem?_mapIdx, List.getElem?_map, Option.map_map, Function.comp_def, lotOf]
      refine ⟨.draw x (os.mapIdx fun i o => (o, 1 + n / (32 + i) % (4 + 5 * wd))), .draw hx ⟨?_, ?_⟩, rfl, ?_⟩
      · have : (os.mapIdx fun i o => (o, 1 + n / (32 + (i : Int)) % (4 + 5 * wd))).map (·.1) = os := by
          apply List.ext_getElem?
          intro i
          simp [List.getElem?_mapIdx, List.getElem?_map, Function.comp_def]
        rw [this]
        exact ⟨hos.1, ol, hos.2.2.1, hos.2.2.2⟩
      · intro p hp
        obtain ⟨i, hi, rfl⟩ := List.mem_mapIdx.mp hp
        have h1 : 0 ≤ n / (32 + (i : Int)) % (4 + 5 * wd) := Int.emod_nonneg _ (by omega)
        have h2 : n / (32 + (i : Int)) % (4 + 5 * wd) < 4 + 5 * wd := Int.emod_lt_of_pos _ (by omega)
        dsimp only
        omega
      · show runM 7 (m__law_pick_step (callF (k + 1))) _ = _
        simp only [e_run, e_seq, e_nil, e_brk, e_cnt, e_if, e_ret, e_retN, e_set, e_for, e_test, e_not, e_and, e_or, e_notV, e_andV, e_orV, e_ifE, e_m1, e_m2, e_c, e_var, e_varB, e_evN, e_evC, e_tup, e_lst, e_call, e_items, e_yes, r_seqN, r_seqR, r_seqB, r_seqC, r_seqE, r_seqS, r_bifT, r_bifF, r_bifE, r_ret, r_retE, r_put, r_putE, r_outR, r_outN, r_outE, r_ap2, r_bol, r_neg, r_bl, r_cons, r_getv, r_getb, r_tupl, r_lstl, r_loop, view_val, Res.bind_ok, Res.bind_err, Res.bind_stuck, Res.calm_ok, List.getElem?_cons_zero, List.getElem?_cons_succ, List.set_cons_zero, List.set_cons_succ, List.map_cons, List.map_nil, List.cons_append, List.nil_append, List.append_nil, List.length_cons, List.length_nil, List.replicate_succ, List.replicate_zero, Nat.reduceSub, Nat.reduceAdd, Nat.zero_add, Nat.sub_self, dAdd_int, dSub_int, dLt_int, dLe_int, dGt_int, dGe_int, dNeg_int, dInt_bl, dInt_int, dEq_int, dNe_int, decide_true, decide_false, Bool.not_true, Bool.not_false, if_true, if_false, Bool.false_eq_true, ofS_eq, String.reduceEq, e_chain, r_chn, r_chmT, r_chmF, e_sl, e_oN, e_oS, r_opt, r_slc, e_mM0, r_mm0, e_mM1, r_mm1, e_enum, r_enmL, r_enmT, e_zip, r_zpLL, r_zpLT, r_zpTL, r_zpTT, e_rg1, dDiv_int, dMod_int, Int.reduceLT, m__law_pick_step, e0, hc, q1, eo, ql, el, dTuple, Stp.d]
    by_cases h : n / 7 % 9 = 1
    · exact main 1 (by simp [h]) (.inr rfl)
    · exact main 0 (by simp [h]) (.inl rfl)
  · have main : ∀ wd : Int, (if decide (n / 7 % 9 = 1) = true then (1 : Int) else 0) = wd → (wd = 0 ∨ wd = 1) → ∃ s : Stp, s.Ok dp ∧ s.pk = 1 ∧ callF (k + 2) ._law_pick_step [.int n, .str x] = .ok s.d := by
      intro wd e0 hw
      obtain ⟨os, hos, eo⟩ := c_numbers k (n / 8) (3 + wd).toNat (by omega) (by omega) (by omega)
      have e1 : (((3 + wd).toNat : Nat) : Int) = 3 + wd := by omega
      rw [e1] at eo
      have ol : os.length ≤ 4 := by have := hos.2.1; omega
      refine ⟨.ask (n / 4 % 2) x os, .ask hx (by omega) ⟨hos.1, ol, hos.2.2.1, hos.2.2.2⟩, rfl, ?_⟩
      show runM 7 (m__law_pick_step (callF (k + 1))) _ = _
      simp only [e_run, e_seq, e_nil, e_brk, e_cnt, e_if, e_ret, e_retN, e_set, e_for, e_test, e_not, e_and, e_or, e_notV, e_andV, e_orV, e_ifE, e_m1, e_m2, e_c, e_var, e_varB, e_evN, e_evC, e_tup, e_lst, e_call, e_items, e_yes, r_seqN, r_seqR, r_seqB, r_seqC, r_seqE, r_seqS, r_bifT, r_bifF, r_bifE, r_ret, r_retE, r_put, r_putE, r_outR, r_outN, r_outE, r_ap2, r_bol, r_neg, r_bl, r_cons, r_getv, r_getb, r_tupl, r_lstl, r_loop, view_val, Res.bind_ok, Res.bind_err, Res.bind_stuck, Res.calm_ok, List.getElem?_cons_zero, List.getElem?_cons_succ, List.set_cons_zero, List.set_cons_succ, List.map_cons, List.map_nil, List.cons_append, List.nil_append, List.append_nil, List.length_cons, List.length_nil, List.replicate_succ, List.replicate_zero, Nat.reduceSub, Nat.reduceAdd, Nat.zero_add, Nat.sub_self, dAdd_int, dSub_int, dLt_int, dLe_int, dGt_int, dGe_int, dNeg_int, dInt_bl, dInt_int, dEq_int, dNe_int, decide_true, decide_false, Bool.not_true, Bool.not_false, if_true, if_false, Bool.false_eq_true, ofS_eq, String.reduceEq, e_chain, r_chn, r_chmT, r_chmF, e_sl, e_oN, e_oS, r_opt, r_slc, e_mM0, r_mm0, e_mM1, r_mm1, e_enum, r_enmL, r_enmT, e_zip, r_zpLL, r_zpLT, r_zpTL, r_zpTT, e_rg1, dDiv_int, dMod_int, Int.reduceLT, m__law_pick_step, e0, hc, eo, Stp.d]
    by_cases h : n / 7 % 9 = 1
    · exact main 1 (by simp [h]) (.inr rfl)
    · exact main 0 (by simp [h]) (.inl rfl)
theorem four (i : Int) (h0 : 0 ≤ i) (h1 : i < 4) : i = 0 ∨ i = 1 ∨ i = 2 ∨ i = 3 := by omega
theorem abcd_ix (i : Int) (h0 : 0 ≤ i) (h1 : i < 4) : ∃ x : Str, isN x ∧ dIx (.str "abcd") (.int i) = .ok (.str x) := by
  rcases four i h0 h1 with e | e | e | e
  · exact ⟨"a", .inl rfl, by rw [e]; exact dIx_str (c := 97) (by decide) rfl rfl⟩
  · exact ⟨"b", .inr (.inl rfl), by rw [e]; exact dIx_str (c := 98) (by decide) rfl rfl⟩
  · exact ⟨"c", .inr (.inr (.inl rfl)), by rw [e]; exact dIx_str (c := 99) (by decide) rfl rfl⟩
  · exact ⟨"d", .inr (.inr (.inr rfl)), by rw [e]; exact dIx_str (c := 100) (by decide) rfl rfl⟩
theorem c_steps_loop (C : Fn → List D → Res D) (dp : Nat) (n : Int) (m r : D)
    (hD : ∀ n j, C ._law_drawn [.int n, .int j] = .ok (.int (drawn n j)))
    (hP : ∀ (n : Int) (x : Str), 0 ≤ n → isN x → ∃ s : Stp, s.Ok dp ∧ s.pk = 1 ∧ C ._law_pick_step [.int n, .str x] = .ok s.d)
    (hS : ∀ n : Int, 0 ≤ n → ∃ s : Sm, s.Ok 3 ∧ C ._law_sum [.int n, .int 2] = .ok s.d)
    (hR : ∀ dq : Nat, dp = dq + 1 → ∀ (n : Int) (many room : Nat), 0 ≤ n → many ≤ 3 → ∃ sh : List Stp, (∀ t ∈ sh, t.Ok dq) ∧ pks sh ≤ room ∧ sh.length ≤ many + 1 ∧ C ._law_steps [.int n, .int many, .int dq, .int room] = .ok (.tup (stepsD sh))) :
    ∀ (cnt : Nat) (i : Int) (sh : List Stp) (left : Nat) (s6 s7 s8 s9 s10 s11 : Option O), 0 ≤ i → i + cnt ≤ 100 → sh.length ≤ i → (∀ t ∈ sh, t.Ok dp) →
    ∃ (sh' : List Stp) (left' : Nat) (t6 t7 t8 t9 t10 t11 : Option O), forM (bName 6) (m__law_steps_b0 C) (rangeD i cnt) [some (.val (.int n)), some (.val m), some (.val (.int dp)), some (.val r), some (.val (.tup (stepsD sh))), some (.val (.int left)), s6, s7, s8, s9, s10, s11]
        = .ok (.nx [some (.val (.int n)), some (.val m), some (.val (.int dp)), some (.val r), some (.val (.tup (stepsD sh'))), some (.val (.int left')), t6, t7, t8, t9, t10, t11]) ∧
      sh'.length = sh.length + cnt ∧ (∀ t ∈ sh', t.Ok dp) ∧ pks sh' + left' ≤ pks sh + left := by
  intro cnt
  induction cnt with
  | zero => intro i sh left s6 s7 s8 s9 s10 s11 _ _ _ h; exact ⟨sh, left, s6, s7, s8, s9, s10, s11, rfl, rfl, h, Nat.le_refl _⟩
  | succ cnt ih =>
    intro i sh left s6 s7 s8 s9 s10 s11 h0 h1 hl hok
    have hd0 := (drawn_bd n i).1
    obtain ⟨x, hx, ex⟩ := abcd_ix (drawn n i / 9 % 4) (by omega) (by omega)
    have key : ∀ (st : Stp) (left2 : Nat) (t10 t11 : Option O), st.Ok dp → st.pk + left2 ≤ left →
        m__law_steps_b0 C [some (.val (.int n)), some (.val m), some (.val (.int dp)), some (.val r), some (.val (.tup (stepsD sh))), some (.val (.int left)), some (.val (.int i)), s7, s8, s9, s10, s11]
          = .ok (.nx [some (.val (.int n)), some (.val m), some (.val (.int dp)), some (.val r), some (.val (.tup (stepsD sh ++ [st.d]))), some (.val (.int left2)), some (.val (.int i)), some (.val (.int (drawn n i))), some (.val (.int (drawn n i % 9))), some (.val (.str x)), t10, t11]) →
        ∃ (sh' : List Stp) (left' : Nat) (t6 t7 t8 t9 t10 t11 : Option O), forM (bName 6) (m__law_steps_b0 C) (rangeD i (cnt + 1)) [some (.val (.int n)), some (.val m), some (.val (.int dp)), some (.val r), some (.val (.tup (stepsD sh))), some (.val (.int left)), s6, s7, s8, s9, s10, s11]
            = .ok (.nx [some (.val (.int n)), some (.val m), some (.val (.int dp)), some (.val r), some (.val (.tup (stepsD sh'))), some (.val (.int left')), t6, t7, t8, t9, t10, t11]) ∧
          sh'.length = sh.length + (cnt + 1) ∧ (∀ t ∈ sh', t.Ok dp) ∧ pks sh' + left' ≤ pks sh + left := by
      intro st left2 t10 t11 hst hpk hb
      obtain ⟨sh', left', u6, u7, u8, u9, u10, u11, e, e2, e3, e4⟩ := ih (i + 1) (sh ++ [st]) left2 (some (.val (.int i))) (some (.val (.int (drawn n i)))) (some (.val (.int (drawn n i % 9)))) (some (.val (.str x))) t10 t11 (by omega) (by omega) (by simp; omega)
        (by
          intro t ht
          rcases List.mem_append.mp ht with ht | ht
          · exact hok t ht
          · simp only [List.mem_singleton] at ht; subst ht; exact hst)
      refine ⟨sh', left', u6, u7, u8, u9, u10, u11, ?_, by simp at e2; omega, e3, ?_⟩
      · rw [stepsD_append] at e
        simp only [stepsD] at e
        rw [rangeD_succ, for_name hb, e]
      · rw [pks_append, pks_cons, pks_nil] at e4; omega
    have qa : ∀ d : D, dAdd (.tup (stepsD sh)) (.tup [d]) = .ok (.tup (stepsD sh ++ [d])) := fun d => dAdd_tup (by rw [stepsD_length]; simp; omega)
    by_cases c1 : drawn n i % 9 < 5 ∧ 0 < left
    · obtain ⟨st, h2, h3, h4⟩ := hP (drawn n i / 9) x (by omega) hx
      have c2 : (0 : Int) < left := by omega
      have e1 : ((left : Nat) : Int) - 1 = ((left - 1 : Nat) : Int) := by omega
      refine key st (left - 1) s10 s11 h2 (by omega) ?_
      simp only [e_run, e_seq, e_nil, e_brk, e_cnt, e_if, e_ret, e_retN, e_set, e_for, e_test, e_not, e_and, e_or, e_notV, e_andV, e_orV, e_ifE, e_m1, e_m2, e_c, e_var, e_varB, e_evN, e_evC, e_tup, e_lst, e_call, e_items, e_yes, r_seqN, r_seqR, r_seqB, r_seqC, r_seqE, r_seqS, r_bifT, r_bifF, r_bifE, r_ret, r_retE, r_put, r_putE, r_outR, r_outN, r_outE, r_ap2, r_bol, r_neg, r_bl, r_cons, r_getv, r_getb, r_tupl, r_lstl, r_loop, view_val, Res.bind_ok, Res.bind_err, Res.bind_stuck, Res.calm_ok, List.getElem?_cons_zero, List.getElem?_cons_succ, List.set_cons_zero, List.set_cons_succ, List.map_cons, List.map_nil, List.cons_append, List.nil_append, List.append_nil, List.length_cons, List.length_nil, List.replicate_succ, List.replicate_zero, Nat.reduceSub, Nat.reduceAdd, Nat.zero_add, Nat.sub_self, dAdd_int, dSub_int, dLt_int, dLe_int, dGt_int, dGe_int, dNeg_int, dInt_bl, dInt_int, dEq_int, dNe_int, decide_true, decide_false, Bool.not_true, Bool.not_false, if_true, if_false, Bool.false_eq_true, ofS_eq, String.reduceEq, e_chain, r_chn, r_chmT, r_chmF, e_sl, e_oN, e_oS, r_opt, r_slc, e_mM0, r_mm0, e_mM1, r_mm1, e_enum, r_enmL, r_enmT, e_zip, r_zpLL, r_zpLT, r_zpTL, r_zpTT, e_rg1, dDiv_int, dMod_int, Int.reduceLT, m__law_steps_b0, hD, ex, c1.1, c2, h4, qa, e1]
    · have nf1 : drawn n i % 9 < 5 → ¬ (0 : Int) < left := fun a z => c1 ⟨a, by omega⟩
      have main : ∀ (st : Stp) (left2 : Nat) (t10 t11 : Option O), st.Ok dp → st.pk + left2 ≤ left →
          (∀ a1 : Bool, (a1 = true → ¬ (0 : Int) < left) → decide (drawn n i % 9 < 5) = a1 → m__law_steps_b0 C [some (.val (.int n)), some (.val m), some (.val (.int dp)), some (.val r), some (.val (.tup (stepsD sh))), some (.val (.int left)), some (.val (.int i)), s7, s8, s9, s10, s11]
          = .ok (.nx [some (.val (.int n)), some (.val m), some (.val (.int dp)), some (.val r), some (.val (.tup (stepsD sh ++ [st.d]))), some (.val (.int left2)), some (.val (.int i)), some (.val (.int (drawn n i))), some (.val (.int (drawn n i % 9))), some (.val (.str x)), t10, t11])) →
          ∃ (sh' : List Stp) (left' : Nat) (t6 t7 t8 t9 t10 t11 : Option O), forM (bName 6) (m__law_steps_b0 C) (rangeD i (cnt + 1)) [some (.val (.int n)), some (.val m), some (.val (.int dp)), some (.val r), some (.val (.tup (stepsD sh))), some (.val (.int left)), s6, s7, s8, s9, s10, s11]
            = .ok (.nx [some (.val (.int n)), some (.val m), some (.val (.int dp)), some (.val r), some (.val (.tup (stepsD sh'))), some (.val (.int left')), t6, t7, t8, t9, t10, t11]) ∧
          sh'.length = sh.length + (cnt + 1) ∧ (∀ t ∈ sh', t.Ok dp) ∧ pks sh' + left' ≤ pks sh + left := fun st left2 t10 t11 h2 h3 h4 =>
        key st left2 t10 t11 h2 h3 (h4 _ (fun a => nf1 (of_decide_eq_true a)) rfl)
      by_cases c2 : drawn n i % 9 = 7 ∧ 0 < dp
      · obtain ⟨dq, rfl⟩ : ∃ dq, dp = dq + 1 := ⟨dp - 1, by omega⟩
        obtain ⟨cs, hcs, ecs⟩ := hS (drawn n i / 9) (by omega)
        obtain ⟨a, ha, pa, la, ea⟩ := hR dq rfl (drawn (drawn n i) 1) (1 + drawn n i / 36 % 3).toNat (left / 2) (drawn_bd _ _).1 (by omega)
        obtain ⟨b, hb, pb, lb, eb⟩ := hR dq rfl (drawn (drawn n i) 2) (drawn n i / 108 % 3).toNat (left / 2) (drawn_bd _ _).1 (by omega)
        have z1 : (((1 + drawn n i / 36 % 3).toNat : Nat) : Int) = 1 + drawn n i / 36 % 3 := by omega
        have z2 : (((drawn n i / 108 % 3).toNat : Nat) : Int) = drawn n i / 108 % 3 := by omega
        have z3 : ((left / 2 : Nat) : Int) = (left : Int) / 2 := by omega
        have z4 : ((dq + 1 : Nat) : Int) - 1 = dq := by omega
        have z5 : (left : Int) - (left : Int) / 2 = ((left - left / 2 : Nat) : Int) := by omega
        have z6 : (0 : Int) < ((dq + 1 : Nat) : Int) := by omega
        rw [z1, z3] at ea
        rw [z2, z3] at eb
        have c3 : ¬ drawn n i % 9 < 5 := by omega
        refine key (.iff cs a b) (left - left / 2) (some (.val (.tup (stepsD a)))) (some (.val (.tup (stepsD b)))) (.iff hcs (by omega) (by omega) ha hb) (by show max (pks a) (pks b) + _ ≤ _; omega) ?_
        simp only [e_run, e_seq, e_nil, e_brk, e_cnt, e_if, e_ret, e_retN, e_set, e_for, e_test, e_not, e_and, e_or, e_notV, e_andV, e_orV, e_ifE, e_m1, e_m2, e_c, e_var, e_varB, e_evN, e_evC, e_tup, e_lst, e_call, e_items, e_yes, r_seqN, r_seqR, r_seqB, r_seqC, r_seqE, r_seqS, r_bifT, r_bifF, r_bifE, r_ret, r_retE, r_put, r_putE, r_outR, r_outN, r_outE, r_ap2, r_bol, r_neg, r_bl, r_cons, r_getv, r_getb, r_tupl, r_lstl, r_loop, view_val, Res.bind_ok, Res.bind_err, Res.bind_stuck, Res.calm_ok, List.getElem?_cons_zero, List.getElem?_cons_succ, List.set_cons_zero, List.set_cons_succ, List.map_cons, List.map_nil, List.cons_append, List.nil_append, List.append_nil, List.length_cons, List.length_nil, List.replicate_succ, List.replicate_zero, Nat.reduceSub, Nat.reduceAdd, Nat.zero_add, Nat.sub_self, dAdd_int, dSub_int, dLt_int, dLe_int, dGt_int, dGe_int, dNeg_int, dInt_bl, dInt_int, dEq_int, dNe_int, decide_true, decide_false, Bool.not_true, Bool.not_false, if_true, if_false, Bool.false_eq_true, ofS_eq, String.reduceEq, e_chain, r_chn, r_chmT, r_chmF, e_sl, e_oN, e_oS, r_opt, r_slc, e_mM0, r_mm0, e_mM1, r_mm1, e_enum, r_enmL, r_enmT, e_zip, r_zpLL, r_zpLT, r_zpTL, r_zpTT, e_rg1, dDiv_int, dMod_int, Int.reduceLT, m__law_steps_b0, hD, ex, c3, c2.1, z6, z4, ecs, ea, eb, qa, z5, Stp.d]
      · have nf2 : drawn n i % 9 = 7 → ¬ (0 : Int) < dp := fun a z => c2 ⟨a, by omega⟩
        by_cases c3 : drawn n i % 9 = 8
        · obtain ⟨cs, hcs, ecs⟩ := hS (drawn n i / 9) (by omega)
          have c4 : ¬ drawn n i % 9 < 5 := by omega
          have c5 : ¬ drawn n i % 9 = 7 := by omega
          refine key (.keep x cs) left s10 s11 (.keep hx hcs) (by show 0 + left ≤ left; omega) ?_
          simp only [e_run, e_seq, e_nil, e_brk, e_cnt, e_if, e_ret, e_retN, e_set, e_for, e_test, e_not, e_and, e_or, e_notV, e_andV, e_orV, e_ifE, e_m1, e_m2, e_c, e_var, e_varB, e_evN, e_evC, e_tup, e_lst, e_call, e_items, e_yes, r_seqN, r_seqR, r_seqB, r_seqC, r_seqE, r_seqS, r_bifT, r_bifF, r_bifE, r_ret, r_retE, r_put, r_putE, r_outR, r_outN, r_outE, r_ap2, r_bol, r_neg, r_bl, r_cons, r_getv, r_getb, r_tupl, r_lstl, r_loop, view_val, Res.bind_ok, Res.bind_err, Res.bind_stuck, Res.calm_ok, List.getElem?_cons_zero, List.getElem?_cons_succ, List.set_cons_zero, List.set_cons_succ, List.map_cons, List.map_nil, List.cons_append, List.nil_append, List.append_nil, List.length_cons, List.length_nil, List.replicate_succ, List.replicate_zero, Nat.reduceSub, Nat.reduceAdd, Nat.zero_add, Nat.sub_self, dAdd_int, dSub_int, dLt_int, dLe_int, dGt_int, dGe_int, dNeg_int, dInt_bl, dInt_int, dEq_int, dNe_int, decide_true, decide_false, Bool.not_true, Bool.not_false, if_true, if_false, Bool.false_eq_true, ofS_eq, String.reduceEq, e_chain, r_chn, r_chmT, r_chmF, e_sl, e_oN, e_oS, r_opt, r_slc, e_mM0, r_mm0, e_mM1, r_mm1, e_enum, r_enmL, r_enmT, e_zip, r_zpLL, r_zpLT, r_zpTL, r_zpTT, e_rg1, dDiv_int, dMod_int, Int.reduceLT, m__law_steps_b0, hD, ex, c3, c4, c5, Int.reduceEq, ecs, qa, Stp.d]
        · refine main (.shw x (drawn n i / 36 % 2)) left s10 s11 (.shw hx (by omega)) (by show 0 + left ≤ left; omega) ?_
          intro a1 f1 g1
          have fin : ∀ a2 : Bool, (a2 = true → ¬ (0 : Int) < dp) → decide (drawn n i % 9 = 7) = a2 → m__law_steps_b0 C [some (.val (.int n)), some (.val m), some (.val (.int dp)), some (.val r), some (.val (.tup (stepsD sh))), some (.val (.int left)), some (.val (.int i)), s7, s8, s9, s10, s11]
            = .ok (.nx [some (.val (.int n)), some (.val m), some (.val (.int dp)), some (.val r), some (.val (.tup (stepsD sh ++ [(Stp.shw x (drawn n i / 36 % 2)).d]))), some (.val (.int left)), some (.val (.int i)), some (.val (.int (drawn n i))), some (.val (.int (drawn n i % 9))), some (.val (.str x)), s10, s11]) := by
            intro a2 f2 g2
            cases a1 with
            | true =>
              have f1' := f1 rfl
              cases a2 with
              | true => have f2' := f2 rfl; simp only [e_run, e_seq, e_nil, e_brk, e_cnt, e_if, e_ret, e_retN, e_set, e_for, e_test, e_not, e_and, e_or, e_notV, e_andV, e_orV, e_ifE, e_m1, e_m2, e_c, e_var, e_varB, e_evN, e_evC, e_tup, e_lst, e_call, e_items, e_yes, r_seqN, r_seqR, r_seqB, r_seqC, r_seqE, r_seqS, r_bifT, r_bifF, r_bifE, r_ret, r_retE, r_put, r_putE, r_outR, r_outN, r_outE, r_ap2, r_bol, r_neg, r_bl, r_cons, r_getv, r_getb, r_tupl, r_lstl, r_loop, view_val, Res.bind_ok, Res.bind_err, Res.bind_stuck, Res.calm_ok, List.getElem?_cons_zero, List.getElem?_cons_succ, List.set_cons_zero, List.set_cons_succ, List.map_cons, List.map_nil, List.cons_append, List.nil_append, List.append_nil, List.length_cons, List.length_nil, List.replicate_succ, List.replicate_zero, Nat.reduceSub, Nat.reduceAdd, Nat.zero_add, Nat.sub_self, dAdd_int, dSub_int, dLt_int, dLe_int, dGt_int, dGe_int, dNeg_int, dInt_bl, dInt_int, dEq_int, dNe_int, decide_true, decide_false, Bool.not_true, Bool.not_false, if_true, if_false, Bool.false_eq_true, ofS_eq, String.reduceEq, e_chain, r_chn, r_chmT, r_chmF, e_sl, e_oN, e_oS, r_opt, r_slc, e_mM0, r_mm0, e_mM1, r_mm1, e_enum, r_enmL, r_enmT, e_zip, r_zpLL, r_zpLT, r_zpTL, r_zpTT, e_rg1, dDiv_int, dMod_int, Int.reduceLT, m__law_steps_b0, hD, ex, c3, g1, g2, f1', f2', qa, Stp.d]
              | false => simp only [e_run, e_seq, e_nil, e_brk, e_cnt, e_if, e_ret, e_retN, e_set, e_for, e_test, e_not, e_and, e_or, e_notV, e_andV, e_orV, e_ifE, e_m1, e_m2, e_c, e_var, e_varB, e_evN, e_evC, e_tup, e_lst, e_call, e_items, e_yes, r_seqN, r_seqR, r_seqB, r_seqC, r_seqE, r_seqS, r_bifT, r_bifF, r_bifE, r_ret, r_retE, r_put, r_putE, r_outR, r_outN, r_outE, r_ap2, r_bol, r_neg, r_bl, r_cons, r_getv, r_getb, r_tupl, r_lstl, r_loop, view_val, Res.bind_ok, Res.bind_err, Res.bind_stuck, Res.calm_ok, List.getElem?_cons_zero, List.getElem?_cons_succ, List.set_cons_zero, List.set_cons_succ, List.map_cons, List.map_nil, List.cons_append, List.nil_append, List.append_nil, List.length_cons, List.length_nil, List.replicate_succ, List.replicate_zero, Nat.reduceSub, Nat.reduceAdd, Nat.zero_add, Nat.sub_self, dAdd_int, dSub_int, dLt_int, dLe_int, dGt_int, dGe_int, dNeg_int, dInt_bl, dInt_int, dEq_int, dNe_int, decide_true, decide_false, Bool.not_true, Bool.not_false, if_true, if_false, Bool.false_eq_true, ofS_eq, String.reduceEq, e_chain, r_chn, r_chmT, r_chmF, e_sl, e_oN, e_oS, r_opt, r_slc, e_mM0, r_mm0, e_mM1, r_mm1, e_enum, r_enmL, r_enmT, e_zip, r_zpLL, r_zpLT, r_zpTL, r_zpTT, e_rg1, dDiv_int, dMod_int, Int.reduceLT, m__law_steps_b0, hD, ex, c3, g1, g2, f1', qa, Stp.d]
            | false =>
              cases a2 with
              | true => have f2' := f2 rfl; simp only [e_run, e_seq, e_nil, e_brk, e_cnt, e_if, e_ret, e_retN, e_set, e_for, e_test, e_not, e_and, e_or, e_notV, e_andV, e_orV, e_ifE, e_m1, e_m2, e_c, e_var, e_varB, e_evN, e_evC, e_tup, e_lst, e_call, e_items, e_yes, r_seqN, r_seqR, r_seqB, r_seqC, r_seqE, r_seqS, r_bifT, r_bifF, r_bifE, r_ret, r_retE, r_put, r_putE, r_outR, r_outN, r_outE, r_ap2, r_bol, r_neg, r_bl, r_cons, r_getv, r_getb, r_tupl, r_lstl, r_loop, view_val, Res.bind_ok, Res.bind_err, Res.bind_stuck, Res.calm_ok, List.getElem?_cons_zero, List.getElem?_cons_succ, List.set_cons_zero, List.set_cons_succ, List.map_cons, List.map_nil, List.cons_append, List.nil_append, List.append_nil, List.length_cons, List.length_nil, List.replicate_succ, List.replicate_zero, Nat.reduceSub, Nat.reduceAdd, Nat.zero_add, Nat.sub_self, dAdd_int, dSub_int, dLt_int, dLe_int, dGt_int, dGe_int, dNeg_int, dInt_bl, dInt_int, dEq_int, dNe_int, decide_true, decide_false, Bool.not_true, Bool.not_false, if_true, if_false, Bool.false_eq_true, ofS_eq, String.reduceEq, e_chain, r_chn, r_chmT, r_chmF, e_sl, e_oN, e_oS, r_opt, r_slc, e_mM0, r_mm0, e_mM1, r_mm1, e_enum, r_enmL, r_enmT, e_zip, r_zpLL, r_zpLT, r_zpTL, r_zpTT, e_rg1, dDiv_int, dMod_int, Int.reduceLT, m__law_steps_b0, hD, ex, c3, g1, g2, f2', qa, Stp.d]
              | false => simp only [e_run, e_seq, e_nil, e_brk, e_cnt, e_if, e_ret, e_retN, e_set, e_for, e_test, e_not, e_and, e_or, e_notV, e_andV, e_orV, e_ifE, e_m1, e_m2, e_c, e_var, e_varB, e_evN, e_evC, e_tup, e_lst, e_call, e_items, e_yes, r_seqN, r_seqR, r_seqB, r_seqC, r_seqE, r_seqS, r_bifT, r_bifF, r_bifE, r_ret, r_retE, r_put, r_putE, r_outR, r_outN, r_outE, r_ap2, r_bol, r_neg, r_bl, r_cons, r_getv, r_getb, r_tupl, r_lstl, r_loop, view_val, Res.bind_ok, Res.bind_err, Res.bind_stuck, Res.calm_ok, List.getElem?_cons_zero, List.getElem?_cons_succ, List.set_cons_zero, List.set_cons_succ, List.map_cons, List.map_nil, List.cons_append, List.nil_append, List.append_nil, List.length_cons, List.length_nil, List.replicate_succ, List.replicate_zero, Nat.reduceSub, Nat.reduceAdd, Nat.zero_add, Nat.sub_self, dAdd_int, dSub_int, dLt_int, dLe_int, dGt_int, dGe_int, dNeg_int, dInt_bl, dInt_int, dEq_int, dNe_int, decide_true, decide_false, Bool.not_true, Bool.not_false, if_true, if_false, Bool.false_eq_true, ofS_eq, String.reduceEq, e_chain, r_chn, r_chmT, r_chmF, e_sl, e_oN, e_oS, r_opt, r_slc, e_mM0, r_mm0, e_mM1, r_mm1, e_enum, r_enmL, r_enmT, e_zip, r_zpLL, r_zpLT, r_zpTL, r_zpTT, e_rg1, dDiv_int, dMod_int, Int.reduceLT, m__law_steps_b0, hD, ex, c3, g1, g2, qa, Stp.d]
          exact fin _ (fun a => nf2 (of_decide_eq_true a)) rfl
theorem c_steps_of (C : Fn → List D → Res D) (dp : Nat)
    (hD : ∀ n j, C ._law_drawn [.int n, .int j] = .ok (.int (drawn n j)))
    (hP : ∀ (n : Int) (x : Str), 0 ≤ n → isN x → ∃ s : Stp, s.Ok dp ∧ s.pk = 1 ∧ C ._law_pick_step [.int n, .str x] = .ok s.d)
    (hS : ∀ n : Int, 0 ≤ n → ∃ s : Sm, s.Ok 3 ∧ C ._law_sum [.int n, .int 2] = .ok s.d)
    (hS3 : ∀ n : Int, 0 ≤ n → ∃ s : Sm, s.Ok 3 ∧ C ._law_sum [.int n, .int 3] = .ok s.d)
    (hR : ∀ dq : Nat, dp = dq + 1 → ∀ (n : Int) (many room : Nat), 0 ≤ n → many ≤ 3 → ∃ sh : List Stp, (∀ t ∈ sh, t.Ok dq) ∧ pks sh ≤ room ∧ sh.length ≤ many + 1 ∧ C ._law_steps [.int n, .int many, .int dq, .int room] = .ok (.tup (stepsD sh)))
    (n : Int) (many room : Nat) (hn : 0 ≤ n) (hm : many ≤ 11) : ∃ sh : List Stp, (∀ t ∈ sh, t.Ok dp) ∧ pks sh ≤ room ∧ many ≤ sh.length ∧ sh.length ≤ many + 1 ∧ runM 12 (m__law_steps C) [.int n, .int many, .int dp, .int room] = .ok (.tup (stepsD sh)) := by
  obtain ⟨sh, left, t6, t7, t8, t9, t10, t11, e, e2, e3, e4⟩ := c_steps_loop C dp n (.int many) (.int room) hD hP hS hR many 0 [] room none none none none none none (by omega) (by omega) (by simp) (by simp)
  have q3 : Res.rg1 (.ok (.int many)) = .ok (rangeD 0 many) := r_rgN (by omega)
  have qa : ∀ d : D, dAdd (.tup (stepsD sh)) (.tup [d]) = .ok (.tup (stepsD sh ++ [d])) := fun d => dAdd_tup (by rw [stepsD_length]; simp at e2 ⊢; omega)
  simp only [stepsD] at e
  simp only [List.length_nil, Nat.zero_add, pks_nil] at e2 e4
  by_cases c : 0 < n % 4
  · obtain ⟨ps, hps, eps⟩ := hS3 (n / 4) (by omega)
    refine ⟨sh ++ [.pay ps], ?_, ?_, by simp; omega, by simp; omega, ?_⟩
    · intro t ht
      rcases List.mem_append.mp ht with ht | ht
      · exact e3 t ht
      · simp only [List.mem_singleton] at ht; subst ht; exact .pay hps
    · rw [pks_append, pks_cons, pks_nil]; show _ + (0 + 0) ≤ _; omega
    · simp only [e_run, e_seq, e_nil, e_brk, e_cnt, e_if, e_ret, e_retN, e_set, e_for, e_test, e_not, e_and, e_or, e_notV, e_andV, e_orV, e_ifE, e_m1, e_m2, e_c, e_var, e_varB, e_evN, e_evC, e_tup, e_lst, e_call, e_items, e_yes, r_seqN, r_seqR, r_seqB, r_seqC, r_seqE, r_seqS, r_bifT, r_bifF, r_bifE, r_ret, r_retE, r_put, r_putE, r_outR, r_outN, r_outE, r_ap2, r_bol, r_neg, r_bl, r_cons, r_getv, r_getb, r_tupl, r_lstl, r_loop, view_val, Res.bind_ok, Res.bind_err, Res.bind_stuck, Res.calm_ok, List.getElem?_cons_zero, List.getElem?_cons_succ, List.set_cons_zero, List.set_cons_succ, List.map_cons, List.map_nil, List.cons_append, List.nil_append, List.append_nil, List.length_cons, List.length_nil, List.replicate_succ, List.replicate_zero, Nat.reduceSub, Nat.reduceAdd, Nat.zero_add, Nat.sub_self, dAdd_int, dSub_int, dLt_int, dLe_int, dGt_int, dGe_int, dNeg_int, dInt_bl, dInt_int, dEq_int, dNe_int, decide_true, decide_false, Bool.not_true, Bool.not_false, if_true, if_false, Bool.false_eq_true, ofS_eq, String.reduceEq, e_chain, r_chn, r_chmT, r_chmF, e_sl, e_oN, e_oS, r_opt, r_slc, e_mM0, r_mm0, e_mM1, r_mm1, e_enum, r_enmL, r_enmT, e_zip, r_zpLL, r_zpLT, r_zpTL, r_zpTT, e_rg1, dDiv_int, dMod_int, Int.reduceLT, m__law_steps, q3, e, c, eps, qa, stepsD_append, stepsD, Stp.d]
  · refine ⟨sh, e3, by omega, by omega, by omega, ?_⟩
    simp only [e_run, e_seq, e_nil, e_brk, e_cnt, e_if, e_ret, e_retN, e_set, e_for, e_test, e_not, e_and, e_or, e_notV, e_andV, e_orV, e_ifE, e_m1, e_m2, e_c, e_var, e_varB, e_evN, e_evC, e_tup, e_lst, e_call, e_items, e_yes, r_seqN, r_seqR, r_seqB, r_seqC, r_seqE, r_seqS, r_bifT, r_bifF, r_bifE, r_ret, r_retE, r_put, r_putE, r_outR, r_outN, r_outE, r_ap2, r_bol, r_neg, r_bl, r_cons, r_getv, r_getb, r_tupl, r_lstl, r_loop, view_val, Res.bind_ok, Res.bind_err, Res.bind_stuck, Res.calm_ok, List.getElem?_cons_zero, List.getElem?_cons_succ, List.set_cons_zero, List.set_cons_succ, List.map_cons, List.map_nil, List.cons_append, List.nil_append, List.append_nil, List.length_cons, List.length_nil, List.replicate_succ, List.replicate_zero, Nat.reduceSub, Nat.reduceAdd, Nat.zero_add, Nat.sub_self, dAdd_int, dSub_int, dLt_int, dLe_int, dGt_int, dGe_int, dNeg_int, dInt_bl, dInt_int, dEq_int, dNe_int, decide_true, decide_false, Bool.not_true, Bool.not_false, if_true, if_false, Bool.false_eq_true, ofS_eq, String.reduceEq, e_chain, r_chn, r_chmT, r_chmF, e_sl, e_oN, e_oS, r_opt, r_slc, e_mM0, r_mm0, e_mM1, r_mm1, e_enum, r_enmL, r_enmT, e_zip, r_zpLL, r_zpLT, r_zpTL, r_zpTT, e_rg1, dDiv_int, dMod_int, Int.reduceLT, m__law_steps, q3, e, c]
theorem c_steps : ∀ (dp : Nat) (k : Nat) (n : Int) (many room : Nat), 0 ≤ n → many ≤ 11 → ∃ sh : List Stp, (∀ t ∈ sh, t.Ok dp) ∧ pks sh ≤ room ∧ many ≤ sh.length ∧ sh.length ≤ many + 1 ∧ callF (k + dp + 6) ._law_steps [.int n, .int many, .int dp, .int room] = .ok (.tup (stepsD sh)) := by
  intro dp
  induction dp with
  | zero =>
    intro k n many room hn hm
    exact c_steps_of (callF (k + 5)) 0 (fun n j => c_drawn (k + 4) n j) (fun n x a b => c_pick (k + 3) n x a b 0)
      (fun n hn => let ⟨s, h1, h2⟩ := c_sum 2 (k + 1) n hn; ⟨s, h1.mono (by decide), h2⟩) (fun n hn => c_sum 3 k n hn) (fun dq h => by omega) n many room hn hm
  | succ dp ih =>
    intro k n many room hn hm
    exact c_steps_of (callF (k + dp + 6)) (dp + 1) (fun n j => c_drawn (k + dp + 5) n j) (fun n x a b => c_pick (k + dp + 4) n x a b (dp + 1))
      (fun n hn => let ⟨s, h1, h2⟩ := c_sum 2 (k + dp + 2) n hn; ⟨s, h1.mono (by decide), h2⟩) (fun n hn => c_sum 3 (k + dp + 1) n hn) (fun dq h n many room hn hm => by
        obtain rfl : dq = dp := by omega
        obtain ⟨sh, h1, h2, _, h3, h4⟩ := ih k n many room hn (by omega)
        exact ⟨sh, h1, h2, h3, h4⟩) n many room hn hm
def cardLot (n : Int) : D → D
  | .int i => .tup [.int i, .int (1 + n / (7 + i) % 3)]
  | d => d
theorem c_cards (k : Nat) (n : Int) (hn : 0 ≤ n) : ∃ sh : List Stp, SheetOk 1 sh ∧ pks sh ≤ 3 ∧ 1 ≤ sh.length ∧ callF (k + 6) ._law_cards [.int n] = .ok (.tup (stepsD sh)) := by
  obtain ⟨lots, hlots, ql⟩ : ∃ lots : List (Int × Int), lotsOk lots ∧ m__law_cards_c0 (callF (k + 5)) [some (.val (.int n)), none, none, none, none, none] = .ok (.lst (lotsD lots)) := by
    have hm : n % 2 = 0 ∨ n % 2 = 1 := by omega
    have hl : m__law_cards_c0 (callF (k + 5)) [some (.val (.int n)), none, none, none, none, none] = .ok (.lst ((rangeD 0 (2 + n % 2).toNat).map (cardLot n))) := by
      have q3 : Res.rg1 (.ok (.int (2 + n % 2))) = .ok (rangeD 0 (2 + n % 2).toNat) := r_rg1 (by omega) (by omega)
      refine mLc_all (xs := rangeD 0 (2 + n % 2).toNat) (by simp only [e_run, e_seq, e_nil, e_brk, e_cnt, e_if, e_ret, e_retN, e_set, e_for, e_test, e_not, e_and, e_or, e_notV, e_andV, e_orV, e_ifE, e_m1, e_m2, e_c, e_var, e_varB, e_evN, e_evC, e_tup, e_lst, e_call, e_items, e_yes, r_seqN, r_seqR, r_seqB, r_seqC, r_seqE, r_seqS, r_bifT, r_bifF, r_bifE, r_ret, r_retE, r_put, r_putE, r_outR, r_outN, r_outE, r_ap2, r_bol, r_neg, r_bl, r_cons, r_getv, r_getb, r_tupl, r_lstl, r_loop, view_val, Res.bind_ok, Res.bind_err, Res.bind_stuck, Res.calm_ok, List.getElem?_cons_zero, List.getElem?_cons_succ, List.set_cons_zero, List.set_cons_succ, List.map_cons, List.map_nil, List.cons_append, List.nil_append, List.append_nil, List.length_cons, List.length_nil, List.replicate_succ, List.replicate_zero, Nat.reduceSub, Nat.reduceAdd, Nat.zero_add, Nat.sub_self, dAdd_int, dSub_int, dLt_int, dLe_int, dGt_int, dGe_int, dNeg_int, dInt_bl, dInt_int, dEq_int, dNe_int, decide_true, decide_false, Bool.not_true, Bool.not_false, if_true, if_false, Bool.false_eq_true, ofS_eq, String.reduceEq, e_chain, r_chn, r_chmT, r_chmF, e_sl, e_oN, e_oS, r_opt, r_slc, e_mM0, r_mm0, e_mM1, r_mm1, e_enum, r_enmL, r_enmT, e_zip, r_zpLL, r_zpLT, r_zpTL, r_zpTT, e_rg1, dDiv_int, dMod_int, Int.reduceLT, q3]) (by simp [rangeD]; rw [sizeLine_eq]; omega) fun y hy => ?_
      obtain ⟨i, hi, rfl⟩ := List.mem_map.mp hy
      have hi' : i < (2 + n % 2).toNat := List.mem_range.mp hi
      have r1 : dDiv (.int n) (.int (7 + (0 + (i : Int)))) = .ok (.int (n / (7 + (0 + (i : Int))))) := dDiv_int (by omega) (by omega)
      exact ⟨_, rfl, by simp only [e_run, e_seq, e_nil, e_brk, e_cnt, e_if, e_ret, e_retN, e_set, e_for, e_test, e_not, e_and, e_or, e_notV, e_andV, e_orV, e_ifE, e_m1, e_m2, e_c, e_var, e_varB, e_evN, e_evC, e_tup, e_lst, e_call, e_items, e_yes, r_seqN, r_seqR, r_seqB, r_seqC, r_seqE, r_seqS, r_bifT, r_bifF, r_bifE, r_ret, r_retE, r_put, r_putE, r_outR, r_outN, r_outE, r_ap2, r_bol, r_neg, r_bl, r_cons, r_getv, r_getb, r_tupl, r_lstl, r_loop, view_val, Res.bind_ok, Res.bind_err, Res.bind_stuck, Res.calm_ok, List.getElem?_cons_zero, List.getElem?_cons_succ, List.set_cons_zero, List.set_cons_succ, List.map_cons, List.map_nil, List.cons_append, List.nil_append, List.append_nil, List.length_cons, List.length_nil, List.replicate_succ, List.replicate_zero, Nat.reduceSub, Nat.reduceAdd, Nat.zero_add, Nat.sub_self, dAdd_int, dSub_int, dLt_int, dLe_int, dGt_int, dGe_int, dNeg_int, dInt_bl, dInt_int, dEq_int, dNe_int, decide_true, decide_false, Bool.not_true, Bool.not_false, if_true, if_false, Bool.false_eq_true, ofS_eq, String.reduceEq, e_chain, r_chn, r_chmT, r_chmF, e_sl, e_oN, e_oS, r_opt, r_slc, e_mM0, r_mm0, e_mM1, r_mm1, e_enum, r_enmL, r_enmT, e_zip, r_zpLL, r_zpLT, r_zpTL, r_zpTT, e_rg1, dDiv_int, dMod_int, Int.reduceLT, wipeE, r1, cardLot]⟩
    rcases hm with h | h
    · refine ⟨[(0, 1 + n / 7 % 3), (1, 1 + n / 8 % 3)], ⟨⟨by simp, by simp, by simp, by simp⟩, by simp; omega⟩, ?_⟩
      rw [hl, h]
      simp [rangeD, List.range_succ, cardLot, lotsD]
    · refine ⟨[(0, 1 + n / 7 % 3), (1, 1 + n / 8 % 3), (2, 1 + n / 9 % 3)], ⟨⟨by simp, by simp, by simp, by simp⟩, by simp; omega⟩, ?_⟩
      rw [hl, h]
      simp [rangeD, List.range_succ, cardLot, lotsD]
  obtain ⟨sm, hsm, es⟩ := c_sum 3 k (n / 8) (by omega)
  have es' : callF (k + 5) ._law_sum [.int (n / 8), .int 3] = .ok sm.d := es
  have payS : Sm.Ok 3 (.op "times" (.op "less" (.op "plus" (.nam "a") (.num 1)) (.nam "b")) (.op "less" (.op "times" (.num 2) (.nam "c")) (.num 1))) :=
    .op (.inr (.inr (.inl rfl))) (.op (.inr (.inl rfl)) (.op (.inl rfl) (.nam (.inl rfl)) (.num (by decide) (by decide))) (.nam (.inr (.inl rfl)))) (.op (.inr (.inl rfl)) (.op (.inr (.inr (.inl rfl))) (.num (by decide) (by decide)) (.nam (.inr (.inr (.inl rfl))))) (.num (by decide) (by decide)))
  obtain ⟨p, hp, ep⟩ : ∃ p : Sm, p.Ok 3 ∧ dIx (.lst [(Sm.op "times" (.op "less" (.op "plus" (.nam "a") (.num 1)) (.nam "b")) (.op "less" (.op "times" (.num 2) (.nam "c")) (.num 1))).d, sm.d]) (.int (n / 16 % 2)) = .ok p.d := by
    have h : n / 16 % 2 = 0 ∨ n / 16 % 2 = 1 := by omega
    rcases h with h | h
    · exact ⟨_, payS, by rw [h]; rfl⟩
    · exact ⟨sm, hsm, by rw [h]; rfl⟩
  simp only [Sm.d] at ep
  have o01 : optsOk 4 [0, 1] := ⟨by simp, by simp, by simp, by simp⟩
  have qa : ∀ a b c d e : D, dAdd (.tup [a, b, c, d]) (.tup [e]) = .ok (.tup [a, b, c, d, e]) := fun _ _ _ _ _ => dAdd_tup (by simp)
  have qb : ∀ a b c d e f : D, dAdd (.tup [a, b, c, d, e]) (.tup [f]) = .ok (.tup [a, b, c, d, e, f]) := fun _ _ _ _ _ _ => dAdd_tup (by simp)
  have hA : ∀ t ∈ ([.draw "c" lots, .shw "c" 0, .ask 0 "a" [0, 1], .shw "a" (n / 2 % 2)] : List Stp), t.Ok 1 := by
    intro t ht
    simp only [List.mem_cons, List.not_mem_nil, or_false] at ht
    rcases ht with rfl | rfl | rfl | rfl
    · exact .draw (.inr (.inr (.inl rfl))) hlots
    · exact .shw (.inr (.inr (.inl rfl))) (.inl rfl)
    · exact .ask (.inl rfl) (.inl rfl) o01
    · exact .shw (.inl rfl) (by omega)
  have hB : Stp.Ok 0 (.ask 1 "b" [0, 1]) := .ask (.inr (.inl rfl)) (.inr rfl) o01
  by_cases c : n / 4 % 2 = 1
  · refine ⟨[.draw "c" lots, .shw "c" 0, .ask 0 "a" [0, 1], .shw "a" (n / 2 % 2), .iff (.nam "a") [.ask 1 "b" [0, 1]] [.pay (.num 1)], .pay p], ⟨by simp, fun t ht => ?_⟩, Nat.le_of_ble_eq_true rfl, by simp, ?_⟩
    · simp only [List.mem_cons, List.not_mem_nil, or_false] at ht
      rcases ht with h | h | h | h | rfl | rfl
      · exact hA t (by simp [h])
      · exact hA t (by simp [h])
      · exact hA t (by simp [h])
      · exact hA t (by simp [h])
      · refine .iff (.nam (.inl rfl)) (by simp) (by simp) (fun t ht => ?_) (fun t ht => ?_)
        · simp only [List.mem_singleton] at ht; subst ht; exact hB
        · simp only [List.mem_singleton] at ht; subst ht; exact .pay (.num (by decide) (by decide))
      · exact .pay hp
    · show runM 6 (m__law_cards (callF (k + 5))) _ = _
      simp only [e_run, e_seq, e_nil, e_brk, e_cnt, e_if, e_ret, e_retN, e_set, e_for, e_test, e_not, e_and, e_or, e_notV, e_andV, e_orV, e_ifE, e_m1, e_m2, e_c, e_var, e_varB, e_evN, e_evC, e_tup, e_lst, e_call, e_items, e_yes, r_seqN, r_seqR, r_seqB, r_seqC, r_seqE, r_seqS, r_bifT, r_bifF, r_bifE, r_ret, r_retE, r_put, r_putE, r_outR, r_outN, r_outE, r_ap2, r_bol, r_neg, r_bl, r_cons, r_getv, r_getb, r_tupl, r_lstl, r_loop, view_val, Res.bind_ok, Res.bind_err, Res.bind_stuck, Res.calm_ok, List.getElem?_cons_zero, List.getElem?_cons_succ, List.set_cons_zero, List.set_cons_succ, List.map_cons, List.map_nil, List.cons_append, List.nil_append, List.append_nil, List.length_cons, List.length_nil, List.replicate_succ, List.replicate_zero, Nat.reduceSub, Nat.reduceAdd, Nat.zero_add, Nat.sub_self, dAdd_int, dSub_int, dLt_int, dLe_int, dGt_int, dGe_int, dNeg_int, dInt_bl, dInt_int, dEq_int, dNe_int, decide_true, decide_false, Bool.not_true, Bool.not_false, if_true, if_false, Bool.false_eq_true, ofS_eq, String.reduceEq, e_chain, r_chn, r_chmT, r_chmF, e_sl, e_oN, e_oS, r_opt, r_slc, e_mM0, r_mm0, e_mM1, r_mm1, e_enum, r_enmL, r_enmT, e_zip, r_zpLL, r_zpLT, r_zpTL, r_zpTT, e_rg1, dDiv_int, dMod_int, Int.reduceLT, m__law_cards, ql, dTuple, c, es', ep, qa, qb, stepsD, Stp.d, Sm.d]
  · refine ⟨[.draw "c" lots, .shw "c" 0, .ask 0 "a" [0, 1], .shw "a" (n / 2 % 2), .ask 1 "b" [0, 1], .pay p], ⟨by simp, fun t ht => ?_⟩, Nat.le_of_ble_eq_true rfl, by simp, ?_⟩
    · simp only [List.mem_cons, List.not_mem_nil, or_false] at ht
      rcases ht with h | h | h | h | rfl | rfl
      · exact hA t (by simp [h])
      · exact hA t (by simp [h])
      · exact hA t (by simp [h])
      · exact hA t (by simp [h])
      · exact hB.mono (by decide)
      · exact .pay hp
    · show runM 6 (m__law_cards (callF (k + 5))) _ = _
      simp only [e_run, e_seq, e_nil, e_brk, e_cnt, e_if, e_ret, e_retN, e_set, e_for, e_test, e_not, e_and, e_or, e_notV, e_andV, e_orV, e_ifE, e_m1, e_m2, e_c, e_var, e_varB, e_evN, e_evC, e_tup, e_lst, e_call, e_items, e_yes, r_seqN, r_seqR, r_seqB, r_seqC, r_seqE, r_seqS, r_bifT, r_bifF, r_bifE, r_ret, r_retE, r_put, r_putE, r_outR, r_outN, r_outE, r_ap2, r_bol, r_neg, r_bl, r_cons, r_getv, r_getb, r_tupl, r_lstl, r_loop, view_val, Res.bind_ok, Res.bind_err, Res.bind_stuck, Res.calm_ok, List.getElem?_cons_zero, List.getElem?_cons_succ, List.set_cons_zero, List.set_cons_succ, List.map_cons, List.map_nil, List.cons_append, List.nil_append, List.append_nil, List.length_cons, List.length_nil, List.replicate_succ, List.replicate_zero, Nat.reduceSub, Nat.reduceAdd, Nat.zero_add, Nat.sub_self, dAdd_int, dSub_int, dLt_int, dLe_int, dGt_int, dGe_int, dNeg_int, dInt_bl, dInt_int, dEq_int, dNe_int, decide_true, decide_false, Bool.not_true, Bool.not_false, if_true, if_false, Bool.false_eq_true, ofS_eq, String.reduceEq, e_chain, r_chn, r_chmT, r_chmF, e_sl, e_oN, e_oS, r_opt, r_slc, e_mM0, r_mm0, e_mM1, r_mm1, e_enum, r_enmL, r_enmT, e_zip, r_zpLL, r_zpLT, r_zpTL, r_zpTT, e_rg1, dDiv_int, dMod_int, Int.reduceLT, m__law_cards, ql, dTuple, c, es', ep, qa, qb, stepsD, Stp.d, Sm.d]
theorem c_sheet (k : Nat) (n : Int) (hn : 0 ≤ n) : ∃ sh : List Stp, SheetOk 5 sh ∧ pks sh ≤ 4 ∧ 1 ≤ sh.length ∧ callF (k + 12) ._law_sheet [.int n] = .ok (.tup (stepsD sh)) := by
  by_cases c0 : n % 4 = 0
  · obtain ⟨sh, h1, h2, h3, h4⟩ := c_cards (k + 5) (n / 4) (by omega)
    have h4' : callF (k + 11) ._law_cards [.int (n / 4)] = .ok (.tup (stepsD sh)) := h4
    refine ⟨sh, h1.mono (by decide), by omega, h3, ?_⟩
    show runM 3 (m__law_sheet (callF (k + 11))) _ = _
    simp only [e_run, e_seq, e_nil, e_brk, e_cnt, e_if, e_ret, e_retN, e_set, e_for, e_test, e_not, e_and, e_or, e_notV, e_andV, e_orV, e_ifE, e_m1, e_m2, e_c, e_var, e_varB, e_evN, e_evC, e_tup, e_lst, e_call, e_items, e_yes, r_seqN, r_seqR, r_seqB, r_seqC, r_seqE, r_seqS, r_bifT, r_bifF, r_bifE, r_ret, r_retE, r_put, r_putE, r_outR, r_outN, r_outE, r_ap2, r_bol, r_neg, r_bl, r_cons, r_getv, r_getb, r_tupl, r_lstl, r_loop, view_val, Res.bind_ok, Res.bind_err, Res.bind_stuck, Res.calm_ok, List.getElem?_cons_zero, List.getElem?_cons_succ, List.set_cons_zero, List.set_cons_succ, List.map_cons, List.map_nil, List.cons_append, List.nil_append, List.append_nil, List.length_cons, List.length_nil, List.replicate_succ, List.replicate_zero, Nat.reduceSub, Nat.reduceAdd, Nat.zero_add, Nat.sub_self, dAdd_int, dSub_int, dLt_int, dLe_int, dGt_int, dGe_int, dNeg_int, dInt_bl, dInt_int, dEq_int, dNe_int, decide_true, decide_false, Bool.not_true, Bool.not_false, if_true, if_false, Bool.false_eq_true, ofS_eq, String.reduceEq, e_chain, r_chn, r_chmT, r_chmF, e_sl, e_oN, e_oS, r_opt, r_slc, e_mM0, r_mm0, e_mM1, r_mm1, e_enum, r_enmL, r_enmT, e_zip, r_zpLL, r_zpLT, r_zpTL, r_zpTT, e_rg1, dDiv_int, dMod_int, Int.reduceLT, m__law_sheet, c0, h4']
  by_cases c1 : n % 4 = 1
  · obtain ⟨os, ho, eo⟩ := c_numbers (k + 10) (n / 4) 3 (by omega) (by decide) (by decide)
    obtain ⟨ps, hp, ep⟩ := c_numbers (k + 10) (n / 64) 3 (by omega) (by decide) (by decide)
    obtain ⟨sm, hsm, es⟩ := c_sum 3 (k + 6) (drawn n 3) (drawn_bd n 3).1
    have eo' : callF (k + 11) ._law_numbers [.int (n / 4), .int 3] = .ok (.tup (os.map .int)) := eo
    have ep' : callF (k + 11) ._law_numbers [.int (n / 64), .int 3] = .ok (.tup (ps.map .int)) := ep
    have es' : callF (k + 11) ._law_sum [.int (drawn n 3), .int 3] = .ok sm.d := es
    have ed : callF (k + 11) ._law_drawn [.int n, .int 3] = .ok (.int (drawn n 3)) := c_drawn (k + 10) n 3
    have c0' : ¬ (1 : Int) = 0 := by decide
    have qa : ∀ a b c : D, dAdd (.tup [a, b]) (.tup [c]) = .ok (.tup [a, b, c]) := fun _ _ _ => dAdd_tup (by simp)
    refine ⟨[.ask 0 "a" os, .ask 1 "b" ps, .pay sm], ⟨by simp, fun t ht => ?_⟩, Nat.le_of_ble_eq_true rfl, by simp, ?_⟩
    · simp only [List.mem_cons, List.not_mem_nil, or_false] at ht
      rcases ht with rfl | rfl | rfl
      · exact .ask (.inl rfl) (.inl rfl) ⟨ho.1, by have := ho.2.1; omega, ho.2.2⟩
      · exact .ask (.inr (.inl rfl)) (.inr rfl) ⟨hp.1, by have := hp.2.1; omega, hp.2.2⟩
      · exact .pay hsm
    · show runM 3 (m__law_sheet (callF (k + 11))) _ = _
      simp only [e_run, e_seq, e_nil, e_brk, e_cnt, e_if, e_ret, e_retN, e_set, e_for, e_test, e_not, e_and, e_or, e_notV, e_andV, e_orV, e_ifE, e_m1, e_m2, e_c, e_var, e_varB, e_evN, e_evC, e_tup, e_lst, e_call, e_items, e_yes, r_seqN, r_seqR, r_seqB, r_seqC, r_seqE, r_seqS, r_bifT, r_bifF, r_bifE, r_ret, r_retE, r_put, r_putE, r_outR, r_outN, r_outE, r_ap2, r_bol, r_neg, r_bl, r_cons, r_getv, r_getb, r_tupl, r_lstl, r_loop, view_val, Res.bind_ok, Res.bind_err, Res.bind_stuck, Res.calm_ok, List.getElem?_cons_zero, List.getElem?_cons_succ, List.set_cons_zero, List.set_cons_succ, List.map_cons, List.map_nil, List.cons_append, List.nil_append, List.append_nil, List.length_cons, List.length_nil, List.replicate_succ, List.replicate_zero, Nat.reduceSub, Nat.reduceAdd, Nat.zero_add, Nat.sub_self, dAdd_int, dSub_int, dLt_int, dLe_int, dGt_int, dGe_int, dNeg_int, dInt_bl, dInt_int, dEq_int, dNe_int, decide_true, decide_false, Bool.not_true, Bool.not_false, if_true, if_false, Bool.false_eq_true, ofS_eq, String.reduceEq, e_chain, r_chn, r_chmT, r_chmF, e_sl, e_oN, e_oS, r_opt, r_slc, e_mM0, r_mm0, e_mM1, r_mm1, e_enum, r_enmL, r_enmT, e_zip, r_zpLL, r_zpLT, r_zpTL, r_zpTT, e_rg1, dDiv_int, dMod_int, Int.reduceLT, m__law_sheet, c1, c0', eo', ep', ed, es', qa, stepsD, Stp.d]
  · have main : ∀ (many dp : Nat), many ≤ 11 → 1 ≤ many → dp ≤ 5 → (if decide (n / 16 % 6 = 1) = true then (11 : Int) else 3 + n / 4 % 4) = many → (2 + 3 * (if decide (n / 96 % 4 = 1) = true then (1 : Int) else 0)) = dp → ∃ sh : List Stp, SheetOk 5 sh ∧ pks sh ≤ 4 ∧ 1 ≤ sh.length ∧ callF (k + 12) ._law_sheet [.int n] = .ok (.tup (stepsD sh)) := by
      intro many dp h1 h1' h2 e1 e2
      obtain ⟨sh, a1, a2, a3, a4, a5⟩ := c_steps dp (k + (5 - dp)) (n / 4) many 4 (by omega) h1
      have z : k + (5 - dp) + dp + 6 = k + 11 := by omega
      rw [z] at a5
      refine ⟨sh, ⟨by omega, fun t ht => (a1 t ht).mono h2⟩, a2, by omega, ?_⟩
      have q1 : dIx (.tup [.int (3 + n / 4 % 4), .int 11]) (.int (if decide (n / 16 % 6 = 1) = true then 1 else 0)) = .ok (.int many) := by
        rw [← e1]
        by_cases h : n / 16 % 6 = 1 <;> simp [h, dIx, atI, ixN]
      have q2 : dMulA (.int 3) (.int (if decide (n / 96 % 4 = 1) = true then (1 : Int) else 0)) = .ok (.int (3 * (if decide (n / 96 % 4 = 1) = true then (1 : Int) else 0))) := dMul_int (mulOk_left (by decide) (by decide))
      have a5' : callF (k + 11) ._law_steps [.int (n / 4), .int many, .int dp, .int 4] = .ok (.tup (stepsD sh)) := a5
      show runM 3 (m__law_sheet (callF (k + 11))) _ = _
      simp only [e_run, e_seq, e_nil, e_brk, e_cnt, e_if, e_ret, e_retN, e_set, e_for, e_test, e_not, e_and, e_or, e_notV, e_andV, e_orV, e_ifE, e_m1, e_m2, e_c, e_var, e_varB, e_evN, e_evC, e_tup, e_lst, e_call, e_items, e_yes, r_seqN, r_seqR, r_seqB, r_seqC, r_seqE, r_seqS, r_bifT, r_bifF, r_bifE, r_ret, r_retE, r_put, r_putE, r_outR, r_outN, r_outE, r_ap2, r_bol, r_neg, r_bl, r_cons, r_getv, r_getb, r_tupl, r_lstl, r_loop, view_val, Res.bind_ok, Res.bind_err, Res.bind_stuck, Res.calm_ok, List.getElem?_cons_zero, List.getElem?_cons_succ, List.set_cons_zero, List.set_cons_succ, List.map_cons, List.map_nil, List.cons_append, List.nil_append, List.append_nil, List.length_cons, List.length_nil, List.replicate_succ, List.replicate_zero, Nat.reduceSub, Nat.reduceAdd, Nat.zero_add, Nat.sub_self, dAdd_int, dSub_int, dLt_int, dLe_int, dGt_int, dGe_int, dNeg_int, dInt_bl, dInt_int, dEq_int, dNe_int, decide_true, decide_false, Bool.not_true, Bool.not_false, if_true, if_false, Bool.false_eq_true, ofS_eq, String.reduceEq, e_chain, r_chn, r_chmT, r_chmF, e_sl, e_oN, e_oS, r_opt, r_slc, e_mM0, r_mm0, e_mM1, r_mm1, e_enum, r_enmL, r_enmT, e_zip, r_zpLL, r_zpLT, r_zpTL, r_zpTT, e_rg1, dDiv_int, dMod_int, Int.reduceLT, m__law_sheet, c0, c1, q1, q2, e2, a5']
    by_cases h1 : n / 16 % 6 = 1
    · by_cases h2 : n / 96 % 4 = 1
      · exact main 11 5 (by decide) (by decide) (by decide) (by simp [h1]) (by simp [h2])
      · exact main 11 2 (by decide) (by decide) (by decide) (by simp [h1]) (by simp [h2])
    · by_cases h2 : n / 96 % 4 = 1
      · exact main (3 + n / 4 % 4).toNat 5 (by omega) (by omega) (by decide) (by simp [h1]; omega) (by simp [h2])
      · exact main (3 + n / 4 % 4).toNat 2 (by omega) (by omega) (by decide) (by simp [h1]; omega) (by simp [h2])

theorem gd_ty {n : Nat} {d : D} (h : gd n d = true) : d = .non ∨ (∃ b, d = .bl b) ∨ (∃ i, d = .int i) ∨ (∃ x, d = .str x ∧ okS x = true ∧ x.length ≤ 1000000) ∨ (∃ xs, d = .tup xs) ∨ ∃ xs, d = .lst xs := by
  cases d with
  | non => exact .inl rfl
  | bl b => exact .inr (.inl ⟨b, rfl⟩)
  | int i => exact .inr (.inr (.inl ⟨i, rfl⟩))
  | str x =>
    have h' : flatB (.str x) = true := by cases n <;> exact h
    simp only [flatB, Bool.and_eq_true, decide_eq_true_eq] at h'
    exact .inr (.inr (.inr (.inl ⟨x, rfl, h'.1, h'.2⟩)))
  | tup xs => exact .inr (.inr (.inr (.inr (.inl ⟨xs, rfl⟩))))
  | lst xs => exact .inr (.inr (.inr (.inr (.inr ⟨xs, rfl⟩))))
  | dct _ => cases n <;> cases h
  | ins _ _ => cases n <;> cases h
theorem P_number (k : Nat) {n : Nat} {d : D} (h : gd n d = true) (lo hi : Int) : callF (k + 1) .is_number [d, .int lo, .int hi] = .ok (.bl (wholeB lo hi d)) := by
  show runM 3 (m_is_number (callF k)) _ = _
  rcases gd_ty h with rfl | ⟨b, rfl⟩ | ⟨i, rfl⟩ | ⟨x, rfl, _⟩ | ⟨xs, rfl⟩ | ⟨xs, rfl⟩
  · simp only [e_run, e_seq, e_nil, e_brk, e_cnt, e_if, e_ret, e_retN, e_set, e_for, e_test, e_not, e_and, e_or, e_notV, e_andV, e_orV, e_ifE, e_m1, e_m2, e_c, e_var, e_varB, e_evN, e_evC, e_tup, e_lst, e_call, e_items, e_yes, r_seqN, r_seqR, r_seqB, r_seqC, r_seqE, r_seqS, r_bifT, r_bifF, r_bifE, r_ret, r_retE, r_put, r_putE, r_outR, r_outN, r_outE, r_ap2, r_bol, r_neg, r_bl, r_cons, r_getv, r_getb, r_tupl, r_lstl, r_loop, view_val, Res.bind_ok, Res.bind_err, Res.bind_stuck, Res.calm_ok, List.getElem?_cons_zero, List.getElem?_cons_succ, List.set_cons_zero, List.set_cons_succ, List.map_cons, List.map_nil, List.cons_append, List.nil_append, List.append_nil, List.length_cons, List.length_nil, List.replicate_succ, List.replicate_zero, Nat.reduceSub, Nat.reduceAdd, Nat.zero_add, Nat.sub_self, dAdd_int, dSub_int, dLt_int, dLe_int, dGt_int, dGe_int, dNeg_int, dInt_bl, dInt_int, dEq_int, dNe_int, decide_true, decide_false, Bool.not_true, Bool.not_false, if_true, if_false, Bool.false_eq_true, ofS_eq, String.reduceEq, e_chain, r_chn, r_chmT, r_chmF, e_sl, e_oN, e_oS, r_opt, r_slc, e_mM0, r_mm0, e_mM1, r_mm1, e_enum, r_enmL, r_enmT, e_zip, r_zpLL, r_zpLT, r_zpTL, r_zpTT, e_rg1, dDiv_int, dMod_int, Int.reduceLT, m_is_number, dIsi, D.ty, isiB, String.reduceBEq, Bool.or_false, Bool.false_or, Bool.or_self, Bool.and_false, Bool.false_and, Bool.and_true, Bool.true_and, Bool.or_true, Bool.true_or, Bool.and_self, wholeB]
  · simp only [e_run, e_seq, e_nil, e_brk, e_cnt, e_if, e_ret, e_retN, e_set, e_for, e_test, e_not, e_and, e_or, e_notV, e_andV, e_orV, e_ifE, e_m1, e_m2, e_c, e_var, e_varB, e_evN, e_evC, e_tup, e_lst, e_call, e_items, e_yes, r_seqN, r_seqR, r_seqB, r_seqC, r_seqE, r_seqS, r_bifT, r_bifF, r_bifE, r_ret, r_retE, r_put, r_putE, r_outR, r_outN, r_outE, r_ap2, r_bol, r_neg, r_bl, r_cons, r_getv, r_getb, r_tupl, r_lstl, r_loop, view_val, Res.bind_ok, Res.bind_err, Res.bind_stuck, Res.calm_ok, List.getElem?_cons_zero, List.getElem?_cons_succ, List.set_cons_zero, List.set_cons_succ, List.map_cons, List.map_nil, List.cons_append, List.nil_append, List.append_nil, List.length_cons, List.length_nil, List.replicate_succ, List.replicate_zero, Nat.reduceSub, Nat.reduceAdd, Nat.zero_add, Nat.sub_self, dAdd_int, dSub_int, dLt_int, dLe_int, dGt_int, dGe_int, dNeg_int, dInt_bl, dInt_int, dEq_int, dNe_int, decide_true, decide_false, Bool.not_true, Bool.not_false, if_true, if_false, Bool.false_eq_true, ofS_eq, String.reduceEq, e_chain, r_chn, r_chmT, r_chmF, e_sl, e_oN, e_oS, r_opt, r_slc, e_mM0, r_mm0, e_mM1, r_mm1, e_enum, r_enmL, r_enmT, e_zip, r_zpLL, r_zpLT, r_zpTL, r_zpTT, e_rg1, dDiv_int, dMod_int, Int.reduceLT, m_is_number, dIsi, D.ty, isiB, String.reduceBEq, Bool.or_false, Bool.false_or, Bool.or_self, Bool.and_false, Bool.false_and, Bool.and_true, Bool.true_and, Bool.or_true, Bool.true_or, Bool.and_self, wholeB]
  · by_cases h1 : lo ≤ i <;> simp only [e_run, e_seq, e_nil, e_brk, e_cnt, e_if, e_ret, e_retN, e_set, e_for, e_test, e_not, e_and, e_or, e_notV, e_andV, e_orV, e_ifE, e_m1, e_m2, e_c, e_var, e_varB, e_evN, e_evC, e_tup, e_lst, e_call, e_items, e_yes, r_seqN, r_seqR, r_seqB, r_seqC, r_seqE, r_seqS, r_bifT, r_bifF, r_bifE, r_ret, r_retE, r_put, r_putE, r_outR, r_outN, r_outE, r_ap2, r_bol, r_neg, r_bl, r_cons, r_getv, r_getb, r_tupl, r_lstl, r_loop, view_val, Res.bind_ok, Res.bind_err, Res.bind_stuck, Res.calm_ok, List.getElem?_cons_zero, List.getElem?_cons_succ, List.set_cons_zero, List.set_cons_succ, List.map_cons, List.map_nil, List.cons_append, List.nil_append, List.append_nil, List.length_cons, List.length_nil, List.replicate_succ, List.replicate_zero, Nat.reduceSub, Nat.reduceAdd, Nat.zero_add, Nat.sub_self, dAdd_int, dSub_int, dLt_int, dLe_int, dGt_int, dGe_int, dNeg_int, dInt_bl, dInt_int, dEq_int, dNe_int, decide_true, decide_false, Bool.not_true, Bool.not_false, if_true, if_false, Bool.false_eq_true, ofS_eq, String.reduceEq, e_chain, r_chn, r_chmT, r_chmF, e_sl, e_oN, e_oS, r_opt, r_slc, e_mM0, r_mm0, e_mM1, r_mm1, e_enum, r_enmL, r_enmT, e_zip, r_zpLL, r_zpLT, r_zpTL, r_zpTT, e_rg1, dDiv_int, dMod_int, Int.reduceLT, m_is_number, dIsi, D.ty, isiB, String.reduceBEq, Bool.or_false, Bool.false_or, Bool.or_self, Bool.and_false, Bool.false_and, Bool.and_true, Bool.true_and, Bool.or_true, Bool.true_or, Bool.and_self, wholeB, h1, Bool.true_and, Bool.false_and]
  · simp only [e_run, e_seq, e_nil, e_brk, e_cnt, e_if, e_ret, e_retN, e_set, e_for, e_test, e_not, e_and, e_or, e_notV, e_andV, e_orV, e_ifE, e_m1, e_m2, e_c, e_var, e_varB, e_evN, e_evC, e_tup, e_lst, e_call, e_items, e_yes, r_seqN, r_seqR, r_seqB, r_seqC, r_seqE, r_seqS, r_bifT, r_bifF, r_bifE, r_ret, r_retE, r_put, r_putE, r_outR, r_outN, r_outE, r_ap2, r_bol, r_neg, r_bl, r_cons, r_getv, r_getb, r_tupl, r_lstl, r_loop, view_val, Res.bind_ok, Res.bind_err, Res.bind_stuck, Res.calm_ok, List.getElem?_cons_zero, List.getElem?_cons_succ, List.set_cons_zero, List.set_cons_succ, List.map_cons, List.map_nil, List.cons_append, List.nil_append, List.append_nil, List.length_cons, List.length_nil, List.replicate_succ, List.replicate_zero, Nat.reduceSub, Nat.reduceAdd, Nat.zero_add, Nat.sub_self, dAdd_int, dSub_int, dLt_int, dLe_int, dGt_int, dGe_int, dNeg_int, dInt_bl, dInt_int, dEq_int, dNe_int, decide_true, decide_false, Bool.not_true, Bool.not_false, if_true, if_false, Bool.false_eq_true, ofS_eq, String.reduceEq, e_chain, r_chn, r_chmT, r_chmF, e_sl, e_oN, e_oS, r_opt, r_slc, e_mM0, r_mm0, e_mM1, r_mm1, e_enum, r_enmL, r_enmT, e_zip, r_zpLL, r_zpLT, r_zpTL, r_zpTT, e_rg1, dDiv_int, dMod_int, Int.reduceLT, m_is_number, dIsi, D.ty, isiB, String.reduceBEq, Bool.or_false, Bool.false_or, Bool.or_self, Bool.and_false, Bool.false_and, Bool.and_true, Bool.true_and, Bool.or_true, Bool.true_or, Bool.and_self, wholeB]
  · simp only [e_run, e_seq, e_nil, e_brk, e_cnt, e_if, e_ret, e_retN, e_set, e_for, e_test, e_not, e_and, e_or, e_notV, e_andV, e_orV, e_ifE, e_m1, e_m2, e_c, e_var, e_varB, e_evN, e_evC, e_tup, e_lst, e_call, e_items, e_yes, r_seqN, r_seqR, r_seqB, r_seqC, r_seqE, r_seqS, r_bifT, r_bifF, r_bifE, r_ret, r_retE, r_put, r_putE, r_outR, r_outN, r_outE, r_ap2, r_bol, r_neg, r_bl, r_cons, r_getv, r_getb, r_tupl, r_lstl, r_loop, view_val, Res.bind_ok, Res.bind_err, Res.bind_stuck, Res.calm_ok, List.getElem?_cons_zero, List.getElem?_cons_succ, List.set_cons_zero, List.set_cons_succ, List.map_cons, List.map_nil, List.cons_append, List.nil_append, List.append_nil, List.length_cons, List.length_nil, List.replicate_succ, List.replicate_zero, Nat.reduceSub, Nat.reduceAdd, Nat.zero_add, Nat.sub_self, dAdd_int, dSub_int, dLt_int, dLe_int, dGt_int, dGe_int, dNeg_int, dInt_bl, dInt_int, dEq_int, dNe_int, decide_true, decide_false, Bool.not_true, Bool.not_false, if_true, if_false, Bool.false_eq_true, ofS_eq, String.reduceEq, e_chain, r_chn, r_chmT, r_chmF, e_sl, e_oN, e_oS, r_opt, r_slc, e_mM0, r_mm0, e_mM1, r_mm1, e_enum, r_enmL, r_enmT, e_zip, r_zpLL, r_zpLT, r_zpTL, r_zpTT, e_rg1, dDiv_int, dMod_int, Int.reduceLT, m_is_number, dIsi, D.ty, isiB, String.reduceBEq, Bool.or_false, Bool.false_or, Bool.or_self, Bool.and_false, Bool.false_and, Bool.and_true, Bool.true_and, Bool.or_true, Bool.true_or, Bool.and_self, wholeB]
  · simp only [e_run, e_seq, e_nil, e_brk, e_cnt, e_if, e_ret, e_retN, e_set, e_for, e_test, e_not, e_and, e_or, e_notV, e_andV, e_orV, e_ifE, e_m1, e_m2, e_c, e_var, e_varB, e_evN, e_evC, e_tup, e_lst, e_call, e_items, e_yes, r_seqN, r_seqR, r_seqB, r_seqC, r_seqE, r_seqS, r_bifT, r_bifF, r_bifE, r_ret, r_retE, r_put, r_putE, r_outR, r_outN, r_outE, r_ap2, r_bol, r_neg, r_bl, r_cons, r_getv, r_getb, r_tupl, r_lstl, r_loop, view_val, Res.bind_ok, Res.bind_err, Res.bind_stuck, Res.calm_ok, List.getElem?_cons_zero, List.getElem?_cons_succ, List.set_cons_zero, List.set_cons_succ, List.map_cons, List.map_nil, List.cons_append, List.nil_append, List.append_nil, List.length_cons, List.length_nil, List.replicate_succ, List.replicate_zero, Nat.reduceSub, Nat.reduceAdd, Nat.zero_add, Nat.sub_self, dAdd_int, dSub_int, dLt_int, dLe_int, dGt_int, dGe_int, dNeg_int, dInt_bl, dInt_int, dEq_int, dNe_int, decide_true, decide_false, Bool.not_true, Bool.not_false, if_true, if_false, Bool.false_eq_true, ofS_eq, String.reduceEq, e_chain, r_chn, r_chmT, r_chmF, e_sl, e_oN, e_oS, r_opt, r_slc, e_mM0, r_mm0, e_mM1, r_mm1, e_enum, r_enmL, r_enmT, e_zip, r_zpLL, r_zpLT, r_zpTL, r_zpTT, e_rg1, dDiv_int, dMod_int, Int.reduceLT, m_is_number, dIsi, D.ty, isiB, String.reduceBEq, Bool.or_false, Bool.false_or, Bool.or_self, Bool.and_false, Bool.false_and, Bool.and_true, Bool.true_and, Bool.or_true, Bool.true_or, Bool.and_self, wholeB]
theorem L_whole (k : Nat) {n : Nat} {d : D} (h : gd n d = true) (lo hi : Int) : callF (k + 1) ._law_whole [d, .int lo, .int hi] = .ok (.bl (wholeB lo hi d)) := by
  show runM 3 (m__law_whole (callF k)) _ = _
  rcases gd_ty h with rfl | ⟨b, rfl⟩ | ⟨i, rfl⟩ | ⟨x, rfl, _⟩ | ⟨xs, rfl⟩ | ⟨xs, rfl⟩
  · simp only [e_run, e_seq, e_nil, e_brk, e_cnt, e_if, e_ret, e_retN, e_set, e_for, e_test, e_not, e_and, e_or, e_notV, e_andV, e_orV, e_ifE, e_m1, e_m2, e_c, e_var, e_varB, e_evN, e_evC, e_tup, e_lst, e_call, e_items, e_yes, r_seqN, r_seqR, r_seqB, r_seqC, r_seqE, r_seqS, r_bifT, r_bifF, r_bifE, r_ret, r_retE, r_put, r_putE, r_outR, r_outN, r_outE, r_ap2, r_bol, r_neg, r_bl, r_cons, r_getv, r_getb, r_tupl, r_lstl, r_loop, view_val, Res.bind_ok, Res.bind_err, Res.bind_stuck, Res.calm_ok, List.getElem?_cons_zero, List.getElem?_cons_succ, List.set_cons_zero, List.set_cons_succ, List.map_cons, List.map_nil, List.cons_append, List.nil_append, List.append_nil, List.length_cons, List.length_nil, List.replicate_succ, List.replicate_zero, Nat.reduceSub, Nat.reduceAdd, Nat.zero_add, Nat.sub_self, dAdd_int, dSub_int, dLt_int, dLe_int, dGt_int, dGe_int, dNeg_int, dInt_bl, dInt_int, dEq_int, dNe_int, decide_true, decide_false, Bool.not_true, Bool.not_false, if_true, if_false, Bool.false_eq_true, ofS_eq, String.reduceEq, e_chain, r_chn, r_chmT, r_chmF, e_sl, e_oN, e_oS, r_opt, r_slc, e_mM0, r_mm0, e_mM1, r_mm1, e_enum, r_enmL, r_enmT, e_zip, r_zpLL, r_zpLT, r_zpTL, r_zpTT, e_rg1, dDiv_int, dMod_int, Int.reduceLT, m__law_whole, dIsi, D.ty, isiB, String.reduceBEq, Bool.or_false, Bool.false_or, Bool.or_self, Bool.and_false, Bool.false_and, Bool.and_true, Bool.true_and, Bool.or_true, Bool.true_or, Bool.and_self, wholeB]
  · simp only [e_run, e_seq, e_nil, e_brk, e_cnt, e_if, e_ret, e_retN, e_set, e_for, e_test, e_not, e_and, e_or, e_notV, e_andV, e_orV, e_ifE, e_m1, e_m2, e_c, e_var, e_varB, e_evN, e_evC, e_tup, e_lst, e_call, e_items, e_yes, r_seqN, r_seqR, r_seqB, r_seqC, r_seqE, r_seqS, r_bifT, r_bifF, r_bifE, r_ret, r_retE, r_put, r_putE, r_outR, r_outN, r_outE, r_ap2, r_bol, r_neg, r_bl, r_cons, r_getv, r_getb, r_tupl, r_lstl, r_loop, view_val, Res.bind_ok, Res.bind_err, Res.bind_stuck, Res.calm_ok, List.getElem?_cons_zero, List.getElem?_cons_succ, List.set_cons_zero, List.set_cons_succ, List.map_cons, List.map_nil, List.cons_append, List.nil_append, List.append_nil, List.length_cons, List.length_nil, List.replicate_succ, List.replicate_zero, Nat.reduceSub, Nat.reduceAdd, Nat.zero_add, Nat.sub_self, dAdd_int, dSub_int, dLt_int, dLe_int, dGt_int, dGe_int, dNeg_int, dInt_bl, dInt_int, dEq_int, dNe_int, decide_true, decide_false, Bool.not_true, Bool.not_false, if_true, if_false, Bool.false_eq_true, ofS_eq, String.reduceEq, e_chain, r_chn, r_chmT, r_chmF, e_sl, e_oN, e_oS, r_opt, r_slc, e_mM0, r_mm0, e_mM1, r_mm1, e_enum, r_enmL, r_enmT, e_zip, r_zpLL, r_zpLT, r_zpTL, r_zpTT, e_rg1, dDiv_int, dMod_int, Int.reduceLT, m__law_whole, dIsi, D.ty, isiB, String.reduceBEq, Bool.or_false, Bool.false_or, Bool.or_self, Bool.and_false, Bool.false_and, Bool.and_true, Bool.true_and, Bool.or_true, Bool.true_or, Bool.and_self, wholeB]
  · by_cases h1 : lo ≤ i <;> simp only [e_run, e_seq, e_nil, e_brk, e_cnt, e_if, e_ret, e_retN, e_set, e_for, e_test, e_not, e_and, e_or, e_notV, e_andV, e_orV, e_ifE, e_m1, e_m2, e_c, e_var, e_varB, e_evN, e_evC, e_tup, e_lst, e_call, e_items, e_yes, r_seqN, r_seqR, r_seqB, r_seqC, r_seqE, r_seqS, r_bifT, r_bifF, r_bifE, r_ret, r_retE, r_put, r_putE, r_outR, r_outN, r_outE, r_ap2, r_bol, r_neg, r_bl, r_cons, r_getv, r_getb, r_tupl, r_lstl, r_loop, view_val, Res.bind_ok, Res.bind_err, Res.bind_stuck, Res.calm_ok, List.getElem?_cons_zero, List.getElem?_cons_succ, List.set_cons_zero, List.set_cons_succ, List.map_cons, List.map_nil, List.cons_append, List.nil_append, List.append_nil, List.length_cons, List.length_nil, List.replicate_succ, List.replicate_zero, Nat.reduceSub, Nat.reduceAdd, Nat.zero_add, Nat.sub_self, dAdd_int, dSub_int, dLt_int, dLe_int, dGt_int, dGe_int, dNeg_int, dInt_bl, dInt_int, dEq_int, dNe_int, decide_true, decide_false, Bool.not_true, Bool.not_false, if_true, if_false, Bool.false_eq_true, ofS_eq, String.reduceEq, e_chain, r_chn, r_chmT, r_chmF, e_sl, e_oN, e_oS, r_opt, r_slc, e_mM0, r_mm0, e_mM1, r_mm1, e_enum, r_enmL, r_enmT, e_zip, r_zpLL, r_zpLT, r_zpTL, r_zpTT, e_rg1, dDiv_int, dMod_int, Int.reduceLT, m__law_whole, dIsi, D.ty, isiB, String.reduceBEq, Bool.or_false, Bool.false_or, Bool.or_self, Bool.and_false, Bool.false_and, Bool.and_true, Bool.true_and, Bool.or_true, Bool.true_or, Bool.and_self, wholeB, h1, Bool.true_and, Bool.false_and]
  · simp only [e_run, e_seq, e_nil, e_brk, e_cnt, e_if, e_ret, e_retN, e_set, e_for, e_test, e_not, e_and, e_or, e_notV, e_andV, e_orV, e_ifE, e_m1, e_m2, e_c, e_var, e_varB, e_evN, e_evC, e_tup, e_lst, e_call, e_items, e_yes, r_seqN, r_seqR, r_seqB, r_seqC, r_seqE, r_seqS, r_bifT, r_bifF, r_bifE, r_ret, r_retE, r_put, r_putE, r_outR, r_outN, r_outE, r_ap2, r_bol, r_neg, r_bl, r_cons, r_getv, r_getb, r_tupl, r_lstl, r_loop, view_val, Res.bind_ok, Res.bind_err, Res.bind_stuck, Res.calm_ok, List.getElem?_cons_zero, List.getElem?_cons_succ, List.set_cons_zero, List.set_cons_succ, List.map_cons, List.map_nil, List.cons_append, List.nil_append, List.append_nil, List.length_cons, List.length_nil, List.replicate_succ, List.replicate_zero, Nat.reduceSub, Nat.reduceAdd, Nat.zero_add, Nat.sub_self, dAdd_int, dSub_int, dLt_int, dLe_int, dGt_int, dGe_int, dNeg_int, dInt_bl, dInt_int, dEq_int, dNe_int, decide_true, decide_false, Bool.not_true, Bool.not_false, if_true, if_false, Bool.false_eq_true, ofS_eq, String.reduceEq, e_chain, r_chn, r_chmT, r_chmF, e_sl, e_oN, e_oS, r_opt, r_slc, e_mM0, r_mm0, e_mM1, r_mm1, e_enum, r_enmL, r_enmT, e_zip, r_zpLL, r_zpLT, r_zpTL, r_zpTT, e_rg1, dDiv_int, dMod_int, Int.reduceLT, m__law_whole, dIsi, D.ty, isiB, String.reduceBEq, Bool.or_false, Bool.false_or, Bool.or_self, Bool.and_false, Bool.false_and, Bool.and_true, Bool.true_and, Bool.or_true, Bool.true_or, Bool.and_self, wholeB]
  · simp only [e_run, e_seq, e_nil, e_brk, e_cnt, e_if, e_ret, e_retN, e_set, e_for, e_test, e_not, e_and, e_or, e_notV, e_andV, e_orV, e_ifE, e_m1, e_m2, e_c, e_var, e_varB, e_evN, e_evC, e_tup, e_lst, e_call, e_items, e_yes, r_seqN, r_seqR, r_seqB, r_seqC, r_seqE, r_seqS, r_bifT, r_bifF, r_bifE, r_ret, r_retE, r_put, r_putE, r_outR, r_outN, r_outE, r_ap2, r_bol, r_neg, r_bl, r_cons, r_getv, r_getb, r_tupl, r_lstl, r_loop, view_val, Res.bind_ok, Res.bind_err, Res.bind_stuck, Res.calm_ok, List.getElem?_cons_zero, List.getElem?_cons_succ, List.set_cons_zero, List.set_cons_succ, List.map_cons, List.map_nil, List.cons_append, List.nil_append, List.append_nil, List.length_cons, List.length_nil, List.replicate_succ, List.replicate_zero, Nat.reduceSub, Nat.reduceAdd, Nat.zero_add, Nat.sub_self, dAdd_int, dSub_int, dLt_int, dLe_int, dGt_int, dGe_int, dNeg_int, dInt_bl, dInt_int, dEq_int, dNe_int, decide_true, decide_false, Bool.not_true, Bool.not_false, if_true, if_false, Bool.false_eq_true, ofS_eq, String.reduceEq, e_chain, r_chn, r_chmT, r_chmF, e_sl, e_oN, e_oS, r_opt, r_slc, e_mM0, r_mm0, e_mM1, r_mm1, e_enum, r_enmL, r_enmT, e_zip, r_zpLL, r_zpLT, r_zpTL, r_zpTT, e_rg1, dDiv_int, dMod_int, Int.reduceLT, m__law_whole, dIsi, D.ty, isiB, String.reduceBEq, Bool.or_false, Bool.false_or, Bool.or_self, Bool.and_false, Bool.false_and, Bool.and_true, Bool.true_and, Bool.or_true, Bool.true_or, Bool.and_self, wholeB]
  · simp only [e_run, e_seq, e_nil, e_brk, e_cnt, e_if, e_ret, e_retN, e_set, e_for, e_test, e_not, e_and, e_or, e_notV, e_andV, e_orV, e_ifE, e_m1, e_m2, e_c, e_var, e_varB, e_evN, e_evC, e_tup, e_lst, e_call, e_items, e_yes, r_seqN, r_seqR, r_seqB, r_seqC, r_seqE, r_seqS, r_bifT, r_bifF, r_bifE, r_ret, r_retE, r_put, r_putE, r_outR, r_outN, r_outE, r_ap2, r_bol, r_neg, r_bl, r_cons, r_getv, r_getb, r_tupl, r_lstl, r_loop, view_val, Res.bind_ok, Res.bind_err, Res.bind_stuck, Res.calm_ok, List.getElem?_cons_zero, List.getElem?_cons_succ, List.set_cons_zero, List.set_cons_succ, List.map_cons, List.map_nil, List.cons_append, List.nil_append, List.append_nil, List.length_cons, List.length_nil, List.replicate_succ, List.replicate_zero, Nat.reduceSub, Nat.reduceAdd, Nat.zero_add, Nat.sub_self, dAdd_int, dSub_int, dLt_int, dLe_int, dGt_int, dGe_int, dNeg_int, dInt_bl, dInt_int, dEq_int, dNe_int, decide_true, decide_false, Bool.not_true, Bool.not_false, if_true, if_false, Bool.false_eq_true, ofS_eq, String.reduceEq, e_chain, r_chn, r_chmT, r_chmF, e_sl, e_oN, e_oS, r_opt, r_slc, e_mM0, r_mm0, e_mM1, r_mm1, e_enum, r_enmL, r_enmT, e_zip, r_zpLL, r_zpLT, r_zpTL, r_zpTT, e_rg1, dDiv_int, dMod_int, Int.reduceLT, m__law_whole, dIsi, D.ty, isiB, String.reduceBEq, Bool.or_false, Bool.false_or, Bool.or_self, Bool.and_false, Bool.false_and, Bool.and_true, Bool.true_and, Bool.or_true, Bool.true_or, Bool.and_self, wholeB]
theorem P_small (k : Nat) {n : Nat} {d : D} (h : gd n d = true) : callF (k + 2) .is_small [d] = .ok (.bl (wholeB (-50) 50 d)) := by
  show runM 1 (m_is_small (callF (k + 1))) _ = _
  have e := P_number k h (-50) 50
  simp only [e_run, e_seq, e_nil, e_brk, e_cnt, e_if, e_ret, e_retN, e_set, e_for, e_test, e_not, e_and, e_or, e_notV, e_andV, e_orV, e_ifE, e_m1, e_m2, e_c, e_var, e_varB, e_evN, e_evC, e_tup, e_lst, e_call, e_items, e_yes, r_seqN, r_seqR, r_seqB, r_seqC, r_seqE, r_seqS, r_bifT, r_bifF, r_bifE, r_ret, r_retE, r_put, r_putE, r_outR, r_outN, r_outE, r_ap2, r_bol, r_neg, r_bl, r_cons, r_getv, r_getb, r_tupl, r_lstl, r_loop, view_val, Res.bind_ok, Res.bind_err, Res.bind_stuck, Res.calm_ok, List.getElem?_cons_zero, List.getElem?_cons_succ, List.set_cons_zero, List.set_cons_succ, List.map_cons, List.map_nil, List.cons_append, List.nil_append, List.append_nil, List.length_cons, List.length_nil, List.replicate_succ, List.replicate_zero, Nat.reduceSub, Nat.reduceAdd, Nat.zero_add, Nat.sub_self, dAdd_int, dSub_int, dLt_int, dLe_int, dGt_int, dGe_int, dNeg_int, dInt_bl, dInt_int, dEq_int, dNe_int, decide_true, decide_false, Bool.not_true, Bool.not_false, if_true, if_false, Bool.false_eq_true, ofS_eq, String.reduceEq, e_chain, r_chn, r_chmT, r_chmF, e_sl, e_oN, e_oS, r_opt, r_slc, e_mM0, r_mm0, e_mM1, r_mm1, e_enum, r_enmL, r_enmT, e_zip, r_zpLL, r_zpLT, r_zpTL, r_zpTT, e_rg1, dDiv_int, dMod_int, Int.reduceLT, m_is_small, k_GREATEST, e]
theorem dIn_letter (c : Nat) : dIn (.str ⟨#[c]⟩) (.str lettersS) = .ok (.bl (letterB c)) := rfl
theorem len_ok {x : Str} (h : x.length ≤ 1000000) : dLen (.str x) = .ok (.int x.length) := by
  have : x.length ≤ sizeLine := by rw [sizeLine_eq]; omega
  simp only [dLen, if_pos this]
theorem steps_in (x : Str) (hl : x.length ≤ 3) : strIn ["draw", "show", "ask", "keep", "if", "pay"] (.str x) = strIn ["ask", "if", "pay"] (.str x) := by
  have h : ∀ w : Str, 3 < w.length → ¬ w = x := fun w hw e => by rw [e] at hw; omega
  simp [strIn, h "draw" (by decide), h "show" (by decide), h "keep" (by decide)]
theorem sums_in (x : Str) (hl : x.length ≤ 3) : strIn wordsL (.str x) = false := by
  have h : ∀ w : Str, 3 < w.length → ¬ w = x := fun w hw e => by rw [e] at hw; omega
  simp [strIn, h "plus" (by decide), h "less" (by decide), h "times" (by decide), h "under" (by decide), h "alike" (by decide)]
theorem P_name (k : Nat) {n : Nat} {d : D} (h : gd n d = true) : callF (k + 1) .is_name [d] = .ok (.bl (nameB d)) := by
  show runM 2 (m_is_name (callF k)) _ = _
  rcases gd_ty h with rfl | ⟨b, rfl⟩ | ⟨i, rfl⟩ | ⟨x, rfl, ox, lx⟩ | ⟨xs, rfl⟩ | ⟨xs, rfl⟩
  · simp only [e_run, e_seq, e_nil, e_brk, e_cnt, e_if, e_ret, e_retN, e_set, e_for, e_test, e_not, e_and, e_or, e_notV, e_andV, e_orV, e_ifE, e_m1, e_m2, e_c, e_var, e_varB, e_evN, e_evC, e_tup, e_lst, e_call, e_items, e_yes, r_seqN, r_seqR, r_seqB, r_seqC, r_seqE, r_seqS, r_bifT, r_bifF, r_bifE, r_ret, r_retE, r_put, r_putE, r_outR, r_outN, r_outE, r_ap2, r_bol, r_neg, r_bl, r_cons, r_getv, r_getb, r_tupl, r_lstl, r_loop, view_val, Res.bind_ok, Res.bind_err, Res.bind_stuck, Res.calm_ok, List.getElem?_cons_zero, List.getElem?_cons_succ, List.set_cons_zero, List.set_cons_succ, List.map_cons, List.map_nil, List.cons_append, List.nil_append, List.append_nil, List.length_cons, List.length_nil, List.replicate_succ, List.replicate_zero, Nat.reduceSub, Nat.reduceAdd, Nat.zero_add, Nat.sub_self, dAdd_int, dSub_int, dLt_int, dLe_int, dGt_int, dGe_int, dNeg_int, dInt_bl, dInt_int, dEq_int, dNe_int, decide_true, decide_false, Bool.not_true, Bool.not_false, if_true, if_false, Bool.false_eq_true, ofS_eq, String.reduceEq, e_chain, r_chn, r_chmT, r_chmF, e_sl, e_oN, e_oS, r_opt, r_slc, e_mM0, r_mm0, e_mM1, r_mm1, e_enum, r_enmL, r_enmT, e_zip, r_zpLL, r_zpLT, r_zpTL, r_zpTT, e_rg1, dDiv_int, dMod_int, Int.reduceLT, m_is_name, dIsi, D.ty, isiB, String.reduceBEq, Bool.or_false, Bool.false_or, Bool.or_self, Bool.and_false, Bool.false_and, Bool.and_true, Bool.true_and, Bool.or_true, Bool.true_or, Bool.and_self, nameB]
  · simp only [e_run, e_seq, e_nil, e_brk, e_cnt, e_if, e_ret, e_retN, e_set, e_for, e_test, e_not, e_and, e_or, e_notV, e_andV, e_orV, e_ifE, e_m1, e_m2, e_c, e_var, e_varB, e_evN, e_evC, e_tup, e_lst, e_call, e_items, e_yes, r_seqN, r_seqR, r_seqB, r_seqC, r_seqE, r_seqS, r_bifT, r_bifF, r_bifE, r_ret, r_retE, r_put, r_putE, r_outR, r_outN, r_outE, r_ap2, r_bol, r_neg, r_bl, r_cons, r_getv, r_getb, r_tupl, r_lstl, r_loop, view_val, Res.bind_ok, Res.bind_err, Res.bind_stuck, Res.calm_ok, List.getElem?_cons_zero, List.getElem?_cons_succ, List.set_cons_zero, List.set_cons_succ, List.map_cons, List.map_nil, List.cons_append, List.nil_append, List.append_nil, List.length_cons, List.length_nil, List.replicate_succ, List.replicate_zero, Nat.reduceSub, Nat.reduceAdd, Nat.zero_add, Nat.sub_self, dAdd_int, dSub_int, dLt_int, dLe_int, dGt_int, dGe_int, dNeg_int, dInt_bl, dInt_int, dEq_int, dNe_int, decide_true, decide_false, Bool.not_true, Bool.not_false, if_true, if_false, Bool.false_eq_true, ofS_eq, String.reduceEq, e_chain, r_chn, r_chmT, r_chmF, e_sl, e_oN, e_oS, r_opt, r_slc, e_mM0, r_mm0, e_mM1, r_mm1, e_enum, r_enmL, r_enmT, e_zip, r_zpLL, r_zpLT, r_zpTL, r_zpTT, e_rg1, dDiv_int, dMod_int, Int.reduceLT, m_is_name, dIsi, D.ty, isiB, String.reduceBEq, Bool.or_false, Bool.false_or, Bool.or_self, Bool.and_false, Bool.false_and, Bool.and_true, Bool.true_and, Bool.or_true, Bool.true_or, Bool.and_self, nameB]
  · simp only [e_run, e_seq, e_nil, e_brk, e_cnt, e_if, e_ret, e_retN, e_set, e_for, e_test, e_not, e_and, e_or, e_notV, e_andV, e_orV, e_ifE, e_m1, e_m2, e_c, e_var, e_varB, e_evN, e_evC, e_tup, e_lst, e_call, e_items, e_yes, r_seqN, r_seqR, r_seqB, r_seqC, r_seqE, r_seqS, r_bifT, r_bifF, r_bifE, r_ret, r_retE, r_put, r_putE, r_outR, r_outN, r_outE, r_ap2, r_bol, r_neg, r_bl, r_cons, r_getv, r_getb, r_tupl, r_lstl, r_loop, view_val, Res.bind_ok, Res.bind_err, Res.bind_stuck, Res.calm_ok, List.getElem?_cons_zero, List.getElem?_cons_succ, List.set_cons_zero, List.set_cons_succ, List.map_cons, List.map_nil, List.cons_append, List.nil_append, List.append_nil, List.length_cons, List.length_nil, List.replicate_succ, List.replicate_zero, Nat.reduceSub, Nat.reduceAdd, Nat.zero_add, Nat.sub_self, dAdd_int, dSub_int, dLt_int, dLe_int, dGt_int, dGe_int, dNeg_int, dInt_bl, dInt_int, dEq_int, dNe_int, decide_true, decide_false, Bool.not_true, Bool.not_false, if_true, if_false, Bool.false_eq_true, ofS_eq, String.reduceEq, e_chain, r_chn, r_chmT, r_chmF, e_sl, e_oN, e_oS, r_opt, r_slc, e_mM0, r_mm0, e_mM1, r_mm1, e_enum, r_enmL, r_enmT, e_zip, r_zpLL, r_zpLT, r_zpTL, r_zpTT, e_rg1, dDiv_int, dMod_int, Int.reduceLT, m_is_name, dIsi, D.ty, isiB, String.reduceBEq, Bool.or_false, Bool.false_or, Bool.or_self, Bool.and_false, Bool.false_and, Bool.and_true, Bool.true_and, Bool.or_true, Bool.true_or, Bool.and_self, nameB]
  · have ql := len_ok lx
    have g0 : gd 0 (.str x) = true := by simp [gd, flatB, ox, lx]
    by_cases h1 : (1 : Int) ≤ x.length
    · by_cases h3 : (x.length : Int) ≤ 3
      · have l1 : 1 ≤ x.length := by omega
        have l3 : x.length ≤ 3 := by omega
        have q1 : dIn (.str x) k_SUMS = .ok (.bl false) := by
          have := dIn_w (ws := wordsL) g0 (by decide) (by decide +kernel)
          rw [sums_in x l3] at this
          exact this
        have q2 : dIn (.str x) k_STEPS = .ok (.bl (strIn ["ask", "if", "pay"] (.str x))) := by
          have := dIn_w (ws := ["draw", "show", "ask", "keep", "if", "pay"]) g0 (by decide) (by decide +kernel)
          rw [steps_in x l3] at this
          exact this
        have q3 : m_is_name_c0 (callF k) [some (.val (.str x)), none] = .ok (.lst (x.cps.toList.map fun c => .bl (letterB c))) := by
          exact mLc_m (as := x.cps.toList) (g := fun c => .str ⟨#[c]⟩) (by simp only [e_run, e_seq, e_nil, e_brk, e_cnt, e_if, e_ret, e_retN, e_set, e_for, e_test, e_not, e_and, e_or, e_notV, e_andV, e_orV, e_ifE, e_m1, e_m2, e_c, e_var, e_varB, e_evN, e_evC, e_tup, e_lst, e_call, e_items, e_yes, r_seqN, r_seqR, r_seqB, r_seqC, r_seqE, r_seqS, r_bifT, r_bifF, r_bifE, r_ret, r_retE, r_put, r_putE, r_outR, r_outN, r_outE, r_ap2, r_bol, r_neg, r_bl, r_cons, r_getv, r_getb, r_tupl, r_lstl, r_loop, view_val, Res.bind_ok, Res.bind_err, Res.bind_stuck, Res.calm_ok, List.getElem?_cons_zero, List.getElem?_cons_succ, List.set_cons_zero, List.set_cons_succ, List.map_cons, List.map_nil, List.cons_append, List.nil_append, List.append_nil, List.length_cons, List.length_nil, List.replicate_succ, List.replicate_zero, Nat.reduceSub, Nat.reduceAdd, Nat.zero_add, Nat.sub_self, dAdd_int, dSub_int, dLt_int, dLe_int, dGt_int, dGe_int, dNeg_int, dInt_bl, dInt_int, dEq_int, dNe_int, decide_true, decide_false, Bool.not_true, Bool.not_false, if_true, if_false, Bool.false_eq_true, ofS_eq, String.reduceEq, e_chain, r_chn, r_chmT, r_chmF, e_sl, e_oN, e_oS, r_opt, r_slc, e_mM0, r_mm0, e_mM1, r_mm1, e_enum, r_enmL, r_enmT, e_zip, r_zpLL, r_zpLT, r_zpTL, r_zpTT, e_rg1, dDiv_int, dMod_int, Int.reduceLT, dItems_str]) (by rw [str_len]; omega) fun c _ => ⟨_, rfl, by simp only [e_run, e_seq, e_nil, e_brk, e_cnt, e_if, e_ret, e_retN, e_set, e_for, e_test, e_not, e_and, e_or, e_notV, e_andV, e_orV, e_ifE, e_m1, e_m2, e_c, e_var, e_varB, e_evN, e_evC, e_tup, e_lst, e_call, e_items, e_yes, r_seqN, r_seqR, r_seqB, r_seqC, r_seqE, r_seqS, r_bifT, r_bifF, r_bifE, r_ret, r_retE, r_put, r_putE, r_outR, r_outN, r_outE, r_ap2, r_bol, r_neg, r_bl, r_cons, r_getv, r_getb, r_tupl, r_lstl, r_loop, view_val, Res.bind_ok, Res.bind_err, Res.bind_stuck, Res.calm_ok, List.getElem?_cons_zero, List.getElem?_cons_succ, List.set_cons_zero, List.set_cons_succ, List.map_cons, List.map_nil, List.cons_append, List.nil_append, List.append_nil, List.length_cons, List.length_nil, List.replicate_succ, List.replicate_zero, Nat.reduceSub, Nat.reduceAdd, Nat.zero_add, Nat.sub_self, dAdd_int, dSub_int, dLt_int, dLe_int, dGt_int, dGe_int, dNeg_int, dInt_bl, dInt_int, dEq_int, dNe_int, decide_true, decide_false, Bool.not_true, Bool.not_false, if_true, if_false, Bool.false_eq_true, ofS_eq, String.reduceEq, e_chain, r_chn, r_chmT, r_chmF, e_sl, e_oN, e_oS, r_opt, r_slc, e_mM0, r_mm0, e_mM1, r_mm1, e_enum, r_enmL, r_enmT, e_zip, r_zpLL, r_zpLT, r_zpTL, r_zpTT, e_rg1, dDiv_int, dMod_int, Int.reduceLT, wipeE]; exact dIn_letter c⟩
        simp only [e_run, e_seq, e_nil, e_brk, e_cnt, e_if, e_ret, e_retN, e_set, e_for, e_test, e_not, e_and, e_or, e_notV, e_andV, e_orV, e_ifE, e_m1, e_m2, e_c, e_var, e_varB, e_evN, e_evC, e_tup, e_lst, e_call, e_items, e_yes, r_seqN, r_seqR, r_seqB, r_seqC, r_seqE, r_seqS, r_bifT, r_bifF, r_bifE, r_ret, r_retE, r_put, r_putE, r_outR, r_outN, r_outE, r_ap2, r_bol, r_neg, r_bl, r_cons, r_getv, r_getb, r_tupl, r_lstl, r_loop, view_val, Res.bind_ok, Res.bind_err, Res.bind_stuck, Res.calm_ok, List.getElem?_cons_zero, List.getElem?_cons_succ, List.set_cons_zero, List.set_cons_succ, List.map_cons, List.map_nil, List.cons_append, List.nil_append, List.append_nil, List.length_cons, List.length_nil, List.replicate_succ, List.replicate_zero, Nat.reduceSub, Nat.reduceAdd, Nat.zero_add, Nat.sub_self, dAdd_int, dSub_int, dLt_int, dLe_int, dGt_int, dGe_int, dNeg_int, dInt_bl, dInt_int, dEq_int, dNe_int, decide_true, decide_false, Bool.not_true, Bool.not_false, if_true, if_false, Bool.false_eq_true, ofS_eq, String.reduceEq, e_chain, r_chn, r_chmT, r_chmF, e_sl, e_oN, e_oS, r_opt, r_slc, e_mM0, r_mm0, e_mM1, r_mm1, e_enum, r_enmL, r_enmT, e_zip, r_zpLL, r_zpLT, r_zpTL, r_zpTT, e_rg1, dDiv_int, dMod_int, Int.reduceLT, m_is_name, dIsi, D.ty, isiB, String.reduceBEq, Bool.or_false, Bool.false_or, Bool.or_self, Bool.and_false, Bool.false_and, Bool.and_true, Bool.true_and, Bool.or_true, Bool.true_or, Bool.and_self, nameB, nameS, ql, h1, h3, q1, q2, q3, dAll_map, l1, l3]
        cases strIn ["ask", "if", "pay"] (.str x) <;> simp only [e_run, e_seq, e_nil, e_brk, e_cnt, e_if, e_ret, e_retN, e_set, e_for, e_test, e_not, e_and, e_or, e_notV, e_andV, e_orV, e_ifE, e_m1, e_m2, e_c, e_var, e_varB, e_evN, e_evC, e_tup, e_lst, e_call, e_items, e_yes, r_seqN, r_seqR, r_seqB, r_seqC, r_seqE, r_seqS, r_bifT, r_bifF, r_bifE, r_ret, r_retE, r_put, r_putE, r_outR, r_outN, r_outE, r_ap2, r_bol, r_neg, r_bl, r_cons, r_getv, r_getb, r_tupl, r_lstl, r_loop, view_val, Res.bind_ok, Res.bind_err, Res.bind_stuck, Res.calm_ok, List.getElem?_cons_zero, List.getElem?_cons_succ, List.set_cons_zero, List.set_cons_succ, List.map_cons, List.map_nil, List.cons_append, List.nil_append, List.append_nil, List.length_cons, List.length_nil, List.replicate_succ, List.replicate_zero, Nat.reduceSub, Nat.reduceAdd, Nat.zero_add, Nat.sub_self, dAdd_int, dSub_int, dLt_int, dLe_int, dGt_int, dGe_int, dNeg_int, dInt_bl, dInt_int, dEq_int, dNe_int, decide_true, decide_false, Bool.not_true, Bool.not_false, if_true, if_false, Bool.false_eq_true, ofS_eq, String.reduceEq, e_chain, r_chn, r_chmT, r_chmF, e_sl, e_oN, e_oS, r_opt, r_slc, e_mM0, r_mm0, e_mM1, r_mm1, e_enum, r_enmL, r_enmT, e_zip, r_zpLL, r_zpLT, r_zpTL, r_zpTT, e_rg1, dDiv_int, dMod_int, Int.reduceLT, q3, dAll_map, Bool.true_and, Bool.false_and]
      · have l3 : ¬ x.length ≤ 3 := by omega
        simp only [e_run, e_seq, e_nil, e_brk, e_cnt, e_if, e_ret, e_retN, e_set, e_for, e_test, e_not, e_and, e_or, e_notV, e_andV, e_orV, e_ifE, e_m1, e_m2, e_c, e_var, e_varB, e_evN, e_evC, e_tup, e_lst, e_call, e_items, e_yes, r_seqN, r_seqR, r_seqB, r_seqC, r_seqE, r_seqS, r_bifT, r_bifF, r_bifE, r_ret, r_retE, r_put, r_putE, r_outR, r_outN, r_outE, r_ap2, r_bol, r_neg, r_bl, r_cons, r_getv, r_getb, r_tupl, r_lstl, r_loop, view_val, Res.bind_ok, Res.bind_err, Res.bind_stuck, Res.calm_ok, List.getElem?_cons_zero, List.getElem?_cons_succ, List.set_cons_zero, List.set_cons_succ, List.map_cons, List.map_nil, List.cons_append, List.nil_append, List.append_nil, List.length_cons, List.length_nil, List.replicate_succ, List.replicate_zero, Nat.reduceSub, Nat.reduceAdd, Nat.zero_add, Nat.sub_self, dAdd_int, dSub_int, dLt_int, dLe_int, dGt_int, dGe_int, dNeg_int, dInt_bl, dInt_int, dEq_int, dNe_int, decide_true, decide_false, Bool.not_true, Bool.not_false, if_true, if_false, Bool.false_eq_true, ofS_eq, String.reduceEq, e_chain, r_chn, r_chmT, r_chmF, e_sl, e_oN, e_oS, r_opt, r_slc, e_mM0, r_mm0, e_mM1, r_mm1, e_enum, r_enmL, r_enmT, e_zip, r_zpLL, r_zpLT, r_zpTL, r_zpTT, e_rg1, dDiv_int, dMod_int, Int.reduceLT, m_is_name, dIsi, D.ty, isiB, String.reduceBEq, Bool.or_false, Bool.false_or, Bool.or_self, Bool.and_false, Bool.false_and, Bool.and_true, Bool.true_and, Bool.or_true, Bool.true_or, Bool.and_self, nameB, nameS, ql, h1, h3, l3, Bool.and_false, Bool.false_and]
    · have l1 : ¬ 1 ≤ x.length := by omega
      simp only [e_run, e_seq, e_nil, e_brk, e_cnt, e_if, e_ret, e_retN, e_set, e_for, e_test, e_not, e_and, e_or, e_notV, e_andV, e_orV, e_ifE, e_m1, e_m2, e_c, e_var, e_varB, e_evN, e_evC, e_tup, e_lst, e_call, e_items, e_yes, r_seqN, r_seqR, r_seqB, r_seqC, r_seqE, r_seqS, r_bifT, r_bifF, r_bifE, r_ret, r_retE, r_put, r_putE, r_outR, r_outN, r_outE, r_ap2, r_bol, r_neg, r_bl, r_cons, r_getv, r_getb, r_tupl, r_lstl, r_loop, view_val, Res.bind_ok, Res.bind_err, Res.bind_stuck, Res.calm_ok, List.getElem?_cons_zero, List.getElem?_cons_succ, List.set_cons_zero, List.set_cons_succ, List.map_cons, List.map_nil, List.cons_append, List.nil_append, List.append_nil, List.length_cons, List.length_nil, List.replicate_succ, List.replicate_zero, Nat.reduceSub, Nat.reduceAdd, Nat.zero_add, Nat.sub_self, dAdd_int, dSub_int, dLt_int, dLe_int, dGt_int, dGe_int, dNeg_int, dInt_bl, dInt_int, dEq_int, dNe_int, decide_true, decide_false, Bool.not_true, Bool.not_false, if_true, if_false, Bool.false_eq_true, ofS_eq, String.reduceEq, e_chain, r_chn, r_chmT, r_chmF, e_sl, e_oN, e_oS, r_opt, r_slc, e_mM0, r_mm0, e_mM1, r_mm1, e_enum, r_enmL, r_enmT, e_zip, r_zpLL, r_zpLT, r_zpTL, r_zpTT, e_rg1, dDiv_int, dMod_int, Int.reduceLT, m_is_name, dIsi, D.ty, isiB, String.reduceBEq, Bool.or_false, Bool.false_or, Bool.or_self, Bool.and_false, Bool.false_and, Bool.and_true, Bool.true_and, Bool.or_true, Bool.true_or, Bool.and_self, nameB, nameS, ql, h1, l1, Bool.and_false, Bool.false_and]
  · simp only [e_run, e_seq, e_nil, e_brk, e_cnt, e_if, e_ret, e_retN, e_set, e_for, e_test, e_not, e_and, e_or, e_notV, e_andV, e_orV, e_ifE, e_m1, e_m2, e_c, e_var, e_varB, e_evN, e_evC, e_tup, e_lst, e_call, e_items, e_yes, r_seqN, r_seqR, r_seqB, r_seqC, r_seqE, r_seqS, r_bifT, r_bifF, r_bifE, r_ret, r_retE, r_put, r_putE, r_outR, r_outN, r_outE, r_ap2, r_bol, r_neg, r_bl, r_cons, r_getv, r_getb, r_tupl, r_lstl, r_loop, view_val, Res.bind_ok, Res.bind_err, Res.bind_stuck, Res.calm_ok, List.getElem?_cons_zero, List.getElem?_cons_succ, List.set_cons_zero, List.set_cons_succ, List.map_cons, List.map_nil, List.cons_append, List.nil_append, List.append_nil, List.length_cons, List.length_nil, List.replicate_succ, List.replicate_zero, Nat.reduceSub, Nat.reduceAdd, Nat.zero_add, Nat.sub_self, dAdd_int, dSub_int, dLt_int, dLe_int, dGt_int, dGe_int, dNeg_int, dInt_bl, dInt_int, dEq_int, dNe_int, decide_true, decide_false, Bool.not_true, Bool.not_false, if_true, if_false, Bool.false_eq_true, ofS_eq, String.reduceEq, e_chain, r_chn, r_chmT, r_chmF, e_sl, e_oN, e_oS, r_opt, r_slc, e_mM0, r_mm0, e_mM1, r_mm1, e_enum, r_enmL, r_enmT, e_zip, r_zpLL, r_zpLT, r_zpTL, r_zpTT, e_rg1, dDiv_int, dMod_int, Int.reduceLT, m_is_name, dIsi, D.ty, isiB, String.reduceBEq, Bool.or_false, Bool.false_or, Bool.or_self, Bool.and_false, Bool.false_and, Bool.and_true, Bool.true_and, Bool.or_true, Bool.true_or, Bool.and_self, nameB]
  · simp only [e_run, e_seq, e_nil, e_brk, e_cnt, e_if, e_ret, e_retN, e_set, e_for, e_test, e_not, e_and, e_or, e_notV, e_andV, e_orV, e_ifE, e_m1, e_m2, e_c, e_var, e_varB, e_evN, e_evC, e_tup, e_lst, e_call, e_items, e_yes, r_seqN, r_seqR, r_seqB, r_seqC, r_seqE, r_seqS, r_bifT, r_bifF, r_bifE, r_ret, r_retE, r_put, r_putE, r_outR, r_outN, r_outE, r_ap2, r_bol, r_neg, r_bl, r_cons, r_getv, r_getb, r_tupl, r_lstl, r_loop, view_val, Res.bind_ok, Res.bind_err, Res.bind_stuck, Res.calm_ok, List.getElem?_cons_zero, List.getElem?_cons_succ, List.set_cons_zero, List.set_cons_succ, List.map_cons, List.map_nil, List.cons_append, List.nil_append, List.append_nil, List.length_cons, List.length_nil, List.replicate_succ, List.replicate_zero, Nat.reduceSub, Nat.reduceAdd, Nat.zero_add, Nat.sub_self, dAdd_int, dSub_int, dLt_int, dLe_int, dGt_int, dGe_int, dNeg_int, dInt_bl, dInt_int, dEq_int, dNe_int, decide_true, decide_false, Bool.not_true, Bool.not_false, if_true, if_false, Bool.false_eq_true, ofS_eq, String.reduceEq, e_chain, r_chn, r_chmT, r_chmF, e_sl, e_oN, e_oS, r_opt, r_slc, e_mM0, r_mm0, e_mM1, r_mm1, e_enum, r_enmL, r_enmT, e_zip, r_zpLL, r_zpLT, r_zpTL, r_zpTT, e_rg1, dDiv_int, dMod_int, Int.reduceLT, m_is_name, dIsi, D.ty, isiB, String.reduceBEq, Bool.or_false, Bool.false_or, Bool.or_self, Bool.and_false, Bool.false_and, Bool.and_true, Bool.true_and, Bool.or_true, Bool.true_or, Bool.and_self, nameB]
theorem L_name (k : Nat) {n : Nat} {d : D} (h : gd n d = true) : callF (k + 1) ._law_is_name [d] = .ok (.bl (nameB d)) := by
  show runM 2 (m__law_is_name (callF k)) _ = _
  rcases gd_ty h with rfl | ⟨b, rfl⟩ | ⟨i, rfl⟩ | ⟨x, rfl, ox, lx⟩ | ⟨xs, rfl⟩ | ⟨xs, rfl⟩
  · simp only [e_run, e_seq, e_nil, e_brk, e_cnt, e_if, e_ret, e_retN, e_set, e_for, e_test, e_not, e_and, e_or, e_notV, e_andV, e_orV, e_ifE, e_m1, e_m2, e_c, e_var, e_varB, e_evN, e_evC, e_tup, e_lst, e_call, e_items, e_yes, r_seqN, r_seqR, r_seqB, r_seqC, r_seqE, r_seqS, r_bifT, r_bifF, r_bifE, r_ret, r_retE, r_put, r_putE, r_outR, r_outN, r_outE, r_ap2, r_bol, r_neg, r_bl, r_cons, r_getv, r_getb, r_tupl, r_lstl, r_loop, view_val, Res.bind_ok, Res.bind_err, Res.bind_stuck, Res.calm_ok, List.getElem?_cons_zero, List.getElem?_cons_succ, List.set_cons_zero, List.set_cons_succ, List.map_cons, List.map_nil, List.cons_append, List.nil_append, List.append_nil, List.length_cons, List.length_nil, List.replicate_succ, List.replicate_zero, Nat.reduceSub, Nat.reduceAdd, Nat.zero_add, Nat.sub_self, dAdd_int, dSub_int, dLt_int, dLe_int, dGt_int, dGe_int, dNeg_int, dInt_bl, dInt_int, dEq_int, dNe_int, decide_true, decide_false, Bool.not_true, Bool.not_false, if_true, if_false, Bool.false_eq_true, ofS_eq, String.reduceEq, e_chain, r_chn, r_chmT, r_chmF, e_sl, e_oN, e_oS, r_opt, r_slc, e_mM0, r_mm0, e_mM1, r_mm1, e_enum, r_enmL, r_enmT, e_zip, r_zpLL, r_zpLT, r_zpTL, r_zpTT, e_rg1, dDiv_int, dMod_int, Int.reduceLT, m__law_is_name, dIsi, D.ty, isiB, String.reduceBEq, Bool.or_false, Bool.false_or, Bool.or_self, Bool.and_false, Bool.false_and, Bool.and_true, Bool.true_and, Bool.or_true, Bool.true_or, Bool.and_self, nameB]
  · simp only [e_run, e_seq, e_nil, e_brk, e_cnt, e_if, e_ret, e_retN, e_set, e_for, e_test, e_not, e_and, e_or, e_notV, e_andV, e_orV, e_ifE, e_m1, e_m2, e_c, e_var, e_varB, e_evN, e_evC, e_tup, e_lst, e_call, e_items, e_yes, r_seqN, r_seqR, r_seqB, r_seqC, r_seqE, r_seqS, r_bifT, r_bifF, r_bifE, r_ret, r_retE, r_put, r_putE, r_outR, r_outN, r_outE, r_ap2, r_bol, r_neg, r_bl, r_cons, r_getv, r_getb, r_tupl, r_lstl, r_loop, view_val, Res.bind_ok, Res.bind_err, Res.bind_stuck, Res.calm_ok, List.getElem?_cons_zero, List.getElem?_cons_succ, List.set_cons_zero, List.set_cons_succ, List.map_cons, List.map_nil, List.cons_append, List.nil_append, List.append_nil, List.length_cons, List.length_nil, List.replicate_succ, List.replicate_zero, Nat.reduceSub, Nat.reduceAdd, Nat.zero_add, Nat.sub_self, dAdd_int, dSub_int, dLt_int, dLe_int, dGt_int, dGe_int, dNeg_int, dInt_bl, dInt_int, dEq_int, dNe_int, decide_true, decide_false, Bool.not_true, Bool.not_false, if_true, if_false, Bool.false_eq_true, ofS_eq, String.reduceEq, e_chain, r_chn, r_chmT, r_chmF, e_sl, e_oN, e_oS, r_opt, r_slc, e_mM0, r_mm0, e_mM1, r_mm1, e_enum, r_enmL, r_enmT, e_zip, r_zpLL, r_zpLT, r_zpTL, r_zpTT, e_rg1, dDiv_int, dMod_int, Int.reduceLT, m__law_is_name, dIsi, D.ty, isiB, String.reduceBEq, Bool.or_false, Bool.false_or, Bool.or_self, Bool.and_false, Bool.false_and, Bool.and_true, Bool.true_and, Bool.or_true, Bool.true_or, Bool.and_self, nameB]
  · simp only [e_run, e_seq, e_nil, e_brk, e_cnt, e_if, e_ret, e_retN, e_set, e_for, e_test, e_not, e_and, e_or, e_notV, e_andV, e_orV, e_ifE, e_m1, e_m2, e_c, e_var, e_varB, e_evN, e_evC, e_tup, e_lst, e_call, e_items, e_yes, r_seqN, r_seqR, r_seqB, r_seqC, r_seqE, r_seqS, r_bifT, r_bifF, r_bifE, r_ret, r_retE, r_put, r_putE, r_outR, r_outN, r_outE, r_ap2, r_bol, r_neg, r_bl, r_cons, r_getv, r_getb, r_tupl, r_lstl, r_loop, view_val, Res.bind_ok, Res.bind_err, Res.bind_stuck, Res.calm_ok, List.getElem?_cons_zero, List.getElem?_cons_succ, List.set_cons_zero, List.set_cons_succ, List.map_cons, List.map_nil, List.cons_append, List.nil_append, List.append_nil, List.length_cons, List.length_nil, List.replicate_succ, List.replicate_zero, Nat.reduceSub, Nat.reduceAdd, Nat.zero_add, Nat.sub_self, dAdd_int, dSub_int, dLt_int, dLe_int, dGt_int, dGe_int, dNeg_int, dInt_bl, dInt_int, dEq_int, dNe_int, decide_true, decide_false, Bool.not_true, Bool.not_false, if_true, if_false, Bool.false_eq_true, ofS_eq, String.reduceEq, e_chain, r_chn, r_chmT, r_chmF, e_sl, e_oN, e_oS, r_opt, r_slc, e_mM0, r_mm0, e_mM1, r_mm1, e_enum, r_enmL, r_enmT, e_zip, r_zpLL, r_zpLT, r_zpTL, r_zpTT, e_rg1, dDiv_int, dMod_int, Int.reduceLT, m__law_is_name, dIsi, D.ty, isiB, String.reduceBEq, Bool.or_false, Bool.false_or, Bool.or_self, Bool.and_false, Bool.false_and, Bool.and_true, Bool.true_and, Bool.or_true, Bool.true_or, Bool.and_self, nameB]
  · have ql := len_ok lx
    have g0 : gd 0 (.str x) = true := by simp [gd, flatB, ox, lx]
    by_cases h1 : (1 : Int) ≤ x.length
    · by_cases h3 : (x.length : Int) ≤ 3
      · have l1 : 1 ≤ x.length := by omega
        have l3 : x.length ≤ 3 := by omega
        have q2 : dIn (.str x) (.tup [.str "ask", .str "if", .str "pay"]) = .ok (.bl (strIn ["ask", "if", "pay"] (.str x))) := dIn_w (ws := ["ask", "if", "pay"]) g0 (by decide) (by decide +kernel)
        have q3 : m__law_is_name_c0 (callF k) [some (.val (.str x)), none] = .ok (.lst ((x.cps.toList.filter fun c => !letterB c).map fun c => .str ⟨#[c]⟩)) := by
          refine mLc_f (as := x.cps.toList) (g := fun c => .str ⟨#[c]⟩) (p := fun c => !letterB c) (f := fun c => .str ⟨#[c]⟩) (by simp only [e_run, e_seq, e_nil, e_brk, e_cnt, e_if, e_ret, e_retN, e_set, e_for, e_test, e_not, e_and, e_or, e_notV, e_andV, e_orV, e_ifE, e_m1, e_m2, e_c, e_var, e_varB, e_evN, e_evC, e_tup, e_lst, e_call, e_items, e_yes, r_seqN, r_seqR, r_seqB, r_seqC, r_seqE, r_seqS, r_bifT, r_bifF, r_bifE, r_ret, r_retE, r_put, r_putE, r_outR, r_outN, r_outE, r_ap2, r_bol, r_neg, r_bl, r_cons, r_getv, r_getb, r_tupl, r_lstl, r_loop, view_val, Res.bind_ok, Res.bind_err, Res.bind_stuck, Res.calm_ok, List.getElem?_cons_zero, List.getElem?_cons_succ, List.set_cons_zero, List.set_cons_succ, List.map_cons, List.map_nil, List.cons_append, List.nil_append, List.append_nil, List.length_cons, List.length_nil, List.replicate_succ, List.replicate_zero, Nat.reduceSub, Nat.reduceAdd, Nat.zero_add, Nat.sub_self, dAdd_int, dSub_int, dLt_int, dLe_int, dGt_int, dGe_int, dNeg_int, dInt_bl, dInt_int, dEq_int, dNe_int, decide_true, decide_false, Bool.not_true, Bool.not_false, if_true, if_false, Bool.false_eq_true, ofS_eq, String.reduceEq, e_chain, r_chn, r_chmT, r_chmF, e_sl, e_oN, e_oS, r_opt, r_slc, e_mM0, r_mm0, e_mM1, r_mm1, e_enum, r_enmL, r_enmT, e_zip, r_zpLL, r_zpLT, r_zpTL, r_zpTT, e_rg1, dDiv_int, dMod_int, Int.reduceLT, dItems_str]) (by rw [str_len]; omega) fun c _ => ⟨_, rfl, ?_, fun _ => ?_⟩
          · have := find_one lettersS c
            simp only [e_run, e_seq, e_nil, e_brk, e_cnt, e_if, e_ret, e_retN, e_set, e_for, e_test, e_not, e_and, e_or, e_notV, e_andV, e_orV, e_ifE, e_m1, e_m2, e_c, e_var, e_varB, e_evN, e_evC, e_tup, e_lst, e_call, e_items, e_yes, r_seqN, r_seqR, r_seqB, r_seqC, r_seqE, r_seqS, r_bifT, r_bifF, r_bifE, r_ret, r_retE, r_put, r_putE, r_outR, r_outN, r_outE, r_ap2, r_bol, r_neg, r_bl, r_cons, r_getv, r_getb, r_tupl, r_lstl, r_loop, view_val, Res.bind_ok, Res.bind_err, Res.bind_stuck, Res.calm_ok, List.getElem?_cons_zero, List.getElem?_cons_succ, List.set_cons_zero, List.set_cons_succ, List.map_cons, List.map_nil, List.cons_append, List.nil_append, List.append_nil, List.length_cons, List.length_nil, List.replicate_succ, List.replicate_zero, Nat.reduceSub, Nat.reduceAdd, Nat.zero_add, Nat.sub_self, dAdd_int, dSub_int, dLt_int, dLe_int, dGt_int, dGe_int, dNeg_int, dInt_bl, dInt_int, dEq_int, dNe_int, decide_true, decide_false, Bool.not_true, Bool.not_false, if_true, if_false, Bool.false_eq_true, ofS_eq, String.reduceEq, e_chain, r_chn, r_chmT, r_chmF, e_sl, e_oN, e_oS, r_opt, r_slc, e_mM0, r_mm0, e_mM1, r_mm1, e_enum, r_enmL, r_enmT, e_zip, r_zpLL, r_zpLT, r_zpTL, r_zpTT, e_rg1, dDiv_int, dMod_int, Int.reduceLT, wipeE, dFind, this]
            rfl
          · simp only [e_run, e_seq, e_nil, e_brk, e_cnt, e_if, e_ret, e_retN, e_set, e_for, e_test, e_not, e_and, e_or, e_notV, e_andV, e_orV, e_ifE, e_m1, e_m2, e_c, e_var, e_varB, e_evN, e_evC, e_tup, e_lst, e_call, e_items, e_yes, r_seqN, r_seqR, r_seqB, r_seqC, r_seqE, r_seqS, r_bifT, r_bifF, r_bifE, r_ret, r_retE, r_put, r_putE, r_outR, r_outN, r_outE, r_ap2, r_bol, r_neg, r_bl, r_cons, r_getv, r_getb, r_tupl, r_lstl, r_loop, view_val, Res.bind_ok, Res.bind_err, Res.bind_stuck, Res.calm_ok, List.getElem?_cons_zero, List.getElem?_cons_succ, List.set_cons_zero, List.set_cons_succ, List.map_cons, List.map_nil, List.cons_append, List.nil_append, List.append_nil, List.length_cons, List.length_nil, List.replicate_succ, List.replicate_zero, Nat.reduceSub, Nat.reduceAdd, Nat.zero_add, Nat.sub_self, dAdd_int, dSub_int, dLt_int, dLe_int, dGt_int, dGe_int, dNeg_int, dInt_bl, dInt_int, dEq_int, dNe_int, decide_true, decide_false, Bool.not_true, Bool.not_false, if_true, if_false, Bool.false_eq_true, ofS_eq, String.reduceEq, e_chain, r_chn, r_chmT, r_chmF, e_sl, e_oN, e_oS, r_opt, r_slc, e_mM0, r_mm0, e_mM1, r_mm1, e_enum, r_enmL, r_enmT, e_zip, r_zpLL, r_zpLT, r_zpTL, r_zpTT, e_rg1, dDiv_int, dMod_int, Int.reduceLT, wipeE]
        have q4 : dEq (.lst ((x.cps.toList.filter fun c => !letterB c).map fun c => .str ⟨#[c]⟩)) (.lst []) = .ok (.bl (x.cps.toList.all letterB)) := by
          rw [dEq_nil (n := 0) (fun y hy => ?_) (by decide)]
          · congr 2
            rw [List.isEmpty_map, Bool.eq_iff_iff, List.isEmpty_iff, List.filter_eq_nil_iff, List.all_eq_true]
            simp
          · obtain ⟨c, hc, rfl⟩ := List.mem_map.mp hy
            have hm : c ∈ x.cps.toList := (List.mem_filter.mp hc).1
            have : c < 0x110000 := by
              unfold okS PyData.strOk at ox
              rw [← Array.all_toList, List.all_eq_true] at ox
              simpa using ox c hm
            simp only [gd, flatB, okS, PyData.strOk, Bool.and_eq_true, decide_eq_true_eq]
            exact ⟨by simpa using this, by show 1 ≤ 1000000; decide⟩
        simp only [e_run, e_seq, e_nil, e_brk, e_cnt, e_if, e_ret, e_retN, e_set, e_for, e_test, e_not, e_and, e_or, e_notV, e_andV, e_orV, e_ifE, e_m1, e_m2, e_c, e_var, e_varB, e_evN, e_evC, e_tup, e_lst, e_call, e_items, e_yes, r_seqN, r_seqR, r_seqB, r_seqC, r_seqE, r_seqS, r_bifT, r_bifF, r_bifE, r_ret, r_retE, r_put, r_putE, r_outR, r_outN, r_outE, r_ap2, r_bol, r_neg, r_bl, r_cons, r_getv, r_getb, r_tupl, r_lstl, r_loop, view_val, Res.bind_ok, Res.bind_err, Res.bind_stuck, Res.calm_ok, List.getElem?_cons_zero, List.getElem?_cons_succ, List.set_cons_zero, List.set_cons_succ, List.map_cons, List.map_nil, List.cons_append, List.nil_append, List.append_nil, List.length_cons, List.length_nil, List.replicate_succ, List.replicate_zero, Nat.reduceSub, Nat.reduceAdd, Nat.zero_add, Nat.sub_self, dAdd_int, dSub_int, dLt_int, dLe_int, dGt_int, dGe_int, dNeg_int, dInt_bl, dInt_int, dEq_int, dNe_int, decide_true, decide_false, Bool.not_true, Bool.not_false, if_true, if_false, Bool.false_eq_true, ofS_eq, String.reduceEq, e_chain, r_chn, r_chmT, r_chmF, e_sl, e_oN, e_oS, r_opt, r_slc, e_mM0, r_mm0, e_mM1, r_mm1, e_enum, r_enmL, r_enmT, e_zip, r_zpLL, r_zpLT, r_zpTL, r_zpTT, e_rg1, dDiv_int, dMod_int, Int.reduceLT, m__law_is_name, dIsi, D.ty, isiB, String.reduceBEq, Bool.or_false, Bool.false_or, Bool.or_self, Bool.and_false, Bool.false_and, Bool.and_true, Bool.true_and, Bool.or_true, Bool.true_or, Bool.and_self, nameB, nameS, ql, h1, h3, q2, l1, l3]
        cases strIn ["ask", "if", "pay"] (.str x) <;> simp only [e_run, e_seq, e_nil, e_brk, e_cnt, e_if, e_ret, e_retN, e_set, e_for, e_test, e_not, e_and, e_or, e_notV, e_andV, e_orV, e_ifE, e_m1, e_m2, e_c, e_var, e_varB, e_evN, e_evC, e_tup, e_lst, e_call, e_items, e_yes, r_seqN, r_seqR, r_seqB, r_seqC, r_seqE, r_seqS, r_bifT, r_bifF, r_bifE, r_ret, r_retE, r_put, r_putE, r_outR, r_outN, r_outE, r_ap2, r_bol, r_neg, r_bl, r_cons, r_getv, r_getb, r_tupl, r_lstl, r_loop, view_val, Res.bind_ok, Res.bind_err, Res.bind_stuck, Res.calm_ok, List.getElem?_cons_zero, List.getElem?_cons_succ, List.set_cons_zero, List.set_cons_succ, List.map_cons, List.map_nil, List.cons_append, List.nil_append, List.append_nil, List.length_cons, List.length_nil, List.replicate_succ, List.replicate_zero, Nat.reduceSub, Nat.reduceAdd, Nat.zero_add, Nat.sub_self, dAdd_int, dSub_int, dLt_int, dLe_int, dGt_int, dGe_int, dNeg_int, dInt_bl, dInt_int, dEq_int, dNe_int, decide_true, decide_false, Bool.not_true, Bool.not_false, if_true, if_false, Bool.false_eq_true, ofS_eq, String.reduceEq, e_chain, r_chn, r_chmT, r_chmF, e_sl, e_oN, e_oS, r_opt, r_slc, e_mM0, r_mm0, e_mM1, r_mm1, e_enum, r_enmL, r_enmT, e_zip, r_zpLL, r_zpLT, r_zpTL, r_zpTT, e_rg1, dDiv_int, dMod_int, Int.reduceLT, q3, q4, Bool.true_and, Bool.false_and]
      · have l3 : ¬ x.length ≤ 3 := by omega
        simp only [e_run, e_seq, e_nil, e_brk, e_cnt, e_if, e_ret, e_retN, e_set, e_for, e_test, e_not, e_and, e_or, e_notV, e_andV, e_orV, e_ifE, e_m1, e_m2, e_c, e_var, e_varB, e_evN, e_evC, e_tup, e_lst, e_call, e_items, e_yes, r_seqN, r_seqR, r_seqB, r_seqC, r_seqE, r_seqS, r_bifT, r_bifF, r_bifE, r_ret, r_retE, r_put, r_putE, r_outR, r_outN, r_outE, r_ap2, r_bol, r_neg, r_bl, r_cons, r_getv, r_getb, r_tupl, r_lstl, r_loop, view_val, Res.bind_ok, Res.bind_err, Res.bind_stuck, Res.calm_ok, List.getElem?_cons_zero, List.getElem?_cons_succ, List.set_cons_zero, List.set_cons_succ, List.map_cons, List.map_nil, List.cons_append, List.nil_append, List.append_nil, List.length_cons, List.length_nil, List.replicate_succ, List.replicate_zero, Nat.reduceSub, Nat.reduceAdd, Nat.zero_add, Nat.sub_self, dAdd_int, dSub_int, dLt_int, dLe_int, dGt_int, dGe_int, dNeg_int, dInt_bl, dInt_int, dEq_int, dNe_int, decide_true, decide_false, Bool.not_true, Bool.not_false, if_true, if_false, Bool.false_eq_true, ofS_eq, String.reduceEq, e_chain, r_chn, r_chmT, r_chmF, e_sl, e_oN, e_oS, r_opt, r_slc, e_mM0, r_mm0, e_mM1, r_mm1, e_enum, r_enmL, r_enmT, e_zip, r_zpLL, r_zpLT, r_zpTL, r_zpTT, e_rg1, dDiv_int, dMod_int, Int.reduceLT, m__law_is_name, dIsi, D.ty, isiB, String.reduceBEq, Bool.or_false, Bool.false_or, Bool.or_self, Bool.and_false, Bool.false_and, Bool.and_true, Bool.true_and, Bool.or_true, Bool.true_or, Bool.and_self, nameB, nameS, ql, h1, h3, l3, Bool.and_false, Bool.false_and]
    · have l1 : ¬ 1 ≤ x.length := by omega
      simp only [e_run, e_seq, e_nil, e_brk, e_cnt, e_if, e_ret, e_retN, e_set, e_for, e_test, e_not, e_and, e_or, e_notV, e_andV, e_orV, e_ifE, e_m1, e_m2, e_c, e_var, e_varB, e_evN, e_evC, e_tup, e_lst, e_call, e_items, e_yes, r_seqN, r_seqR, r_seqB, r_seqC, r_seqE, r_seqS, r_bifT, r_bifF, r_bifE, r_ret, r_retE, r_put, r_putE, r_outR, r_outN, r_outE, r_ap2, r_bol, r_neg, r_bl, r_cons, r_getv, r_getb, r_tupl, r_lstl, r_loop, view_val, Res.bind_ok, Res.bind_err, Res.bind_stuck, Res.calm_ok, List.getElem?_cons_zero, List.getElem?_cons_succ, List.set_cons_zero, List.set_cons_succ, List.map_cons, List.map_nil, List.cons_append, List.nil_append, List.append_nil, List.length_cons, List.length_nil, List.replicate_succ, List.replicate_zero, Nat.reduceSub, Nat.reduceAdd, Nat.zero_add, Nat.sub_self, dAdd_int, dSub_int, dLt_int, dLe_int, dGt_int, dGe_int, dNeg_int, dInt_bl, dInt_int, dEq_int, dNe_int, decide_true, decide_false, Bool.not_true, Bool.not_false, if_true, if_false, Bool.false_eq_true, ofS_eq, String.reduceEq, e_chain, r_chn, r_chmT, r_chmF, e_sl, e_oN, e_oS, r_opt, r_slc, e_mM0, r_mm0, e_mM1, r_mm1, e_enum, r_enmL, r_enmT, e_zip, r_zpLL, r_zpLT, r_zpTL, r_zpTT, e_rg1, dDiv_int, dMod_int, Int.reduceLT, m__law_is_name, dIsi, D.ty, isiB, String.reduceBEq, Bool.or_false, Bool.false_or, Bool.or_self, Bool.and_false, Bool.false_and, Bool.and_true, Bool.true_and, Bool.or_true, Bool.true_or, Bool.and_self, nameB, nameS, ql, h1, l1, Bool.and_false, Bool.false_and]
  · simp only [e_run, e_seq, e_nil, e_brk, e_cnt, e_if, e_ret, e_retN, e_set, e_for, e_test, e_not, e_and, e_or, e_notV, e_andV, e_orV, e_ifE, e_m1, e_m2, e_c, e_var, e_varB, e_evN, e_evC, e_tup, e_lst, e_call, e_items, e_yes, r_seqN, r_seqR, r_seqB, r_seqC, r_seqE, r_seqS, r_bifT, r_bifF, r_bifE, r_ret, r_retE, r_put, r_putE, r_outR, r_outN, r_outE, r_ap2, r_bol, r_neg, r_bl, r_cons, r_getv, r_getb, r_tupl, r_lstl, r_loop, view_val, Res.bind_ok, Res.bind_err, Res.bind_stuck, Res.calm_ok, List.getElem?_cons_zero, List.getElem?_cons_succ, List.set_cons_zero, List.set_cons_succ, List.map_cons, List.map_nil, List.cons_append, List.nil_append, List.append_nil, List.length_cons, List.length_nil, List.replicate_succ, List.replicate_zero, Nat.reduceSub, Nat.reduceAdd, Nat.zero_add, Nat.sub_self, dAdd_int, dSub_int, dLt_int, dLe_int, dGt_int, dGe_int, dNeg_int, dInt_bl, dInt_int, dEq_int, dNe_int, decide_true, decide_false, Bool.not_true, Bool.not_false, if_true, if_false, Bool.false_eq_true, ofS_eq, String.reduceEq, e_chain, r_chn, r_chmT, r_chmF, e_sl, e_oN, e_oS, r_opt, r_slc, e_mM0, r_mm0, e_mM1, r_mm1, e_enum, r_enmL, r_enmT, e_zip, r_zpLL, r_zpLT, r_zpTL, r_zpTT, e_rg1, dDiv_int, dMod_int, Int.reduceLT, m__law_is_name, dIsi, D.ty, isiB, String.reduceBEq, Bool.or_false, Bool.false_or, Bool.or_self, Bool.and_false, Bool.false_and, Bool.and_true, Bool.true_and, Bool.or_true, Bool.true_or, Bool.and_self, nameB]
  · simp only [e_run, e_seq, e_nil, e_brk, e_cnt, e_if, e_ret, e_retN, e_set, e_for, e_test, e_not, e_and, e_or, e_notV, e_andV, e_orV, e_ifE, e_m1, e_m2, e_c, e_var, e_varB, e_evN, e_evC, e_tup, e_lst, e_call, e_items, e_yes, r_seqN, r_seqR, r_seqB, r_seqC, r_seqE, r_seqS, r_bifT, r_bifF, r_bifE, r_ret, r_retE, r_put, r_putE, r_outR, r_outN, r_outE, r_ap2, r_bol, r_neg, r_bl, r_cons, r_getv, r_getb, r_tupl, r_lstl, r_loop, view_val, Res.bind_ok, Res.bind_err, Res.bind_stuck, Res.calm_ok, List.getElem?_cons_zero, List.getElem?_cons_succ, List.set_cons_zero, List.set_cons_succ, List.map_cons, List.map_nil, List.cons_append, List.nil_append, List.append_nil, List.length_cons, List.length_nil, List.replicate_succ, List.replicate_zero, Nat.reduceSub, Nat.reduceAdd, Nat.zero_add, Nat.sub_self, dAdd_int, dSub_int, dLt_int, dLe_int, dGt_int, dGe_int, dNeg_int, dInt_bl, dInt_int, dEq_int, dNe_int, decide_true, decide_false, Bool.not_true, Bool.not_false, if_true, if_false, Bool.false_eq_true, ofS_eq, String.reduceEq, e_chain, r_chn, r_chmT, r_chmF, e_sl, e_oN, e_oS, r_opt, r_slc, e_mM0, r_mm0, e_mM1, r_mm1, e_enum, r_enmL, r_enmT, e_zip, r_zpLL, r_zpLT, r_zpTL, r_zpTT, e_rg1, dDiv_int, dMod_int, Int.reduceLT, m__law_is_name, dIsi, D.ty, isiB, String.reduceBEq, Bool.or_false, Bool.false_or, Bool.or_self, Bool.and_false, Bool.false_and, Bool.and_true, Bool.true_and, Bool.or_true, Bool.true_or, Bool.and_self, nameB]
/-- three parts or not -/
theorem len3 (xs : List D) : (∃ a b c, xs = [a, b, c]) ∨ (¬ (xs.length : Int) = 3 ∧ ∀ a b c, xs ≠ [a, b, c]) := by
  match xs with
  | [] => exact .inr ⟨by simp, by simp⟩
  | [a] => exact .inr ⟨by simp, by simp⟩
  | [a, b] => exact .inr ⟨by simp, by simp⟩
  | [a, b, c] => exact .inl ⟨a, b, c, rfl⟩
  | a :: b :: c :: d :: r => exact .inr ⟨by simp; omega, by simp⟩
theorem sumB_tup {n : Nat} {xs : List D} (h : ∀ a b c, xs ≠ [a, b, c]) : sumB n (.tup xs) = false := by
  cases n with
  | zero => rfl
  | succ n =>
    unfold sumB
    simp only [wholeB, nameB, Bool.or_self, Bool.false_or]
    split
    · rename_i w a b e; cases e; exact absurd rfl (h w a b)
    · rfl
theorem sumB_flat {n : Nat} {d : D} (h : ∀ xs, d ≠ .tup xs) : sumB n d = (wholeB (-50) 50 d || nameB d) := by
  cases n with
  | zero => rfl
  | succ n =>
    unfold sumB
    cases d <;> first | (simp only [Bool.or_false]; done) | exact absurd rfl (h _)
theorem P_sum : ∀ (n : Nat) (k : Nat) {m : Nat} {d : D}, gd m d = true → m ≤ 64 → callF (k + n + 3) .is_sum_at [d, .int n] = .ok (.bl (sumB n d)) := by
  intro n
  induction n with
  | zero =>
    intro k m d h hm
    show runM 2 (m_is_sum_at (callF (k + 2))) _ = _
    have e1 : callF (k + 2) .is_small [d] = _ := P_small k h
    have e2 : callF (k + 2) .is_name [d] = _ := P_name (k + 1) h
    cases h1 : wholeB (-50) 50 d
    · cases h2 : nameB d <;> simp only [e_run, e_seq, e_nil, e_brk, e_cnt, e_if, e_ret, e_retN, e_set, e_for, e_test, e_not, e_and, e_or, e_notV, e_andV, e_orV, e_ifE, e_m1, e_m2, e_c, e_var, e_varB, e_evN, e_evC, e_tup, e_lst, e_call, e_items, e_yes, r_seqN, r_seqR, r_seqB, r_seqC, r_seqE, r_seqS, r_bifT, r_bifF, r_bifE, r_ret, r_retE, r_put, r_putE, r_outR, r_outN, r_outE, r_ap2, r_bol, r_neg, r_bl, r_cons, r_getv, r_getb, r_tupl, r_lstl, r_loop, view_val, Res.bind_ok, Res.bind_err, Res.bind_stuck, Res.calm_ok, List.getElem?_cons_zero, List.getElem?_cons_succ, List.set_cons_zero, List.set_cons_succ, List.map_cons, List.map_nil, List.cons_append, List.nil_append, List.append_nil, List.length_cons, List.length_nil, List.replicate_succ, List.replicate_zero, Nat.reduceSub, Nat.reduceAdd, Nat.zero_add, Nat.sub_self, dAdd_int, dSub_int, dLt_int, dLe_int, dGt_int, dGe_int, dNeg_int, dInt_bl, dInt_int, dEq_int, dNe_int, decide_true, decide_false, Bool.not_true, Bool.not_false, if_true, if_false, Bool.false_eq_true, ofS_eq, String.reduceEq, e_chain, r_chn, r_chmT, r_chmF, e_sl, e_oN, e_oS, r_opt, r_slc, e_mM0, r_mm0, e_mM1, r_mm1, e_enum, r_enmL, r_enmT, e_zip, r_zpLL, r_zpLT, r_zpTL, r_zpTT, e_rg1, dDiv_int, dMod_int, Int.reduceLT, m_is_sum_at, e1, e2, h1, h2, sumB, Int.natCast_zero, dIsi, D.ty, isiB, String.reduceBEq, Bool.or_false, Bool.false_or, Bool.or_self, Bool.and_false, Bool.false_and, Bool.and_true, Bool.true_and, Bool.or_true, Bool.true_or, Bool.and_self]
    · simp only [e_run, e_seq, e_nil, e_brk, e_cnt, e_if, e_ret, e_retN, e_set, e_for, e_test, e_not, e_and, e_or, e_notV, e_andV, e_orV, e_ifE, e_m1, e_m2, e_c, e_var, e_varB, e_evN, e_evC, e_tup, e_lst, e_call, e_items, e_yes, r_seqN, r_seqR, r_seqB, r_seqC, r_seqE, r_seqS, r_bifT, r_bifF, r_bifE, r_ret, r_retE, r_put, r_putE, r_outR, r_outN, r_outE, r_ap2, r_bol, r_neg, r_bl, r_cons, r_getv, r_getb, r_tupl, r_lstl, r_loop, view_val, Res.bind_ok, Res.bind_err, Res.bind_stuck, Res.calm_ok, List.getElem?_cons_zero, List.getElem?_cons_succ, List.set_cons_zero, List.set_cons_succ, List.map_cons, List.map_nil, List.cons_append, List.nil_append, List.append_nil, List.length_cons, List.length_nil, List.replicate_succ, List.replicate_zero, Nat.reduceSub, Nat.reduceAdd, Nat.zero_add, Nat.sub_self, dAdd_int, dSub_int, dLt_int, dLe_int, dGt_int, dGe_int, dNeg_int, dInt_bl, dInt_int, dEq_int, dNe_int, decide_true, decide_false, Bool.not_true, Bool.not_false, if_true, if_false, Bool.false_eq_true, ofS_eq, String.reduceEq, e_chain, r_chn, r_chmT, r_chmF, e_sl, e_oN, e_oS, r_opt, r_slc, e_mM0, r_mm0, e_mM1, r_mm1, e_enum, r_enmL, r_enmT, e_zip, r_zpLL, r_zpLT, r_zpTL, r_zpTT, e_rg1, dDiv_int, dMod_int, Int.reduceLT, m_is_sum_at, e1, e2, h1, sumB, dIsi, D.ty, isiB, String.reduceBEq, Bool.or_false, Bool.false_or, Bool.or_self, Bool.and_false, Bool.false_and, Bool.and_true, Bool.true_and, Bool.or_true, Bool.true_or, Bool.and_self]
  | succ n ih =>
    intro k m d h hm
    show runM 2 (m_is_sum_at (callF (k + n + 3))) _ = _
    have e1 : callF (k + n + 3) .is_small [d] = _ := P_small (k + n + 1) h
    have e2 : callF (k + n + 3) .is_name [d] = _ := P_name (k + n + 2) h
    have z1 : ¬ ((n + 1 : Nat) : Int) = 0 := by omega
    have z2 : ((n + 1 : Nat) : Int) - 1 = n := by omega
    cases h1 : wholeB (-50) 50 d
    · cases h2 : nameB d
      · rcases gd_ty h with rfl | ⟨b, rfl⟩ | ⟨i, rfl⟩ | ⟨x, rfl, ox, lx⟩ | ⟨xs, rfl⟩ | ⟨xs, rfl⟩
        · simp only [e_run, e_seq, e_nil, e_brk, e_cnt, e_if, e_ret, e_retN, e_set, e_for, e_test, e_not, e_and, e_or, e_notV, e_andV, e_orV, e_ifE, e_m1, e_m2, e_c, e_var, e_varB, e_evN, e_evC, e_tup, e_lst, e_call, e_items, e_yes, r_seqN, r_seqR, r_seqB, r_seqC, r_seqE, r_seqS, r_bifT, r_bifF, r_bifE, r_ret, r_retE, r_put, r_putE, r_outR, r_outN, r_outE, r_ap2, r_bol, r_neg, r_bl, r_cons, r_getv, r_getb, r_tupl, r_lstl, r_loop, view_val, Res.bind_ok, Res.bind_err, Res.bind_stuck, Res.calm_ok, List.getElem?_cons_zero, List.getElem?_cons_succ, List.set_cons_zero, List.set_cons_succ, List.map_cons, List.map_nil, List.cons_append, List.nil_append, List.append_nil, List.length_cons, List.length_nil, List.replicate_succ, List.replicate_zero, Nat.reduceSub, Nat.reduceAdd, Nat.zero_add, Nat.sub_self, dAdd_int, dSub_int, dLt_int, dLe_int, dGt_int, dGe_int, dNeg_int, dInt_bl, dInt_int, dEq_int, dNe_int, decide_true, decide_false, Bool.not_true, Bool.not_false, if_true, if_false, Bool.false_eq_true, ofS_eq, String.reduceEq, e_chain, r_chn, r_chmT, r_chmF, e_sl, e_oN, e_oS, r_opt, r_slc, e_mM0, r_mm0, e_mM1, r_mm1, e_enum, r_enmL, r_enmT, e_zip, r_zpLL, r_zpLT, r_zpTL, r_zpTT, e_rg1, dDiv_int, dMod_int, Int.reduceLT, m_is_sum_at, e1, e2, h1, h2, z1, sumB, dIsi, D.ty, isiB, String.reduceBEq, Bool.or_false, Bool.false_or, Bool.or_self, Bool.and_false, Bool.false_and, Bool.and_true, Bool.true_and, Bool.or_true, Bool.true_or, Bool.and_self]
        · simp only [e_run, e_seq, e_nil, e_brk, e_cnt, e_if, e_ret, e_retN, e_set, e_for, e_test, e_not, e_and, e_or, e_notV, e_andV, e_orV, e_ifE, e_m1, e_m2, e_c, e_var, e_varB, e_evN, e_evC, e_tup, e_lst, e_call, e_items, e_yes, r_seqN, r_seqR, r_seqB, r_seqC, r_seqE, r_seqS, r_bifT, r_bifF, r_bifE, r_ret, r_retE, r_put, r_putE, r_outR, r_outN, r_outE, r_ap2, r_bol, r_neg, r_bl, r_cons, r_getv, r_getb, r_tupl, r_lstl, r_loop, view_val, Res.bind_ok, Res.bind_err, Res.bind_stuck, Res.calm_ok, List.getElem?_cons_zero, List.getElem?_cons_succ, List.set_cons_zero, List.set_cons_succ, List.map_cons, List.map_nil, List.cons_append, List.nil_append, List.append_nil, List.length_cons, List.length_nil, List.replicate_succ, List.replicate_zero, Nat.reduceSub, Nat.reduceAdd, Nat.zero_add, Nat.sub_self, dAdd_int, dSub_int, dLt_int, dLe_int, dGt_int, dGe_int, dNeg_int, dInt_bl, dInt_int, dEq_int, dNe_int, decide_true, decide_false, Bool.not_true, Bool.not_false, if_true, if_false, Bool.false_eq_true, ofS_eq, String.reduceEq, e_chain, r_chn, r_chmT, r_chmF, e_sl, e_oN, e_oS, r_opt, r_slc, e_mM0, r_mm0, e_mM1, r_mm1, e_enum, r_enmL, r_enmT, e_zip, r_zpLL, r_zpLT, r_zpTL, r_zpTT, e_rg1, dDiv_int, dMod_int, Int.reduceLT, m_is_sum_at, e1, e2, h1, h2, z1, sumB, dIsi, D.ty, isiB, String.reduceBEq, Bool.or_false, Bool.false_or, Bool.or_self, Bool.and_false, Bool.false_and, Bool.and_true, Bool.true_and, Bool.or_true, Bool.true_or, Bool.and_self]
        · simp only [e_run, e_seq, e_nil, e_brk, e_cnt, e_if, e_ret, e_retN, e_set, e_for, e_test, e_not, e_and, e_or, e_notV, e_andV, e_orV, e_ifE, e_m1, e_m2, e_c, e_var, e_varB, e_evN, e_evC, e_tup, e_lst, e_call, e_items, e_yes, r_seqN, r_seqR, r_seqB, r_seqC, r_seqE, r_seqS, r_bifT, r_bifF, r_bifE, r_ret, r_retE, r_put, r_putE, r_outR, r_outN, r_outE, r_ap2, r_bol, r_neg, r_bl, r_cons, r_getv, r_getb, r_tupl, r_lstl, r_loop, view_val, Res.bind_ok, Res.bind_err, Res.bind_stuck, Res.calm_ok, List.getElem?_cons_zero, List.getElem?_cons_succ, List.set_cons_zero, List.set_cons_succ, List.map_cons, List.map_nil, List.cons_append, List.nil_append, List.append_nil, List.length_cons, List.length_nil, List.replicate_succ, List.replicate_zero, Nat.reduceSub, Nat.reduceAdd, Nat.zero_add, Nat.sub_self, dAdd_int, dSub_int, dLt_int, dLe_int, dGt_int, dGe_int, dNeg_int, dInt_bl, dInt_int, dEq_int, dNe_int, decide_true, decide_false, Bool.not_true, Bool.not_false, if_true, if_false, Bool.false_eq_true, ofS_eq, String.reduceEq, e_chain, r_chn, r_chmT, r_chmF, e_sl, e_oN, e_oS, r_opt, r_slc, e_mM0, r_mm0, e_mM1, r_mm1, e_enum, r_enmL, r_enmT, e_zip, r_zpLL, r_zpLT, r_zpTL, r_zpTT, e_rg1, dDiv_int, dMod_int, Int.reduceLT, m_is_sum_at, e1, e2, h1, h2, z1, sumB, dIsi, D.ty, isiB, String.reduceBEq, Bool.or_false, Bool.false_or, Bool.or_self, Bool.and_false, Bool.false_and, Bool.and_true, Bool.true_and, Bool.or_true, Bool.true_or, Bool.and_self]
        · simp only [e_run, e_seq, e_nil, e_brk, e_cnt, e_if, e_ret, e_retN, e_set, e_for, e_test, e_not, e_and, e_or, e_notV, e_andV, e_orV, e_ifE, e_m1, e_m2, e_c, e_var, e_varB, e_evN, e_evC, e_tup, e_lst, e_call, e_items, e_yes, r_seqN, r_seqR, r_seqB, r_seqC, r_seqE, r_seqS, r_bifT, r_bifF, r_bifE, r_ret, r_retE, r_put, r_putE, r_outR, r_outN, r_outE, r_ap2, r_bol, r_neg, r_bl, r_cons, r_getv, r_getb, r_tupl, r_lstl, r_loop, view_val, Res.bind_ok, Res.bind_err, Res.bind_stuck, Res.calm_ok, List.getElem?_cons_zero, List.getElem?_cons_succ, List.set_cons_zero, List.set_cons_succ, List.map_cons, List.map_nil, List.cons_append, List.nil_append, List.append_nil, List.length_cons, List.length_nil, List.replicate_succ, List.replicate_zero, Nat.reduceSub, Nat.reduceAdd, Nat.zero_add, Nat.sub_self, dAdd_int, dSub_int, dLt_int, dLe_int, dGt_int, dGe_int, dNeg_int, dInt_bl, dInt_int, dEq_int, dNe_int, decide_true, decide_false, Bool.not_true, Bool.not_false, if_true, if_false, Bool.false_eq_true, ofS_eq, String.reduceEq, e_chain, r_chn, r_chmT, r_chmF, e_sl, e_oN, e_oS, r_opt, r_slc, e_mM0, r_mm0, e_mM1, r_mm1, e_enum, r_enmL, r_enmT, e_zip, r_zpLL, r_zpLT, r_zpTL, r_zpTT, e_rg1, dDiv_int, dMod_int, Int.reduceLT, m_is_sum_at, e1, e2, h1, h2, z1, sumB, dIsi, D.ty, isiB, String.reduceBEq, Bool.or_false, Bool.false_or, Bool.or_self, Bool.and_false, Bool.false_and, Bool.and_true, Bool.true_and, Bool.or_true, Bool.true_or, Bool.and_self]
        · rcases len3 xs with ⟨w, a, b, rfl⟩ | ⟨hl, hx⟩
          · have gw : gd m w = true := gd_tup h (by simp)
            have ea := ih k (gd_tup h (x := a) (by simp)) hm
            have eb := ih k (gd_tup h (x := b) (by simp)) hm
            have q1 : dNotIn w k_SUMS = .ok (.bl (!strIn wordsL w)) := dNotIn_w (ws := wordsL) gw hm (by decide +kernel)
            have i0 : dIx (.tup [w, a, b]) (.int 0) = .ok w := rfl
            have i1 : dIx (.tup [w, a, b]) (.int 1) = .ok a := rfl
            have i2 : dIx (.tup [w, a, b]) (.int 2) = .ok b := rfl
            have l3 : dLen (.tup [w, a, b]) = .ok (.int 3) := rfl
            rcases gd_ty gw with rfl | ⟨b', rfl⟩ | ⟨i, rfl⟩ | ⟨x, rfl, ox, lx⟩ | ⟨xs, rfl⟩ | ⟨xs, rfl⟩
            · simp only [e_run, e_seq, e_nil, e_brk, e_cnt, e_if, e_ret, e_retN, e_set, e_for, e_test, e_not, e_and, e_or, e_notV, e_andV, e_orV, e_ifE, e_m1, e_m2, e_c, e_var, e_varB, e_evN, e_evC, e_tup, e_lst, e_call, e_items, e_yes, r_seqN, r_seqR, r_seqB, r_seqC, r_seqE, r_seqS, r_bifT, r_bifF, r_bifE, r_ret, r_retE, r_put, r_putE, r_outR, r_outN, r_outE, r_ap2, r_bol, r_neg, r_bl, r_cons, r_getv, r_getb, r_tupl, r_lstl, r_loop, view_val, Res.bind_ok, Res.bind_err, Res.bind_stuck, Res.calm_ok, List.getElem?_cons_zero, List.getElem?_cons_succ, List.set_cons_zero, List.set_cons_succ, List.map_cons, List.map_nil, List.cons_append, List.nil_append, List.append_nil, List.length_cons, List.length_nil, List.replicate_succ, List.replicate_zero, Nat.reduceSub, Nat.reduceAdd, Nat.zero_add, Nat.sub_self, dAdd_int, dSub_int, dLt_int, dLe_int, dGt_int, dGe_int, dNeg_int, dInt_bl, dInt_int, dEq_int, dNe_int, decide_true, decide_false, Bool.not_true, Bool.not_false, if_true, if_false, Bool.false_eq_true, ofS_eq, String.reduceEq, e_chain, r_chn, r_chmT, r_chmF, e_sl, e_oN, e_oS, r_opt, r_slc, e_mM0, r_mm0, e_mM1, r_mm1, e_enum, r_enmL, r_enmT, e_zip, r_zpLL, r_zpLT, r_zpTL, r_zpTT, e_rg1, dDiv_int, dMod_int, Int.reduceLT, m_is_sum_at, e1, e2, h1, h2, z1, l3, i0, sumB, strIn, dIsi, D.ty, isiB, String.reduceBEq, Bool.or_false, Bool.false_or, Bool.or_self, Bool.and_false, Bool.false_and, Bool.and_true, Bool.true_and, Bool.or_true, Bool.true_or, Bool.and_self]
            · simp only [e_run, e_seq, e_nil, e_brk, e_cnt, e_if, e_ret, e_retN, e_set, e_for, e_test, e_not, e_and, e_or, e_notV, e_andV, e_orV, e_ifE, e_m1, e_m2, e_c, e_var, e_varB, e_evN, e_evC, e_tup, e_lst, e_call, e_items, e_yes, r_seqN, r_seqR, r_seqB, r_seqC, r_seqE, r_seqS, r_bifT, r_bifF, r_bifE, r_ret, r_retE, r_put, r_putE, r_outR, r_outN, r_outE, r_ap2, r_bol, r_neg, r_bl, r_cons, r_getv, r_getb, r_tupl, r_lstl, r_loop, view_val, Res.bind_ok, Res.bind_err, Res.bind_stuck, Res.calm_ok, List.getElem?_cons_zero, List.getElem?_cons_succ, List.set_cons_zero, List.set_cons_succ, List.map_cons, List.map_nil, List.cons_append, List.nil_append, List.append_nil, List.length_cons, List.length_nil, List.replicate_succ, List.replicate_zero, Nat.reduceSub, Nat.reduceAdd, Nat.zero_add, Nat.sub_self, dAdd_int, dSub_int, dLt_int, dLe_int, dGt_int, dGe_int, dNeg_int, dInt_bl, dInt_int, dEq_int, dNe_int, decide_true, decide_false, Bool.not_true, Bool.not_false, if_true, if_false, Bool.false_eq_true, ofS_eq, String.reduceEq, e_chain, r_chn, r_chmT, r_chmF, e_sl, e_oN, e_oS, r_opt, r_slc, e_mM0, r_mm0, e_mM1, r_mm1, e_enum, r_enmL, r_enmT, e_zip, r_zpLL, r_zpLT, r_zpTL, r_zpTT, e_rg1, dDiv_int, dMod_int, Int.reduceLT, m_is_sum_at, e1, e2, h1, h2, z1, l3, i0, sumB, strIn, dIsi, D.ty, isiB, String.reduceBEq, Bool.or_false, Bool.false_or, Bool.or_self, Bool.and_false, Bool.false_and, Bool.and_true, Bool.true_and, Bool.or_true, Bool.true_or, Bool.and_self]
            · simp only [e_run, e_seq, e_nil, e_brk, e_cnt, e_if, e_ret, e_retN, e_set, e_for, e_test, e_not, e_and, e_or, e_notV, e_andV, e_orV, e_ifE, e_m1, e_m2, e_c, e_var, e_varB, e_evN, e_evC, e_tup, e_lst, e_call, e_items, e_yes, r_seqN, r_seqR, r_seqB, r_seqC, r_seqE, r_seqS, r_bifT, r_bifF, r_bifE, r_ret, r_retE, r_put, r_putE, r_outR, r_outN, r_outE, r_ap2, r_bol, r_neg, r_bl, r_cons, r_getv, r_getb, r_tupl, r_lstl, r_loop, view_val, Res.bind_ok, Res.bind_err, Res.bind_stuck, Res.calm_ok, List.getElem?_cons_zero, List.getElem?_cons_succ, List.set_cons_zero, List.set_cons_succ, List.map_cons, List.map_nil, List.cons_append, List.nil_append, List.append_nil, List.length_cons, List.length_nil, List.replicate_succ, List.replicate_zero, Nat.reduceSub, Nat.reduceAdd, Nat.zero_add, Nat.sub_self, dAdd_int, dSub_int, dLt_int, dLe_int, dGt_int, dGe_int, dNeg_int, dInt_bl, dInt_int, dEq_int, dNe_int, decide_true, decide_false, Bool.not_true, Bool.not_false, if_true, if_false, Bool.false_eq_true, ofS_eq, String.reduceEq, e_chain, r_chn, r_chmT, r_chmF, e_sl, e_oN, e_oS, r_opt, r_slc, e_mM0, r_mm0, e_mM1, r_mm1, e_enum, r_enmL, r_enmT, e_zip, r_zpLL, r_zpLT, r_zpTL, r_zpTT, e_rg1, dDiv_int, dMod_int, Int.reduceLT, m_is_sum_at, e1, e2, h1, h2, z1, l3, i0, sumB, strIn, dIsi, D.ty, isiB, String.reduceBEq, Bool.or_false, Bool.false_or, Bool.or_self, Bool.and_false, Bool.false_and, Bool.and_true, Bool.true_and, Bool.or_true, Bool.true_or, Bool.and_self]
            · cases hs : strIn wordsL (.str x)
              · rw [hs] at q1; simp only [e_run, e_seq, e_nil, e_brk, e_cnt, e_if, e_ret, e_retN, e_set, e_for, e_test, e_not, e_and, e_or, e_notV, e_andV, e_orV, e_ifE, e_m1, e_m2, e_c, e_var, e_varB, e_evN, e_evC, e_tup, e_lst, e_call, e_items, e_yes, r_seqN, r_seqR, r_seqB, r_seqC, r_seqE, r_seqS, r_bifT, r_bifF, r_bifE, r_ret, r_retE, r_put, r_putE, r_outR, r_outN, r_outE, r_ap2, r_bol, r_neg, r_bl, r_cons, r_getv, r_getb, r_tupl, r_lstl, r_loop, view_val, Res.bind_ok, Res.bind_err, Res.bind_stuck, Res.calm_ok, List.getElem?_cons_zero, List.getElem?_cons_succ, List.set_cons_zero, List.set_cons_succ, List.map_cons, List.map_nil, List.cons_append, List.nil_append, List.append_nil, List.length_cons, List.length_nil, List.replicate_succ, List.replicate_zero, Nat.reduceSub, Nat.reduceAdd, Nat.zero_add, Nat.sub_self, dAdd_int, dSub_int, dLt_int, dLe_int, dGt_int, dGe_int, dNeg_int, dInt_bl, dInt_int, dEq_int, dNe_int, decide_true, decide_false, Bool.not_true, Bool.not_false, if_true, if_false, Bool.false_eq_true, ofS_eq, String.reduceEq, e_chain, r_chn, r_chmT, r_chmF, e_sl, e_oN, e_oS, r_opt, r_slc, e_mM0, r_mm0, e_mM1, r_mm1, e_enum, r_enmL, r_enmT, e_zip, r_zpLL, r_zpLT, r_zpTL, r_zpTT, e_rg1, dDiv_int, dMod_int, Int.reduceLT, m_is_sum_at, e1, e2, h1, h2, z1, l3, i0, q1, sumB, hs, dIsi, D.ty, isiB, String.reduceBEq, Bool.or_false, Bool.false_or, Bool.or_self, Bool.and_false, Bool.false_and, Bool.and_true, Bool.true_and, Bool.or_true, Bool.true_or, Bool.and_self]
              · rw [hs] at q1
                cases ha : sumB n a <;> rw [ha] at ea <;> simp only [e_run, e_seq, e_nil, e_brk, e_cnt, e_if, e_ret, e_retN, e_set, e_for, e_test, e_not, e_and, e_or, e_notV, e_andV, e_orV, e_ifE, e_m1, e_m2, e_c, e_var, e_varB, e_evN, e_evC, e_tup, e_lst, e_call, e_items, e_yes, r_seqN, r_seqR, r_seqB, r_seqC, r_seqE, r_seqS, r_bifT, r_bifF, r_bifE, r_ret, r_retE, r_put, r_putE, r_outR, r_outN, r_outE, r_ap2, r_bol, r_neg, r_bl, r_cons, r_getv, r_getb, r_tupl, r_lstl, r_loop, view_val, Res.bind_ok, Res.bind_err, Res.bind_stuck, Res.calm_ok, List.getElem?_cons_zero, List.getElem?_cons_succ, List.set_cons_zero, List.set_cons_succ, List.map_cons, List.map_nil, List.cons_append, List.nil_append, List.append_nil, List.length_cons, List.length_nil, List.replicate_succ, List.replicate_zero, Nat.reduceSub, Nat.reduceAdd, Nat.zero_add, Nat.sub_self, dAdd_int, dSub_int, dLt_int, dLe_int, dGt_int, dGe_int, dNeg_int, dInt_bl, dInt_int, dEq_int, dNe_int, decide_true, decide_false, Bool.not_true, Bool.not_false, if_true, if_false, Bool.false_eq_true, ofS_eq, String.reduceEq, e_chain, r_chn, r_chmT, r_chmF, e_sl, e_oN, e_oS, r_opt, r_slc, e_mM0, r_mm0, e_mM1, r_mm1, e_enum, r_enmL, r_enmT, e_zip, r_zpLL, r_zpLT, r_zpTL, r_zpTT, e_rg1, dDiv_int, dMod_int, Int.reduceLT, m_is_sum_at, e1, e2, h1, h2, z1, z2, l3, i0, i1, i2, q1, ea, eb, sumB, hs, ha, dIsi, D.ty, isiB, String.reduceBEq, Bool.or_false, Bool.false_or, Bool.or_self, Bool.and_false, Bool.false_and, Bool.and_true, Bool.true_and, Bool.or_true, Bool.true_or, Bool.and_self]
            · simp only [e_run, e_seq, e_nil, e_brk, e_cnt, e_if, e_ret, e_retN, e_set, e_for, e_test, e_not, e_and, e_or, e_notV, e_andV, e_orV, e_ifE, e_m1, e_m2, e_c, e_var, e_varB, e_evN, e_evC, e_tup, e_lst, e_call, e_items, e_yes, r_seqN, r_seqR, r_seqB, r_seqC, r_seqE, r_seqS, r_bifT, r_bifF, r_bifE, r_ret, r_retE, r_put, r_putE, r_outR, r_outN, r_outE, r_ap2, r_bol, r_neg, r_bl, r_cons, r_getv, r_getb, r_tupl, r_lstl, r_loop, view_val, Res.bind_ok, Res.bind_err, Res.bind_stuck, Res.calm_ok, List.getElem?_cons_zero, List.getElem?_cons_succ, List.set_cons_zero, List.set_cons_succ, List.map_cons, List.map_nil, List.cons_append, List.nil_append, List.append_nil, List.length_cons, List.length_nil, List.replicate_succ, List.replicate_zero, Nat.reduceSub, Nat.reduceAdd, Nat.zero_add, Nat.sub_self, dAdd_int, dSub_int, dLt_int, dLe_int, dGt_int, dGe_int, dNeg_int, dInt_bl, dInt_int, dEq_int, dNe_int, decide_true, decide_false, Bool.not_true, Bool.not_false, if_true, if_false, Bool.false_eq_true, ofS_eq, String.reduceEq, e_chain, r_chn, r_chmT, r_chmF, e_sl, e_oN, e_oS, r_opt, r_slc, e_mM0, r_mm0, e_mM1, r_mm1, e_enum, r_enmL, r_enmT, e_zip, r_zpLL, r_zpLT, r_zpTL, r_zpTT, e_rg1, dDiv_int, dMod_int, Int.reduceLT, m_is_sum_at, e1, e2, h1, h2, z1, l3, i0, sumB, strIn, dIsi, D.ty, isiB, String.reduceBEq, Bool.or_false, Bool.false_or, Bool.or_self, Bool.and_false, Bool.false_and, Bool.and_true, Bool.true_and, Bool.or_true, Bool.true_or, Bool.and_self]
            · simp only [e_run, e_seq, e_nil, e_brk, e_cnt, e_if, e_ret, e_retN, e_set, e_for, e_test, e_not, e_and, e_or, e_notV, e_andV, e_orV, e_ifE, e_m1, e_m2, e_c, e_var, e_varB, e_evN, e_evC, e_tup, e_lst, e_call, e_items, e_yes, r_seqN, r_seqR, r_seqB, r_seqC, r_seqE, r_seqS, r_bifT, r_bifF, r_bifE, r_ret, r_retE, r_put, r_putE, r_outR, r_outN, r_outE, r_ap2, r_bol, r_neg, r_bl, r_cons, r_getv, r_getb, r_tupl, r_lstl, r_loop, view_val, Res.bind_ok, Res.bind_err, Res.bind_stuck, Res.calm_ok, List.getElem?_cons_zero, List.getElem?_cons_succ, List.set_cons_zero, List.set_cons_succ, List.map_cons, List.map_nil, List.cons_append, List.nil_append, List.append_nil, List.length_cons, List.length_nil, List.replicate_succ, List.replicate_zero, Nat.reduceSub, Nat.reduceAdd, Nat.zero_add, Nat.sub_self, dAdd_int, dSub_int, dLt_int, dLe_int, dGt_int, dGe_int, dNeg_int, dInt_bl, dInt_int, dEq_int, dNe_int, decide_true, decide_false, Bool.not_true, Bool.not_false, if_true, if_false, Bool.false_eq_true, ofS_eq, String.reduceEq, e_chain, r_chn, r_chmT, r_chmF, e_sl, e_oN, e_oS, r_opt, r_slc, e_mM0, r_mm0, e_mM1, r_mm1, e_enum, r_enmL, r_enmT, e_zip, r_zpLL, r_zpLT, r_zpTL, r_zpTT, e_rg1, dDiv_int, dMod_int, Int.reduceLT, m_is_sum_at, e1, e2, h1, h2, z1, l3, i0, sumB, strIn, dIsi, D.ty, isiB, String.reduceBEq, Bool.or_false, Bool.false_or, Bool.or_self, Bool.and_false, Bool.false_and, Bool.and_true, Bool.true_and, Bool.or_true, Bool.true_or, Bool.and_self]
          · have l3 : dLen (.tup xs) = .ok (.int xs.length) := rfl
            rw [sumB_tup hx]
            simp only [e_run, e_seq, e_nil, e_brk, e_cnt, e_if, e_ret, e_retN, e_set, e_for, e_test, e_not, e_and, e_or, e_notV, e_andV, e_orV, e_ifE, e_m1, e_m2, e_c, e_var, e_varB, e_evN, e_evC, e_tup, e_lst, e_call, e_items, e_yes, r_seqN, r_seqR, r_seqB, r_seqC, r_seqE, r_seqS, r_bifT, r_bifF, r_bifE, r_ret, r_retE, r_put, r_putE, r_outR, r_outN, r_outE, r_ap2, r_bol, r_neg, r_bl, r_cons, r_getv, r_getb, r_tupl, r_lstl, r_loop, view_val, Res.bind_ok, Res.bind_err, Res.bind_stuck, Res.calm_ok, List.getElem?_cons_zero, List.getElem?_cons_succ, List.set_cons_zero, List.set_cons_succ, List.map_cons, List.map_nil, List.cons_append, List.nil_append, List.append_nil, List.length_cons, List.length_nil, List.replicate_succ, List.replicate_zero, Nat.reduceSub, Nat.reduceAdd, Nat.zero_add, Nat.sub_self, dAdd_int, dSub_int, dLt_int, dLe_int, dGt_int, dGe_int, dNeg_int, dInt_bl, dInt_int, dEq_int, dNe_int, decide_true, decide_false, Bool.not_true, Bool.not_false, if_true, if_false, Bool.false_eq_true, ofS_eq, String.reduceEq, e_chain, r_chn, r_chmT, r_chmF, e_sl, e_oN, e_oS, r_opt, r_slc, e_mM0, r_mm0, e_mM1, r_mm1, e_enum, r_enmL, r_enmT, e_zip, r_zpLL, r_zpLT, r_zpTL, r_zpTT, e_rg1, dDiv_int, dMod_int, Int.reduceLT, m_is_sum_at, e1, e2, h1, h2, z1, l3, hl, dIsi, D.ty, isiB, String.reduceBEq, Bool.or_false, Bool.false_or, Bool.or_self, Bool.and_false, Bool.false_and, Bool.and_true, Bool.true_and, Bool.or_true, Bool.true_or, Bool.and_self]
        · simp only [e_run, e_seq, e_nil, e_brk, e_cnt, e_if, e_ret, e_retN, e_set, e_for, e_test, e_not, e_and, e_or, e_notV, e_andV, e_orV, e_ifE, e_m1, e_m2, e_c, e_var, e_varB, e_evN, e_evC, e_tup, e_lst, e_call, e_items, e_yes, r_seqN, r_seqR, r_seqB, r_seqC, r_seqE, r_seqS, r_bifT, r_bifF, r_bifE, r_ret, r_retE, r_put, r_putE, r_outR, r_outN, r_outE, r_ap2, r_bol, r_neg, r_bl, r_cons, r_getv, r_getb, r_tupl, r_lstl, r_loop, view_val, Res.bind_ok, Res.bind_err, Res.bind_stuck, Res.calm_ok, List.getElem?_cons_zero, List.getElem?_cons_succ, List.set_cons_zero, List.set_cons_succ, List.map_cons, List.map_nil, List.cons_append, List.nil_append, List.append_nil, List.length_cons, List.length_nil, List.replicate_succ, List.replicate_zero, Nat.reduceSub, Nat.reduceAdd, Nat.zero_add, Nat.sub_self, dAdd_int, dSub_int, dLt_int, dLe_int, dGt_int, dGe_int, dNeg_int, dInt_bl, dInt_int, dEq_int, dNe_int, decide_true, decide_false, Bool.not_true, Bool.not_false, if_true, if_false, Bool.false_eq_true, ofS_eq, String.reduceEq, e_chain, r_chn, r_chmT, r_chmF, e_sl, e_oN, e_oS, r_opt, r_slc, e_mM0, r_mm0, e_mM1, r_mm1, e_enum, r_enmL, r_enmT, e_zip, r_zpLL, r_zpLT, r_zpTL, r_zpTT, e_rg1, dDiv_int, dMod_int, Int.reduceLT, m_is_sum_at, e1, e2, h1, h2, z1, sumB, dIsi, D.ty, isiB, String.reduceBEq, Bool.or_false, Bool.false_or, Bool.or_self, Bool.and_false, Bool.false_and, Bool.and_true, Bool.true_and, Bool.or_true, Bool.true_or, Bool.and_self]
      · simp only [e_run, e_seq, e_nil, e_brk, e_cnt, e_if, e_ret, e_retN, e_set, e_for, e_test, e_not, e_and, e_or, e_notV, e_andV, e_orV, e_ifE, e_m1, e_m2, e_c, e_var, e_varB, e_evN, e_evC, e_tup, e_lst, e_call, e_items, e_yes, r_seqN, r_seqR, r_seqB, r_seqC, r_seqE, r_seqS, r_bifT, r_bifF, r_bifE, r_ret, r_retE, r_put, r_putE, r_outR, r_outN, r_outE, r_ap2, r_bol, r_neg, r_bl, r_cons, r_getv, r_getb, r_tupl, r_lstl, r_loop, view_val, Res.bind_ok, Res.bind_err, Res.bind_stuck, Res.calm_ok, List.getElem?_cons_zero, List.getElem?_cons_succ, List.set_cons_zero, List.set_cons_succ, List.map_cons, List.map_nil, List.cons_append, List.nil_append, List.append_nil, List.length_cons, List.length_nil, List.replicate_succ, List.replicate_zero, Nat.reduceSub, Nat.reduceAdd, Nat.zero_add, Nat.sub_self, dAdd_int, dSub_int, dLt_int, dLe_int, dGt_int, dGe_int, dNeg_int, dInt_bl, dInt_int, dEq_int, dNe_int, decide_true, decide_false, Bool.not_true, Bool.not_false, if_true, if_false, Bool.false_eq_true, ofS_eq, String.reduceEq, e_chain, r_chn, r_chmT, r_chmF, e_sl, e_oN, e_oS, r_opt, r_slc, e_mM0, r_mm0, e_mM1, r_mm1, e_enum, r_enmL, r_enmT, e_zip, r_zpLL, r_zpLT, r_zpTL, r_zpTT, e_rg1, dDiv_int, dMod_int, Int.reduceLT, m_is_sum_at, e1, e2, h1, h2, sumB, dIsi, D.ty, isiB, String.reduceBEq, Bool.or_false, Bool.false_or, Bool.or_self, Bool.and_false, Bool.false_and, Bool.and_true, Bool.true_and, Bool.or_true, Bool.true_or, Bool.and_self]
    · simp only [e_run, e_seq, e_nil, e_brk, e_cnt, e_if, e_ret, e_retN, e_set, e_for, e_test, e_not, e_and, e_or, e_notV, e_andV, e_orV, e_ifE, e_m1, e_m2, e_c, e_var, e_varB, e_evN, e_evC, e_tup, e_lst, e_call, e_items, e_yes, r_seqN, r_seqR, r_seqB, r_seqC, r_seqE, r_seqS, r_bifT, r_bifF, r_bifE, r_ret, r_retE, r_put, r_putE, r_outR, r_outN, r_outE, r_ap2, r_bol, r_neg, r_bl, r_cons, r_getv, r_getb, r_tupl, r_lstl, r_loop, view_val, Res.bind_ok, Res.bind_err, Res.bind_stuck, Res.calm_ok, List.getElem?_cons_zero, List.getElem?_cons_succ, List.set_cons_zero, List.set_cons_succ, List.map_cons, List.map_nil, List.cons_append, List.nil_append, List.append_nil, List.length_cons, List.length_nil, List.replicate_succ, List.replicate_zero, Nat.reduceSub, Nat.reduceAdd, Nat.zero_add, Nat.sub_self, dAdd_int, dSub_int, dLt_int, dLe_int, dGt_int, dGe_int, dNeg_int, dInt_bl, dInt_int, dEq_int, dNe_int, decide_true, decide_false, Bool.not_true, Bool.not_false, if_true, if_false, Bool.false_eq_true, ofS_eq, String.reduceEq, e_chain, r_chn, r_chmT, r_chmF, e_sl, e_oN, e_oS, r_opt, r_slc, e_mM0, r_mm0, e_mM1, r_mm1, e_enum, r_enmL, r_enmT, e_zip, r_zpLL, r_zpLT, r_zpTL, r_zpTT, e_rg1, dDiv_int, dMod_int, Int.reduceLT, m_is_sum_at, e1, e2, h1, sumB, dIsi, D.ty, isiB, String.reduceBEq, Bool.or_false, Bool.false_or, Bool.or_self, Bool.and_false, Bool.false_and, Bool.and_true, Bool.true_and, Bool.or_true, Bool.true_or, Bool.and_self]
theorem L_sum : ∀ (n : Nat) (k : Nat) {m : Nat} {d : D}, gd m d = true → m ≤ 64 → callF (k + n + 2) ._law_is_sum [d, .int n] = .ok (.bl (sumB n d)) := by
  intro n
  induction n with
  | zero =>
    intro k m d h hm
    show runM 2 (m__law_is_sum (callF (k + 1))) _ = _
    have e1 : callF (k + 1) ._law_whole [d, .int (-50), .int 50] = _ := L_whole k h (-50) 50
    have e2 : callF (k + 1) ._law_is_name [d] = _ := L_name k h
    cases h1 : wholeB (-50) 50 d
    · cases h2 : nameB d <;> simp only [e_run, e_seq, e_nil, e_brk, e_cnt, e_if, e_ret, e_retN, e_set, e_for, e_test, e_not, e_and, e_or, e_notV, e_andV, e_orV, e_ifE, e_m1, e_m2, e_c, e_var, e_varB, e_evN, e_evC, e_tup, e_lst, e_call, e_items, e_yes, r_seqN, r_seqR, r_seqB, r_seqC, r_seqE, r_seqS, r_bifT, r_bifF, r_bifE, r_ret, r_retE, r_put, r_putE, r_outR, r_outN, r_outE, r_ap2, r_bol, r_neg, r_bl, r_cons, r_getv, r_getb, r_tupl, r_lstl, r_loop, view_val, Res.bind_ok, Res.bind_err, Res.bind_stuck, Res.calm_ok, List.getElem?_cons_zero, List.getElem?_cons_succ, List.set_cons_zero, List.set_cons_succ, List.map_cons, List.map_nil, List.cons_append, List.nil_append, List.append_nil, List.length_cons, List.length_nil, List.replicate_succ, List.replicate_zero, Nat.reduceSub, Nat.reduceAdd, Nat.zero_add, Nat.sub_self, dAdd_int, dSub_int, dLt_int, dLe_int, dGt_int, dGe_int, dNeg_int, dInt_bl, dInt_int, dEq_int, dNe_int, decide_true, decide_false, Bool.not_true, Bool.not_false, if_true, if_false, Bool.false_eq_true, ofS_eq, String.reduceEq, e_chain, r_chn, r_chmT, r_chmF, e_sl, e_oN, e_oS, r_opt, r_slc, e_mM0, r_mm0, e_mM1, r_mm1, e_enum, r_enmL, r_enmT, e_zip, r_zpLL, r_zpLT, r_zpTL, r_zpTT, e_rg1, dDiv_int, dMod_int, Int.reduceLT, m__law_is_sum, e1, e2, h1, h2, sumB, Int.natCast_zero, dIsi, D.ty, isiB, String.reduceBEq, Bool.or_false, Bool.false_or, Bool.or_self, Bool.and_false, Bool.false_and, Bool.and_true, Bool.true_and, Bool.or_true, Bool.true_or, Bool.and_self]
    · simp only [e_run, e_seq, e_nil, e_brk, e_cnt, e_if, e_ret, e_retN, e_set, e_for, e_test, e_not, e_and, e_or, e_notV, e_andV, e_orV, e_ifE, e_m1, e_m2, e_c, e_var, e_varB, e_evN, e_evC, e_tup, e_lst, e_call, e_items, e_yes, r_seqN, r_seqR, r_seqB, r_seqC, r_seqE, r_seqS, r_bifT, r_bifF, r_bifE, r_ret, r_retE, r_put, r_putE, r_outR, r_outN, r_outE, r_ap2, r_bol, r_neg, r_bl, r_cons, r_getv, r_getb, r_tupl, r_lstl, r_loop, view_val, Res.bind_ok, Res.bind_err, Res.bind_stuck, Res.calm_ok, List.getElem?_cons_zero, List.getElem?_cons_succ, List.set_cons_zero, List.set_cons_succ, List.map_cons, List.map_nil, List.cons_append, List.nil_append, List.append_nil, List.length_cons, List.length_nil, List.replicate_succ, List.replicate_zero, Nat.reduceSub, Nat.reduceAdd, Nat.zero_add, Nat.sub_self, dAdd_int, dSub_int, dLt_int, dLe_int, dGt_int, dGe_int, dNeg_int, dInt_bl, dInt_int, dEq_int, dNe_int, decide_true, decide_false, Bool.not_true, Bool.not_false, if_true, if_false, Bool.false_eq_true, ofS_eq, String.reduceEq, e_chain, r_chn, r_chmT, r_chmF, e_sl, e_oN, e_oS, r_opt, r_slc, e_mM0, r_mm0, e_mM1, r_mm1, e_enum, r_enmL, r_enmT, e_zip, r_zpLL, r_zpLT, r_zpTL, r_zpTT, e_rg1, dDiv_int, dMod_int, Int.reduceLT, m__law_is_sum, e1, e2, h1, sumB, dIsi, D.ty, isiB, String.reduceBEq, Bool.or_false, Bool.false_or, Bool.or_self, Bool.and_false, Bool.false_and, Bool.and_true, Bool.true_and, Bool.or_true, Bool.true_or, Bool.and_self]
  | succ n ih =>
    intro k m d h hm
    show runM 2 (m__law_is_sum (callF (k + n + 2))) _ = _
    have e1 : callF (k + n + 2) ._law_whole [d, .int (-50), .int 50] = _ := L_whole (k + n + 1) h (-50) 50
    have e2 : callF (k + n + 2) ._law_is_name [d] = _ := L_name (k + n + 1) h
    have z1 : ¬ ((n + 1 : Nat) : Int) = 0 := by omega
    have z2 : ((n + 1 : Nat) : Int) - 1 = n := by omega
    cases h1 : wholeB (-50) 50 d
    · cases h2 : nameB d
      · rcases gd_ty h with rfl | ⟨b, rfl⟩ | ⟨i, rfl⟩ | ⟨x, rfl, ox, lx⟩ | ⟨xs, rfl⟩ | ⟨xs, rfl⟩
        · simp only [e_run, e_seq, e_nil, e_brk, e_cnt, e_if, e_ret, e_retN, e_set, e_for, e_test, e_not, e_and, e_or, e_notV, e_andV, e_orV, e_ifE, e_m1, e_m2, e_c, e_var, e_varB, e_evN, e_evC, e_tup, e_lst, e_call, e_items, e_yes, r_seqN, r_seqR, r_seqB, r_seqC, r_seqE, r_seqS, r_bifT, r_bifF, r_bifE, r_ret, r_retE, r_put, r_putE, r_outR, r_outN, r_outE, r_ap2, r_bol, r_neg, r_bl, r_cons, r_getv, r_getb, r_tupl, r_lstl, r_loop, view_val, Res.bind_ok, Res.bind_err, Res.bind_stuck, Res.calm_ok, List.getElem?_cons_zero, List.getElem?_cons_succ, List.set_cons_zero, List.set_cons_succ, List.map_cons, List.map_nil, List.cons_append, List.nil_append, List.append_nil, List.length_cons, List.length_nil, List.replicate_succ, List.replicate_zero, Nat.reduceSub, Nat.reduceAdd, Nat.zero_add, Nat.sub_self, dAdd_int, dSub_int, dLt_int, dLe_int, dGt_int, dGe_int, dNeg_int, dInt_bl, dInt_int, dEq_int, dNe_int, decide_true, decide_false, Bool.not_true, Bool.not_false, if_true, if_false, Bool.false_eq_true, ofS_eq, String.reduceEq, e_chain, r_chn, r_chmT, r_chmF, e_sl, e_oN, e_oS, r_opt, r_slc, e_mM0, r_mm0, e_mM1, r_mm1, e_enum, r_enmL, r_enmT, e_zip, r_zpLL, r_zpLT, r_zpTL, r_zpTT, e_rg1, dDiv_int, dMod_int, Int.reduceLT, m__law_is_sum, e1, e2, h1, h2, z1, sumB, dIsi, D.ty, isiB, String.reduceBEq, Bool.or_false, Bool.false_or, Bool.or_self, Bool.and_false, Bool.false_and, Bool.and_true, Bool.true_and, Bool.or_true, Bool.true_or, Bool.and_self]
        · simp only [e_run, e_seq, e_nil, e_brk, e_cnt, e_if, e_ret, e_retN, e_set, e_for, e_test, e_not, e_and, e_or, e_notV, e_andV, e_orV, e_ifE, e_m1, e_m2, e_c, e_var, e_varB, e_evN, e_evC, e_tup, e_lst, e_call, e_items, e_yes, r_seqN, r_seqR, r_seqB, r_seqC, r_seqE, r_seqS, r_bifT, r_bifF, r_bifE, r_ret, r_retE, r_put, r_putE, r_outR, r_outN, r_outE, r_ap2, r_bol, r_neg, r_bl, r_cons, r_getv, r_getb, r_tupl, r_lstl, r_loop, view_val, Res.bind_ok, Res.bind_err, Res.bind_stuck, Res.calm_ok, List.getElem?_cons_zero, List.getElem?_cons_succ, List.set_cons_zero, List.set_cons_succ, List.map_cons, List.map_nil, List.cons_append, List.nil_append, List.append_nil, List.length_cons, List.length_nil, List.replicate_succ, List.replicate_zero, Nat.reduceSub, Nat.reduceAdd, Nat.zero_add, Nat.sub_self, dAdd_int, dSub_int, dLt_int, dLe_int, dGt_int, dGe_int, dNeg_int, dInt_bl, dInt_int, dEq_int, dNe_int, decide_true, decide_false, Bool.not_true, Bool.not_false, if_true, if_false, Bool.false_eq_true, ofS_eq, String.reduceEq, e_chain, r_chn, r_chmT, r_chmF, e_sl, e_oN, e_oS, r_opt, r_slc, e_mM0, r_mm0, e_mM1, r_mm1, e_enum, r_enmL, r_enmT, e_zip, r_zpLL, r_zpLT, r_zpTL, r_zpTT, e_rg1, dDiv_int, dMod_int, Int.reduceLT, m__law_is_sum, e1, e2, h1, h2, z1, sumB, dIsi, D.ty, isiB, String.reduceBEq, Bool.or_false, Bool.false_or, Bool.or_self, Bool.and_false, Bool.false_and, Bool.and_true, Bool.true_and, Bool.or_true, Bool.true_or, Bool.and_self]
        · simp only [e_run, e_seq, e_nil, e_brk, e_cnt, e_if, e_ret, e_retN, e_set, e_for, e_test, e_not, e_and, e_or, e_notV, e_andV, e_orV, e_ifE, e_m1, e_m2, e_c, e_var, e_varB, e_evN, e_evC, e_tup, e_lst, e_call, e_items, e_yes, r_seqN, r_seqR, r_seqB, r_seqC, r_seqE, r_seqS, r_bifT, r_bifF, r_bifE, r_ret, r_retE, r_put, r_putE, r_outR, r_outN, r_outE, r_ap2, r_bol, r_neg, r_bl, r_cons, r_getv, r_getb, r_tupl, r_lstl, r_loop, view_val, Res.bind_ok, Res.bind_err, Res.bind_stuck, Res.calm_ok, List.getElem?_cons_zero, List.getElem?_cons_succ, List.set_cons_zero, List.set_cons_succ, List.map_cons, List.map_nil, List.cons_append, List.nil_append, List.append_nil, List.length_cons, List.length_nil, List.replicate_succ, List.replicate_zero, Nat.reduceSub, Nat.reduceAdd, Nat.zero_add, Nat.sub_self, dAdd_int, dSub_int, dLt_int, dLe_int, dGt_int, dGe_int, dNeg_int, dInt_bl, dInt_int, dEq_int, dNe_int, decide_true, decide_false, Bool.not_true, Bool.not_false, if_true, if_false, Bool.false_eq_true, ofS_eq, String.reduceEq, e_chain, r_chn, r_chmT, r_chmF, e_sl, e_oN, e_oS, r_opt, r_slc, e_mM0, r_mm0, e_mM1, r_mm1, e_enum, r_enmL, r_enmT, e_zip, r_zpLL, r_zpLT, r_zpTL, r_zpTT, e_rg1, dDiv_int, dMod_int, Int.reduceLT, m__law_is_sum, e1, e2, h1, h2, z1, sumB, dIsi, D.ty, isiB, String.reduceBEq, Bool.or_false, Bool.false_or, Bool.or_self, Bool.and_false, Bool.false_and, Bool.and_true, Bool.true_and, Bool.or_true, Bool.true_or, Bool.and_self]
        · simp only [e_run, e_seq, e_nil, e_brk, e_cnt, e_if, e_ret, e_retN, e_set, e_for, e_test, e_not, e_and, e_or, e_notV, e_andV, e_orV, e_ifE, e_m1, e_m2, e_c, e_var, e_varB, e_evN, e_evC, e_tup, e_lst, e_call, e_items, e_yes, r_seqN, r_seqR, r_seqB, r_seqC, r_seqE, r_seqS, r_bifT, r_bifF, r_bifE, r_ret, r_retE, r_put, r_putE, r_outR, r_outN, r_outE, r_ap2, r_bol, r_neg, r_bl, r_cons, r_getv, r_getb, r_tupl, r_lstl, r_loop, view_val, Res.bind_ok, Res.bind_err, Res.bind_stuck, Res.calm_ok, List.getElem?_cons_zero, List.getElem?_cons_succ, List.set_cons_zero, List.set_cons_succ, List.map_cons, List.map_nil, List.cons_append, List.nil_append, List.append_nil, List.length_cons, List.length_nil, List.replicate_succ, List.replicate_zero, Nat.reduceSub, Nat.reduceAdd, Nat.zero_add, Nat.sub_self, dAdd_int, dSub_int, dLt_int, dLe_int, dGt_int, dGe_int, dNeg_int, dInt_bl, dInt_int, dEq_int, dNe_int, decide_true, decide_false, Bool.not_true, Bool.not_false, if_true, if_false, Bool.false_eq_true, ofS_eq, String.reduceEq, e_chain, r_chn, r_chmT, r_chmF, e_sl, e_oN, e_oS, r_opt, r_slc, e_mM0, r_mm0, e_mM1, r_mm1, e_enum, r_enmL, r_enmT, e_zip, r_zpLL, r_zpLT, r_zpTL, r_zpTT, e_rg1, dDiv_int, dMod_int, Int.reduceLT, m__law_is_sum, e1, e2, h1, h2, z1, sumB, dIsi, D.ty, isiB, String.reduceBEq, Bool.or_false, Bool.false_or, Bool.or_self, Bool.and_false, Bool.false_and, Bool.and_true, Bool.true_and, Bool.or_true, Bool.true_or, Bool.and_self]
        · rcases len3 xs with ⟨w, a, b, rfl⟩ | ⟨hl, hx⟩
          · have gw : gd m w = true := gd_tup h (by simp)
            have ea := ih k (gd_tup h (x := a) (by simp)) hm
            have eb := ih k (gd_tup h (x := b) (by simp)) hm
            have q1 : dNotIn w (.tup [.str "plus", .str "less", .str "times", .str "under", .str "alike"]) = .ok (.bl (!strIn wordsL w)) := dNotIn_w (ws := wordsL) gw hm (by decide +kernel)
            have i0 : dIx (.tup [w, a, b]) (.int 0) = .ok w := rfl
            have i1 : dIx (.tup [w, a, b]) (.int 1) = .ok a := rfl
            have i2 : dIx (.tup [w, a, b]) (.int 2) = .ok b := rfl
            have l3 : dLen (.tup [w, a, b]) = .ok (.int 3) := rfl
            cases hs : strIn wordsL w
            · rw [hs] at q1; simp only [e_run, e_seq, e_nil, e_brk, e_cnt, e_if, e_ret, e_retN, e_set, e_for, e_test, e_not, e_and, e_or, e_notV, e_andV, e_orV, e_ifE, e_m1, e_m2, e_c, e_var, e_varB, e_evN, e_evC, e_tup, e_lst, e_call, e_items, e_yes, r_seqN, r_seqR, r_seqB, r_seqC, r_seqE, r_seqS, r_bifT, r_bifF, r_bifE, r_ret, r_retE, r_put, r_putE, r_outR, r_outN, r_outE, r_ap2, r_bol, r_neg, r_bl, r_cons, r_getv, r_getb, r_tupl, r_lstl, r_loop, view_val, Res.bind_ok, Res.bind_err, Res.bind_stuck, Res.calm_ok, List.getElem?_cons_zero, List.getElem?_cons_succ, List.set_cons_zero, List.set_cons_succ, List.map_cons, List.map_nil, List.cons_append, List.nil_append, List.append_nil, List.length_cons, List.length_nil, List.replicate_succ, List.replicate_zero, Nat.reduceSub, Nat.reduceAdd, Nat.zero_add, Nat.sub_self, dAdd_int, dSub_int, dLt_int, dLe_int, dGt_int, dGe_int, dNeg_int, dInt_bl, dInt_int, dEq_int, dNe_int, decide_true, decide_false, Bool.not_true, Bool.not_false, if_true, if_false, Bool.false_eq_true, ofS_eq, String.reduceEq, e_chain, r_chn, r_chmT, r_chmF, e_sl, e_oN, e_oS, r_opt, r_slc, e_mM0, r_mm0, e_mM1, r_mm1, e_enum, r_enmL, r_enmT, e_zip, r_zpLL, r_zpLT, r_zpTL, r_zpTT, e_rg1, dDiv_int, dMod_int, Int.reduceLT, m__law_is_sum, e1, e2, h1, h2, z1, l3, i0, q1, sumB, hs, dIsi, D.ty, isiB, String.reduceBEq, Bool.or_false, Bool.false_or, Bool.or_self, Bool.and_false, Bool.false_and, Bool.and_true, Bool.true_and, Bool.or_true, Bool.true_or, Bool.and_self]
            · rw [hs] at q1
              cases ha : sumB n a <;> rw [ha] at ea <;> simp only [e_run, e_seq, e_nil, e_brk, e_cnt, e_if, e_ret, e_retN, e_set, e_for, e_test, e_not, e_and, e_or, e_notV, e_andV, e_orV, e_ifE, e_m1, e_m2, e_c, e_var, e_varB, e_evN, e_evC, e_tup, e_lst, e_call, e_items, e_yes, r_seqN, r_seqR, r_seqB, r_seqC, r_seqE, r_seqS, r_bifT, r_bifF, r_bifE, r_ret, r_retE, r_put, r_putE, r_outR, r_outN, r_outE, r_ap2, r_bol, r_neg, r_bl, r_cons, r_getv, r_getb, r_tupl, r_lstl, r_loop, view_val, Res.bind_ok, Res.bind_err, Res.bind_stuck, Res.calm_ok, List.getElem?_cons_zero, List.getElem?_cons_succ, List.set_cons_zero, List.set_cons_succ, List.map_cons, List.map_nil, List.cons_append, List.nil_append, List.append_nil, List.length_cons, List.length_nil, List.replicate_succ, List.replicate_zero, Nat.reduceSub, Nat.reduceAdd, Nat.zero_add, Nat.sub_self, dAdd_int, dSub_int, dLt_int, dLe_int, dGt_int, dGe_int, dNeg_int, dInt_bl, dInt_int, dEq_int, dNe_int, decide_true, decide_false, Bool.not_true, Bool.not_false, if_true, if_false, Bool.false_eq_true, ofS_eq, String.reduceEq, e_chain, r_chn, r_chmT, r_chmF, e_sl, e_oN, e_oS, r_opt, r_slc, e_mM0, r_mm0, e_mM1, r_mm1, e_enum, r_enmL, r_enmT, e_zip, r_zpLL, r_zpLT, r_zpTL, r_zpTT, e_rg1, dDiv_int, dMod_int, Int.reduceLT, m__law_is_sum, e1, e2, h1, h2, z1, z2, l3, i0, i1, i2, q1, ea, eb, sumB, hs, ha, dIsi, D.ty, isiB, String.reduceBEq, Bool.or_false, Bool.false_or, Bool.or_self, Bool.and_false, Bool.false_and, Bool.and_true, Bool.true_and, Bool.or_true, Bool.true_or, Bool.and_self]
          · have l3 : dLen (.tup xs) = .ok (.int xs.length) := rfl
            rw [sumB_tup hx]
            simp only [e_run, e_seq, e_nil, e_brk, e_cnt, e_if, e_ret, e_retN, e_set, e_for, e_test, e_not, e_and, e_or, e_notV, e_andV, e_orV, e_ifE, e_m1, e_m2, e_c, e_var, e_varB, e_evN, e_evC, e_tup, e_lst, e_call, e_items, e_yes, r_seqN, r_seqR, r_seqB, r_seqC, r_seqE, r_seqS, r_bifT, r_bifF, r_bifE, r_ret, r_retE, r_put, r_putE, r_outR, r_outN, r_outE, r_ap2, r_bol, r_neg, r_bl, r_cons, r_getv, r_getb, r_tupl, r_lstl, r_loop, view_val, Res.bind_ok, Res.bind_err, Res.bind_stuck, Res.calm_ok, List.getElem?_cons_zero, List.getElem?_cons_succ, List.set_cons_zero, List.set_cons_succ, List.map_cons, List.map_nil, List.cons_append, List.nil_append, List.append_nil, List.length_cons, List.length_nil, List.replicate_succ, List.replicate_zero, Nat.reduceSub, Nat.reduceAdd, Nat.zero_add, Nat.sub_self, dAdd_int, dSub_int, dLt_int, dLe_int, dGt_int, dGe_int, dNeg_int, dInt_bl, dInt_int, dEq_int, dNe_int, decide_true, decide_false, Bool.not_true, Bool.not_false, if_true, if_false, Bool.false_eq_true, ofS_eq, String.reduceEq, e_chain, r_chn, r_chmT, r_chmF, e_sl, e_oN, e_oS, r_opt, r_slc, e_mM0, r_mm0, e_mM1, r_mm1, e_enum, r_enmL, r_enmT, e_zip, r_zpLL, r_zpLT, r_zpTL, r_zpTT, e_rg1, dDiv_int, dMod_int, Int.reduceLT, m__law_is_sum, e1, e2, h1, h2, z1, l3, hl, dIsi, D.ty, isiB, String.reduceBEq, Bool.or_false, Bool.false_or, Bool.or_self, Bool.and_false, Bool.false_and, Bool.and_true, Bool.true_and, Bool.or_true, Bool.true_or, Bool.and_self]
        · simp only [e_run, e_seq, e_nil, e_brk, e_cnt, e_if, e_ret, e_retN, e_set, e_for, e_test, e_not, e_and, e_or, e_notV, e_andV, e_orV, e_ifE, e_m1, e_m2, e_c, e_var, e_varB, e_evN, e_evC, e_tup, e_lst, e_call, e_items, e_yes, r_seqN, r_seqR, r_seqB, r_seqC, r_seqE, r_seqS, r_bifT, r_bifF, r_bifE, r_ret, r_retE, r_put, r_putE, r_outR, r_outN, r_outE, r_ap2, r_bol, r_neg, r_bl, r_cons, r_getv, r_getb, r_tupl, r_lstl, r_loop, view_val, Res.bind_ok, Res.bind_err, Res.bind_stuck, Res.calm_ok, List.getElem?_cons_zero, List.getElem?_cons_succ, List.set_cons_zero, List.set_cons_succ, List.map_cons, List.map_nil, List.cons_append, List.nil_append, List.append_nil, List.length_cons, List.length_nil, List.replicate_succ, List.replicate_zero, Nat.reduceSub, Nat.reduceAdd, Nat.zero_add, Nat.sub_self, dAdd_int, dSub_int, dLt_int, dLe_int, dGt_int, dGe_int, dNeg_int, dInt_bl, dInt_int, dEq_int, dNe_int, decide_true, decide_false, Bool.not_true, Bool.not_false, if_true, if_false, Bool.false_eq_true, ofS_eq, String.reduceEq, e_chain, r_chn, r_chmT, r_chmF, e_sl, e_oN, e_oS, r_opt, r_slc, e_mM0, r_mm0, e_mM1, r_mm1, e_enum, r_enmL, r_enmT, e_zip, r_zpLL, r_zpLT, r_zpTL, r_zpTT, e_rg1, dDiv_int, dMod_int, Int.reduceLT, m__law_is_sum, e1, e2, h1, h2, z1, sumB, dIsi, D.ty, isiB, String.reduceBEq, Bool.or_false, Bool.false_or, Bool.or_self, Bool.and_false, Bool.false_and, Bool.and_true, Bool.true_and, Bool.or_true, Bool.true_or, Bool.and_self]
      · simp only [e_run, e_seq, e_nil, e_brk, e_cnt, e_if, e_ret, e_retN, e_set, e_for, e_test, e_not, e_and, e_or, e_notV, e_andV, e_orV, e_ifE, e_m1, e_m2, e_c, e_var, e_varB, e_evN, e_evC, e_tup, e_lst, e_call, e_items, e_yes, r_seqN, r_seqR, r_seqB, r_seqC, r_seqE, r_seqS, r_bifT, r_bifF, r_bifE, r_ret, r_retE, r_put, r_putE, r_outR, r_outN, r_outE, r_ap2, r_bol, r_neg, r_bl, r_cons, r_getv, r_getb, r_tupl, r_lstl, r_loop, view_val, Res.bind_ok, Res.bind_err, Res.bind_stuck, Res.calm_ok, List.getElem?_cons_zero, List.getElem?_cons_succ, List.set_cons_zero, List.set_cons_succ, List.map_cons, List.map_nil, List.cons_append, List.nil_append, List.append_nil, List.length_cons, List.length_nil, List.replicate_succ, List.replicate_zero, Nat.reduceSub, Nat.reduceAdd, Nat.zero_add, Nat.sub_self, dAdd_int, dSub_int, dLt_int, dLe_int, dGt_int, dGe_int, dNeg_int, dInt_bl, dInt_int, dEq_int, dNe_int, decide_true, decide_false, Bool.not_true, Bool.not_false, if_true, if_false, Bool.false_eq_true, ofS_eq, String.reduceEq, e_chain, r_chn, r_chmT, r_chmF, e_sl, e_oN, e_oS, r_opt, r_slc, e_mM0, r_mm0, e_mM1, r_mm1, e_enum, r_enmL, r_enmT, e_zip, r_zpLL, r_zpLT, r_zpTL, r_zpTT, e_rg1, dDiv_int, dMod_int, Int.reduceLT, m__law_is_sum, e1, e2, h1, h2, sumB, dIsi, D.ty, isiB, String.reduceBEq, Bool.or_false, Bool.false_or, Bool.or_self, Bool.and_false, Bool.false_and, Bool.and_true, Bool.true_and, Bool.or_true, Bool.true_or, Bool.and_self]
    · simp only [e_run, e_seq, e_nil, e_brk, e_cnt, e_if, e_ret, e_retN, e_set, e_for, e_test, e_not, e_and, e_or, e_notV, e_andV, e_orV, e_ifE, e_m1, e_m2, e_c, e_var, e_varB, e_evN, e_evC, e_tup, e_lst, e_call, e_items, e_yes, r_seqN, r_seqR, r_seqB, r_seqC, r_seqE, r_seqS, r_bifT, r_bifF, r_bifE, r_ret, r_retE, r_put, r_putE, r_outR, r_outN, r_outE, r_ap2, r_bol, r_neg, r_bl, r_cons, r_getv, r_getb, r_tupl, r_lstl, r_loop, view_val, Res.bind_ok, Res.bind_err, Res.bind_stuck, Res.calm_ok, List.getElem?_cons_zero, List.getElem?_cons_succ, List.set_cons_zero, List.set_cons_succ, List.map_cons, List.map_nil, List.cons_append, List.nil_append, List.append_nil, List.length_cons, List.length_nil, List.replicate_succ, List.replicate_zero, Nat.reduceSub, Nat.reduceAdd, Nat.zero_add, Nat.sub_self, dAdd_int, dSub_int, dLt_int, dLe_int, dGt_int, dGe_int, dNeg_int, dInt_bl, dInt_int, dEq_int, dNe_int, decide_true, decide_false, Bool.not_true, Bool.not_false, if_true, if_false, Bool.false_eq_true, ofS_eq, String.reduceEq, e_chain, r_chn, r_chmT, r_chmF, e_sl, e_oN, e_oS, r_opt, r_slc, e_mM0, r_mm0, e_mM1, r_mm1, e_enum, r_enmL, r_enmT, e_zip, r_zpLL, r_zpLT, r_zpTL, r_zpTT, e_rg1, dDiv_int, dMod_int, Int.reduceLT, m__law_is_sum, e1, e2, h1, sumB, dIsi, D.ty, isiB, String.reduceBEq, Bool.or_false, Bool.false_or, Bool.or_self, Bool.and_false, Bool.false_and, Bool.and_true, Bool.true_and, Bool.or_true, Bool.true_or, Bool.and_self]
theorem P_isum (k : Nat) {m : Nat} {d : D} (h : gd m d = true) (hm : m ≤ 64) : callF (k + 10) .is_sum [d] = .ok (.bl (sumB 6 d)) := by
  show runM 1 (m_is_sum (callF (k + 9))) _ = _
  have e : callF (k + 9) .is_sum_at [d, .int 6] = _ := P_sum 6 k h hm
  simp only [e_run, e_seq, e_nil, e_brk, e_cnt, e_if, e_ret, e_retN, e_set, e_for, e_test, e_not, e_and, e_or, e_notV, e_andV, e_orV, e_ifE, e_m1, e_m2, e_c, e_var, e_varB, e_evN, e_evC, e_tup, e_lst, e_call, e_items, e_yes, r_seqN, r_seqR, r_seqB, r_seqC, r_seqE, r_seqS, r_bifT, r_bifF, r_bifE, r_ret, r_retE, r_put, r_putE, r_outR, r_outN, r_outE, r_ap2, r_bol, r_neg, r_bl, r_cons, r_getv, r_getb, r_tupl, r_lstl, r_loop, view_val, Res.bind_ok, Res.bind_err, Res.bind_stuck, Res.calm_ok, List.getElem?_cons_zero, List.getElem?_cons_succ, List.set_cons_zero, List.set_cons_succ, List.map_cons, List.map_nil, List.cons_append, List.nil_append, List.append_nil, List.length_cons, List.length_nil, List.replicate_succ, List.replicate_zero, Nat.reduceSub, Nat.reduceAdd, Nat.zero_add, Nat.sub_self, dAdd_int, dSub_int, dLt_int, dLe_int, dGt_int, dGe_int, dNeg_int, dInt_bl, dInt_int, dEq_int, dNe_int, decide_true, decide_false, Bool.not_true, Bool.not_false, if_true, if_false, Bool.false_eq_true, ofS_eq, String.reduceEq, e_chain, r_chn, r_chmT, r_chmF, e_sl, e_oN, e_oS, r_opt, r_slc, e_mM0, r_mm0, e_mM1, r_mm1, e_enum, r_enmL, r_enmT, e_zip, r_zpLL, r_zpLT, r_zpTL, r_zpTT, e_rg1, dDiv_int, dMod_int, Int.reduceLT, m_is_sum, k_DEEP_SUM, e]

theorem zip_ints (is : List Int) : zipD (is.map D.int).dropLast ((is.map D.int).drop 1) = (List.range (is.length - 1)).map fun j => .tup [.int (is.getD j 0), .int (is.getD (j + 1) 0)] := by
  apply List.ext_getElem?
  intro i
  unfold zipD
  rw [List.getElem?_zipWith, List.getElem?_map, List.getElem?_drop, List.getElem?_map]
  by_cases h : i < is.length - 1
  · rw [List.getElem?_range h]
    have h1 : i < (is.map D.int).dropLast.length := by simp; omega
    have h2 : 1 + i < is.length := by omega
    have h3 : i < is.length := by omega
    have e : 1 + i = i + 1 := by omega
    rw [List.getElem?_eq_getElem h1, List.getElem_dropLast]
    rw [e] at h2 ⊢
    simp [List.getD_eq_getElem?_getD, List.getElem?_eq_getElem h2, List.getElem?_eq_getElem h3]
  · have h1 : (is.map D.int).dropLast.length ≤ i := by simp; omega
    rw [List.getElem?_eq_none h1, List.getElem?_eq_none (l := List.range _) (by simp; omega)]
    rfl
theorem P_rises_c (C : Fn → List D → Res D) (is : List Int) (hl : is.length ≤ 1000) (row : D) (hr : row = .tup (is.map .int) ∨ row = .lst (is.map .int)) : m_rises_c0 C [some (.val row), none, none] = .ok (.lst ((List.range (is.length - 1)).map fun j => .bl (decide (is.getD j 0 < is.getD (j + 1) 0)))) := by
  refine mLc_m (as := List.range (is.length - 1)) (g := fun j => .tup [.int (is.getD j 0), .int (is.getD (j + 1) 0)]) ?_ (by rw [List.length_range]; omega) fun j _ => ⟨_, r_bTup rfl, by simp only [e_run, e_seq, e_nil, e_brk, e_cnt, e_if, e_ret, e_retN, e_set, e_for, e_test, e_not, e_and, e_or, e_notV, e_andV, e_orV, e_ifE, e_m1, e_m2, e_c, e_var, e_varB, e_evN, e_evC, e_tup, e_lst, e_call, e_items, e_yes, r_seqN, r_seqR, r_seqB, r_seqC, r_seqE, r_seqS, r_bifT, r_bifF, r_bifE, r_ret, r_retE, r_put, r_putE, r_outR, r_outN, r_outE, r_ap2, r_bol, r_neg, r_bl, r_cons, r_getv, r_getb, r_tupl, r_lstl, r_loop, view_val, Res.bind_ok, Res.bind_err, Res.bind_stuck, Res.calm_ok, List.getElem?_cons_zero, List.getElem?_cons_succ, List.set_cons_zero, List.set_cons_succ, List.map_cons, List.map_nil, List.cons_append, List.nil_append, List.append_nil, List.length_cons, List.length_nil, List.replicate_succ, List.replicate_zero, Nat.reduceSub, Nat.reduceAdd, Nat.zero_add, Nat.sub_self, dAdd_int, dSub_int, dLt_int, dLe_int, dGt_int, dGe_int, dNeg_int, dInt_bl, dInt_int, dEq_int, dNe_int, decide_true, decide_false, Bool.not_true, Bool.not_false, if_true, if_false, Bool.false_eq_true, ofS_eq, String.reduceEq, e_chain, r_chn, r_chmT, r_chmF, e_sl, e_oN, e_oS, r_opt, r_slc, e_mM0, r_mm0, e_mM1, r_mm1, e_enum, r_enmL, r_enmT, e_zip, r_zpLL, r_zpLT, r_zpTL, r_zpTT, e_rg1, dDiv_int, dMod_int, Int.reduceLT, wipeE, setAll]⟩
  rcases hr with rfl | rfl
  · simp only [e_run, e_seq, e_nil, e_brk, e_cnt, e_if, e_ret, e_retN, e_set, e_for, e_test, e_not, e_and, e_or, e_notV, e_andV, e_orV, e_ifE, e_m1, e_m2, e_c, e_var, e_varB, e_evN, e_evC, e_tup, e_lst, e_call, e_items, e_yes, r_seqN, r_seqR, r_seqB, r_seqC, r_seqE, r_seqS, r_bifT, r_bifF, r_bifE, r_ret, r_retE, r_put, r_putE, r_outR, r_outN, r_outE, r_ap2, r_bol, r_neg, r_bl, r_cons, r_getv, r_getb, r_tupl, r_lstl, r_loop, view_val, Res.bind_ok, Res.bind_err, Res.bind_stuck, Res.calm_ok, List.getElem?_cons_zero, List.getElem?_cons_succ, List.set_cons_zero, List.set_cons_succ, List.map_cons, List.map_nil, List.cons_append, List.nil_append, List.append_nil, List.length_cons, List.length_nil, List.replicate_succ, List.replicate_zero, Nat.reduceSub, Nat.reduceAdd, Nat.zero_add, Nat.sub_self, dAdd_int, dSub_int, dLt_int, dLe_int, dGt_int, dGe_int, dNeg_int, dInt_bl, dInt_int, dEq_int, dNe_int, decide_true, decide_false, Bool.not_true, Bool.not_false, if_true, if_false, Bool.false_eq_true, ofS_eq, String.reduceEq, e_chain, r_chn, r_chmT, r_chmF, e_sl, e_oN, e_oS, r_opt, r_slc, e_mM0, r_mm0, e_mM1, r_mm1, e_enum, r_enmL, r_enmT, e_zip, r_zpLL, r_zpLT, r_zpTL, r_zpTT, e_rg1, dDiv_int, dMod_int, Int.reduceLT, dSl, cut_last, cut_tail, zip_ints]
  · simp only [e_run, e_seq, e_nil, e_brk, e_cnt, e_if, e_ret, e_retN, e_set, e_for, e_test, e_not, e_and, e_or, e_notV, e_andV, e_orV, e_ifE, e_m1, e_m2, e_c, e_var, e_varB, e_evN, e_evC, e_tup, e_lst, e_call, e_items, e_yes, r_seqN, r_seqR, r_seqB, r_seqC, r_seqE, r_seqS, r_bifT, r_bifF, r_bifE, r_ret, r_retE, r_put, r_putE, r_outR, r_outN, r_outE, r_ap2, r_bol, r_neg, r_bl, r_cons, r_getv, r_getb, r_tupl, r_lstl, r_loop, view_val, Res.bind_ok, Res.bind_err, Res.bind_stuck, Res.calm_ok, List.getElem?_cons_zero, List.getElem?_cons_succ, List.set_cons_zero, List.set_cons_succ, List.map_cons, List.map_nil, List.cons_append, List.nil_append, List.append_nil, List.length_cons, List.length_nil, List.replicate_succ, List.replicate_zero, Nat.reduceSub, Nat.reduceAdd, Nat.zero_add, Nat.sub_self, dAdd_int, dSub_int, dLt_int, dLe_int, dGt_int, dGe_int, dNeg_int, dInt_bl, dInt_int, dEq_int, dNe_int, decide_true, decide_false, Bool.not_true, Bool.not_false, if_true, if_false, Bool.false_eq_true, ofS_eq, String.reduceEq, e_chain, r_chn, r_chmT, r_chmF, e_sl, e_oN, e_oS, r_opt, r_slc, e_mM0, r_mm0, e_mM1, r_mm1, e_enum, r_enmL, r_enmT, e_zip, r_zpLL, r_zpLT, r_zpTL, r_zpTT, e_rg1, dDiv_int, dMod_int, Int.reduceLT, dSl, cut_last, cut_tail, zip_ints]
theorem P_rises (k : Nat) (is : List Int) (hl : is.length ≤ 1000) (row : D) (hr : row = .tup (is.map .int) ∨ row = .lst (is.map .int)) : callF (k + 1) .rises [row] = .ok (.bl (risI is)) := by
  show runM 3 (m_rises (callF k)) _ = _
  have e := P_rises_c (callF k) is hl row hr
  simp only [e_run, e_seq, e_nil, e_brk, e_cnt, e_if, e_ret, e_retN, e_set, e_for, e_test, e_not, e_and, e_or, e_notV, e_andV, e_orV, e_ifE, e_m1, e_m2, e_c, e_var, e_varB, e_evN, e_evC, e_tup, e_lst, e_call, e_items, e_yes, r_seqN, r_seqR, r_seqB, r_seqC, r_seqE, r_seqS, r_bifT, r_bifF, r_bifE, r_ret, r_retE, r_put, r_putE, r_outR, r_outN, r_outE, r_ap2, r_bol, r_neg, r_bl, r_cons, r_getv, r_getb, r_tupl, r_lstl, r_loop, view_val, Res.bind_ok, Res.bind_err, Res.bind_stuck, Res.calm_ok, List.getElem?_cons_zero, List.getElem?_cons_succ, List.set_cons_zero, List.set_cons_succ, List.map_cons, List.map_nil, List.cons_append, List.nil_append, List.append_nil, List.length_cons, List.length_nil, List.replicate_succ, List.replicate_zero, Nat.reduceSub, Nat.reduceAdd, Nat.zero_add, Nat.sub_self, dAdd_int, dSub_int, dLt_int, dLe_int, dGt_int, dGe_int, dNeg_int, dInt_bl, dInt_int, dEq_int, dNe_int, decide_true, decide_false, Bool.not_true, Bool.not_false, if_true, if_false, Bool.false_eq_true, ofS_eq, String.reduceEq, e_chain, r_chn, r_chmT, r_chmF, e_sl, e_oN, e_oS, r_opt, r_slc, e_mM0, r_mm0, e_mM1, r_mm1, e_enum, r_enmL, r_enmT, e_zip, r_zpLL, r_zpLT, r_zpTL, r_zpTT, e_rg1, dDiv_int, dMod_int, Int.reduceLT, m_rises, e, dAll_map, risI]
theorem L_rises (k : Nat) (is : List Int) (hl : is.length ≤ 1000) : callF (k + 1) ._law_rises [.tup (is.map .int)] = .ok (.bl (risI is)) := by
  show runM 2 (m__law_rises (callF k)) _ = _
  have e : m__law_rises_c0 (callF k) [some (.val (.tup (is.map .int))), none] = .ok (.lst (((List.range (is.length - 1)).filter fun j => !decide (is.getD j 0 < is.getD (j + 1) 0)).map fun j => .int (1 + (j : Nat)))) := by
    refine mLc_f (as := List.range (is.length - 1)) (g := fun j => .int (1 + (j : Nat))) (f := fun j => .int (1 + (j : Nat))) (p := fun j => !decide (is.getD j 0 < is.getD (j + 1) 0)) ?_ (by rw [List.length_range]; omega) fun j hj => ⟨_, rfl, ?_, fun _ => ?_⟩
    · have q : mRange2 (mC (.int 1)) (m1 dLen (mVarB 0)) [some (.val (.tup (is.map .int))), none] = .ok (rangeD 1 ((is.length : Int) - 1).toNat) := by
        simp only [mRange2, e_run, e_seq, e_nil, e_brk, e_cnt, e_if, e_ret, e_retN, e_set, e_for, e_test, e_not, e_and, e_or, e_notV, e_andV, e_orV, e_ifE, e_m1, e_m2, e_c, e_var, e_varB, e_evN, e_evC, e_tup, e_lst, e_call, e_items, e_yes, r_seqN, r_seqR, r_seqB, r_seqC, r_seqE, r_seqS, r_bifT, r_bifF, r_bifE, r_ret, r_retE, r_put, r_putE, r_outR, r_outN, r_outE, r_ap2, r_bol, r_neg, r_bl, r_cons, r_getv, r_getb, r_tupl, r_lstl, r_loop, view_val, Res.bind_ok, Res.bind_err, Res.bind_stuck, Res.calm_ok, List.getElem?_cons_zero, List.getElem?_cons_succ, List.set_cons_zero, List.set_cons_succ, List.map_cons, List.map_nil, List.cons_append, List.nil_append, List.append_nil, List.length_cons, List.length_nil, List.replicate_succ, List.replicate_zero, Nat.reduceSub, Nat.reduceAdd, Nat.zero_add, Nat.sub_self, dAdd_int, dSub_int, dLt_int, dLe_int, dGt_int, dGe_int, dNeg_int, dInt_bl, dInt_int, dEq_int, dNe_int, decide_true, decide_false, Bool.not_true, Bool.not_false, if_true, if_false, Bool.false_eq_true, ofS_eq, String.reduceEq, e_chain, r_chn, r_chmT, r_chmF, e_sl, e_oN, e_oS, r_opt, r_slc, e_mM0, r_mm0, e_mM1, r_mm1, e_enum, r_enmL, r_enmT, e_zip, r_zpLL, r_zpLT, r_zpTL, r_zpTT, e_rg1, dDiv_int, dMod_int, Int.reduceLT, dLen, List.length_map]
        have : (rgB 1 && rgB (is.length : Int)) = true := by rw [rgB_ok (by decide) (by decide), rgB_ok (by omega) (by omega)]; rfl
        rw [if_pos this]
      rw [q]
      have : ((is.length : Int) - 1).toNat = is.length - 1 := by omega
      rw [this]
      rfl
    · have hj' := List.mem_range.mp hj
      have q1 : dIx (.tup (is.map .int)) (.int (1 + (j : Int) - 1)) = .ok (.int (is.getD j 0)) := by
        have z : (1 + (j : Int) - 1) = (j : Int) := by omega
        rw [z]
        exact dIx_tupN (getD_some (by omega))
      have q2 : dIx (.tup (is.map .int)) (.int (1 + (j : Int))) = .ok (.int (is.getD (j + 1) 0)) := by
        have z : (1 + (j : Int)) = ((j + 1 : Nat) : Int) := by omega
        rw [z]
        exact dIx_tupN (getD_some (by omega))
      have z : decide (is.getD (j + 1) 0 ≤ is.getD j 0) = !decide (is.getD j 0 < is.getD (j + 1) 0) := by
        by_cases h : is.getD j 0 < is.getD (j + 1) 0
        · have h2 : ¬ is.getD (j + 1) 0 ≤ is.getD j 0 := by omega
          simp only [h, h2, decide_true, decide_false, Bool.not_true]
        · have h2 : is.getD (j + 1) 0 ≤ is.getD j 0 := by omega
          simp only [h, h2, decide_true, decide_false, Bool.not_false]
      simp only [e_run, e_seq, e_nil, e_brk, e_cnt, e_if, e_ret, e_retN, e_set, e_for, e_test, e_not, e_and, e_or, e_notV, e_andV, e_orV, e_ifE, e_m1, e_m2, e_c, e_var, e_varB, e_evN, e_evC, e_tup, e_lst, e_call, e_items, e_yes, r_seqN, r_seqR, r_seqB, r_seqC, r_seqE, r_seqS, r_bifT, r_bifF, r_bifE, r_ret, r_retE, r_put, r_putE, r_outR, r_outN, r_outE, r_ap2, r_bol, r_neg, r_bl, r_cons, r_getv, r_getb, r_tupl, r_lstl, r_loop, view_val, Res.bind_ok, Res.bind_err, Res.bind_stuck, Res.calm_ok, List.getElem?_cons_zero, List.getElem?_cons_succ, List.set_cons_zero, List.set_cons_succ, List.map_cons, List.map_nil, List.cons_append, List.nil_append, List.append_nil, List.length_cons, List.length_nil, List.replicate_succ, List.replicate_zero, Nat.reduceSub, Nat.reduceAdd, Nat.zero_add, Nat.sub_self, dAdd_int, dSub_int, dLt_int, dLe_int, dGt_int, dGe_int, dNeg_int, dInt_bl, dInt_int, dEq_int, dNe_int, decide_true, decide_false, Bool.not_true, Bool.not_false, if_true, if_false, Bool.false_eq_true, ofS_eq, String.reduceEq, e_chain, r_chn, r_chmT, r_chmF, e_sl, e_oN, e_oS, r_opt, r_slc, e_mM0, r_mm0, e_mM1, r_mm1, e_enum, r_enmL, r_enmT, e_zip, r_zpLL, r_zpLT, r_zpTL, r_zpTT, e_rg1, dDiv_int, dMod_int, Int.reduceLT, wipeE, q1, q2, z]
    · simp only [e_run, e_seq, e_nil, e_brk, e_cnt, e_if, e_ret, e_retN, e_set, e_for, e_test, e_not, e_and, e_or, e_notV, e_andV, e_orV, e_ifE, e_m1, e_m2, e_c, e_var, e_varB, e_evN, e_evC, e_tup, e_lst, e_call, e_items, e_yes, r_seqN, r_seqR, r_seqB, r_seqC, r_seqE, r_seqS, r_bifT, r_bifF, r_bifE, r_ret, r_retE, r_put, r_putE, r_outR, r_outN, r_outE, r_ap2, r_bol, r_neg, r_bl, r_cons, r_getv, r_getb, r_tupl, r_lstl, r_loop, view_val, Res.bind_ok, Res.bind_err, Res.bind_stuck, Res.calm_ok, List.getElem?_cons_zero, List.getElem?_cons_succ, List.set_cons_zero, List.set_cons_succ, List.map_cons, List.map_nil, List.cons_append, List.nil_append, List.append_nil, List.length_cons, List.length_nil, List.replicate_succ, List.replicate_zero, Nat.reduceSub, Nat.reduceAdd, Nat.zero_add, Nat.sub_self, dAdd_int, dSub_int, dLt_int, dLe_int, dGt_int, dGe_int, dNeg_int, dInt_bl, dInt_int, dEq_int, dNe_int, decide_true, decide_false, Bool.not_true, Bool.not_false, if_true, if_false, Bool.false_eq_true, ofS_eq, String.reduceEq, e_chain, r_chn, r_chmT, r_chmF, e_sl, e_oN, e_oS, r_opt, r_slc, e_mM0, r_mm0, e_mM1, r_mm1, e_enum, r_enmL, r_enmT, e_zip, r_zpLL, r_zpLT, r_zpTL, r_zpTT, e_rg1, dDiv_int, dMod_int, Int.reduceLT, wipeE]
  have q : dEq (.lst (((List.range (is.length - 1)).filter fun j => !decide (is.getD j 0 < is.getD (j + 1) 0)).map fun j => .int (1 + (j : Nat)))) (.lst []) = .ok (.bl (risI is)) := by
    rw [dEq_nil (n := 0) (fun y hy => ?_) (by decide)]
    · congr 2
      rw [List.isEmpty_map, Bool.eq_iff_iff, List.isEmpty_iff, List.filter_eq_nil_iff, risI, List.all_eq_true]
      simp
    · obtain ⟨c, hc, rfl⟩ := List.mem_map.mp hy
      rfl
  simp only [e_run, e_seq, e_nil, e_brk, e_cnt, e_if, e_ret, e_retN, e_set, e_for, e_test, e_not, e_and, e_or, e_notV, e_andV, e_orV, e_ifE, e_m1, e_m2, e_c, e_var, e_varB, e_evN, e_evC, e_tup, e_lst, e_call, e_items, e_yes, r_seqN, r_seqR, r_seqB, r_seqC, r_seqE, r_seqS, r_bifT, r_bifF, r_bifE, r_ret, r_retE, r_put, r_putE, r_outR, r_outN, r_outE, r_ap2, r_bol, r_neg, r_bl, r_cons, r_getv, r_getb, r_tupl, r_lstl, r_loop, view_val, Res.bind_ok, Res.bind_err, Res.bind_stuck, Res.calm_ok, List.getElem?_cons_zero, List.getElem?_cons_succ, List.set_cons_zero, List.set_cons_succ, List.map_cons, List.map_nil, List.cons_append, List.nil_append, List.append_nil, List.length_cons, List.length_nil, List.replicate_succ, List.replicate_zero, Nat.reduceSub, Nat.reduceAdd, Nat.zero_add, Nat.sub_self, dAdd_int, dSub_int, dLt_int, dLe_int, dGt_int, dGe_int, dNeg_int, dInt_bl, dInt_int, dEq_int, dNe_int, decide_true, decide_false, Bool.not_true, Bool.not_false, if_true, if_false, Bool.false_eq_true, ofS_eq, String.reduceEq, e_chain, r_chn, r_chmT, r_chmF, e_sl, e_oN, e_oS, r_opt, r_slc, e_mM0, r_mm0, e_mM1, r_mm1, e_enum, r_enmL, r_enmT, e_zip, r_zpLL, r_zpLT, r_zpTL, r_zpTT, e_rg1, dDiv_int, dMod_int, Int.reduceLT, m__law_rises, e, q]
theorem gd_all {n : Nat} {xs : List D} (h : gd n (.tup xs) = true) : ∀ x ∈ xs, gd n x = true := fun x hx => gd_tup h hx
theorem filter_none {α : Type} (p : α → Bool) (xs : List α) : (xs.filter fun a => !p a).isEmpty = xs.all p := by
  rw [Bool.eq_iff_iff, List.isEmpty_iff, List.filter_eq_nil_iff, List.all_eq_true]
  simp
theorem P_opts (k : Nat) {m : Nat} {d : D} (h : gd m d = true) : callF (k + 3) .are_options [d] = .ok (.bl (optsB 4 d)) := by
  show runM 2 (m_are_options (callF (k + 2))) _ = _
  rcases gd_ty h with rfl | ⟨b, rfl⟩ | ⟨i, rfl⟩ | ⟨x, rfl, ox, lx⟩ | ⟨xs, rfl⟩ | ⟨xs, rfl⟩
  · simp only [e_run, e_seq, e_nil, e_brk, e_cnt, e_if, e_ret, e_retN, e_set, e_for, e_test, e_not, e_and, e_or, e_notV, e_andV, e_orV, e_ifE, e_m1, e_m2, e_c, e_var, e_varB, e_evN, e_evC, e_tup, e_lst, e_call, e_items, e_yes, r_seqN, r_seqR, r_seqB, r_seqC, r_seqE, r_seqS, r_bifT, r_bifF, r_bifE, r_ret, r_retE, r_put, r_putE, r_outR, r_outN, r_outE, r_ap2, r_bol, r_neg, r_bl, r_cons, r_getv, r_getb, r_tupl, r_lstl, r_loop, view_val, Res.bind_ok, Res.bind_err, Res.bind_stuck, Res.calm_ok, List.getElem?_cons_zero, List.getElem?_cons_succ, List.set_cons_zero, List.set_cons_succ, List.map_cons, List.map_nil, List.cons_append, List.nil_append, List.append_nil, List.length_cons, List.length_nil, List.replicate_succ, List.replicate_zero, Nat.reduceSub, Nat.reduceAdd, Nat.zero_add, Nat.sub_self, dAdd_int, dSub_int, dLt_int, dLe_int, dGt_int, dGe_int, dNeg_int, dInt_bl, dInt_int, dEq_int, dNe_int, decide_true, decide_false, Bool.not_true, Bool.not_false, if_true, if_false, Bool.false_eq_true, ofS_eq, String.reduceEq, e_chain, r_chn, r_chmT, r_chmF, e_sl, e_oN, e_oS, r_opt, r_slc, e_mM0, r_mm0, e_mM1, r_mm1, e_enum, r_enmL, r_enmT, e_zip, r_zpLL, r_zpLT, r_zpTL, r_zpTT, e_rg1, dDiv_int, dMod_int, Int.reduceLT, m_are_options, optsB, dIsi, D.ty, isiB, String.reduceBEq, Bool.or_false, Bool.false_or, Bool.or_self, Bool.and_false, Bool.false_and, Bool.and_true, Bool.true_and, Bool.or_true, Bool.true_or, Bool.and_self]
  · simp only [e_run, e_seq, e_nil, e_brk, e_cnt, e_if, e_ret, e_retN, e_set, e_for, e_test, e_not, e_and, e_or, e_notV, e_andV, e_orV, e_ifE, e_m1, e_m2, e_c, e_var, e_varB, e_evN, e_evC, e_tup, e_lst, e_call, e_items, e_yes, r_seqN, r_seqR, r_seqB, r_seqC, r_seqE, r_seqS, r_bifT, r_bifF, r_bifE, r_ret, r_retE, r_put, r_putE, r_outR, r_outN, r_outE, r_ap2, r_bol, r_neg, r_bl, r_cons, r_getv, r_getb, r_tupl, r_lstl, r_loop, view_val, Res.bind_ok, Res.bind_err, Res.bind_stuck, Res.calm_ok, List.getElem?_cons_zero, List.getElem?_cons_succ, List.set_cons_zero, List.set_cons_succ, List.map_cons, List.map_nil, List.cons_append, List.nil_append, List.append_nil, List.length_cons, List.length_nil, List.replicate_succ, List.replicate_zero, Nat.reduceSub, Nat.reduceAdd, Nat.zero_add, Nat.sub_self, dAdd_int, dSub_int, dLt_int, dLe_int, dGt_int, dGe_int, dNeg_int, dInt_bl, dInt_int, dEq_int, dNe_int, decide_true, decide_false, Bool.not_true, Bool.not_false, if_true, if_false, Bool.false_eq_true, ofS_eq, String.reduceEq, e_chain, r_chn, r_chmT, r_chmF, e_sl, e_oN, e_oS, r_opt, r_slc, e_mM0, r_mm0, e_mM1, r_mm1, e_enum, r_enmL, r_enmT, e_zip, r_zpLL, r_zpLT, r_zpTL, r_zpTT, e_rg1, dDiv_int, dMod_int, Int.reduceLT, m_are_options, optsB, dIsi, D.ty, isiB, String.reduceBEq, Bool.or_false, Bool.false_or, Bool.or_self, Bool.and_false, Bool.false_and, Bool.and_true, Bool.true_and, Bool.or_true, Bool.true_or, Bool.and_self]
  · simp only [e_run, e_seq, e_nil, e_brk, e_cnt, e_if, e_ret, e_retN, e_set, e_for, e_test, e_not, e_and, e_or, e_notV, e_andV, e_orV, e_ifE, e_m1, e_m2, e_c, e_var, e_varB, e_evN, e_evC, e_tup, e_lst, e_call, e_items, e_yes, r_seqN, r_seqR, r_seqB, r_seqC, r_seqE, r_seqS, r_bifT, r_bifF, r_bifE, r_ret, r_retE, r_put, r_putE, r_outR, r_outN, r_outE, r_ap2, r_bol, r_neg, r_bl, r_cons, r_getv, r_getb, r_tupl, r_lstl, r_loop, view_val, Res.bind_ok, Res.bind_err, Res.bind_stuck, Res.calm_ok, List.getElem?_cons_zero, List.getElem?_cons_succ, List.set_cons_zero, List.set_cons_succ, List.map_cons, List.map_nil, List.cons_append, List.nil_append, List.append_nil, List.length_cons, List.length_nil, List.replicate_succ, List.replicate_zero, Nat.reduceSub, Nat.reduceAdd, Nat.zero_add, Nat.sub_self, dAdd_int, dSub_int, dLt_int, dLe_int, dGt_int, dGe_int, dNeg_int, dInt_bl, dInt_int, dEq_int, dNe_int, decide_true, decide_false, Bool.not_true, Bool.not_false, if_true, if_false, Bool.false_eq_true, ofS_eq, String.reduceEq, e_chain, r_chn, r_chmT, r_chmF, e_sl, e_oN, e_oS, r_opt, r_slc, e_mM0, r_mm0, e_mM1, r_mm1, e_enum, r_enmL, r_enmT, e_zip, r_zpLL, r_zpLT, r_zpTL, r_zpTT, e_rg1, dDiv_int, dMod_int, Int.reduceLT, m_are_options, optsB, dIsi, D.ty, isiB, String.reduceBEq, Bool.or_false, Bool.false_or, Bool.or_self, Bool.and_false, Bool.false_and, Bool.and_true, Bool.true_and, Bool.or_true, Bool.true_or, Bool.and_self]
  · simp only [e_run, e_seq, e_nil, e_brk, e_cnt, e_if, e_ret, e_retN, e_set, e_for, e_test, e_not, e_and, e_or, e_notV, e_andV, e_orV, e_ifE, e_m1, e_m2, e_c, e_var, e_varB, e_evN, e_evC, e_tup, e_lst, e_call, e_items, e_yes, r_seqN, r_seqR, r_seqB, r_seqC, r_seqE, r_seqS, r_bifT, r_bifF, r_bifE, r_ret, r_retE, r_put, r_putE, r_outR, r_outN, r_outE, r_ap2, r_bol, r_neg, r_bl, r_cons, r_getv, r_getb, r_tupl, r_lstl, r_loop, view_val, Res.bind_ok, Res.bind_err, Res.bind_stuck, Res.calm_ok, List.getElem?_cons_zero, List.getElem?_cons_succ, List.set_cons_zero, List.set_cons_succ, List.map_cons, List.map_nil, List.cons_append, List.nil_append, List.append_nil, List.length_cons, List.length_nil, List.replicate_succ, List.replicate_zero, Nat.reduceSub, Nat.reduceAdd, Nat.zero_add, Nat.sub_self, dAdd_int, dSub_int, dLt_int, dLe_int, dGt_int, dGe_int, dNeg_int, dInt_bl, dInt_int, dEq_int, dNe_int, decide_true, decide_false, Bool.not_true, Bool.not_false, if_true, if_false, Bool.false_eq_true, ofS_eq, String.reduceEq, e_chain, r_chn, r_chmT, r_chmF, e_sl, e_oN, e_oS, r_opt, r_slc, e_mM0, r_mm0, e_mM1, r_mm1, e_enum, r_enmL, r_enmT, e_zip, r_zpLL, r_zpLT, r_zpTL, r_zpTT, e_rg1, dDiv_int, dMod_int, Int.reduceLT, m_are_options, optsB, dIsi, D.ty, isiB, String.reduceBEq, Bool.or_false, Bool.false_or, Bool.or_self, Bool.and_false, Bool.false_and, Bool.and_true, Bool.true_and, Bool.or_true, Bool.true_or, Bool.and_self]
  · have ql : dLen (.tup xs) = .ok (.int xs.length) := rfl
    by_cases h1 : (1 : Int) ≤ xs.length
    · by_cases h4 : (xs.length : Int) ≤ 4
      · have l1 : 1 ≤ xs.length := by omega
        have e : m_are_options_c0 (callF (k + 2)) [some (.val (.tup xs)), none] = .ok (.lst (xs.map fun x => .bl (wholeB (-50) 50 x))) :=
          mLc_m (as := xs) (g := id) (by simp only [e_run, e_seq, e_nil, e_brk, e_cnt, e_if, e_ret, e_retN, e_set, e_for, e_test, e_not, e_and, e_or, e_notV, e_andV, e_orV, e_ifE, e_m1, e_m2, e_c, e_var, e_varB, e_evN, e_evC, e_tup, e_lst, e_call, e_items, e_yes, r_seqN, r_seqR, r_seqB, r_seqC, r_seqE, r_seqS, r_bifT, r_bifF, r_bifE, r_ret, r_retE, r_put, r_putE, r_outR, r_outN, r_outE, r_ap2, r_bol, r_neg, r_bl, r_cons, r_getv, r_getb, r_tupl, r_lstl, r_loop, view_val, Res.bind_ok, Res.bind_err, Res.bind_stuck, Res.calm_ok, List.getElem?_cons_zero, List.getElem?_cons_succ, List.set_cons_zero, List.set_cons_succ, List.map_cons, List.map_nil, List.cons_append, List.nil_append, List.append_nil, List.length_cons, List.length_nil, List.replicate_succ, List.replicate_zero, Nat.reduceSub, Nat.reduceAdd, Nat.zero_add, Nat.sub_self, dAdd_int, dSub_int, dLt_int, dLe_int, dGt_int, dGe_int, dNeg_int, dInt_bl, dInt_int, dEq_int, dNe_int, decide_true, decide_false, Bool.not_true, Bool.not_false, if_true, if_false, Bool.false_eq_true, ofS_eq, String.reduceEq, e_chain, r_chn, r_chmT, r_chmF, e_sl, e_oN, e_oS, r_opt, r_slc, e_mM0, r_mm0, e_mM1, r_mm1, e_enum, r_enmL, r_enmT, e_zip, r_zpLL, r_zpLT, r_zpTL, r_zpTT, e_rg1, dDiv_int, dMod_int, Int.reduceLT, dItems, List.map_id]) (by omega) fun x hx => ⟨_, rfl, by
            have := P_small k (gd_all h x hx)
            simp only [e_run, e_seq, e_nil, e_brk, e_cnt, e_if, e_ret, e_retN, e_set, e_for, e_test, e_not, e_and, e_or, e_notV, e_andV, e_orV, e_ifE, e_m1, e_m2, e_c, e_var, e_varB, e_evN, e_evC, e_tup, e_lst, e_call, e_items, e_yes, r_seqN, r_seqR, r_seqB, r_seqC, r_seqE, r_seqS, r_bifT, r_bifF, r_bifE, r_ret, r_retE, r_put, r_putE, r_outR, r_outN, r_outE, r_ap2, r_bol, r_neg, r_bl, r_cons, r_getv, r_getb, r_tupl, r_lstl, r_loop, view_val, Res.bind_ok, Res.bind_err, Res.bind_stuck, Res.calm_ok, List.getElem?_cons_zero, List.getElem?_cons_succ, List.set_cons_zero, List.set_cons_succ, List.map_cons, List.map_nil, List.cons_append, List.nil_append, List.append_nil, List.length_cons, List.length_nil, List.replicate_succ, List.replicate_zero, Nat.reduceSub, Nat.reduceAdd, Nat.zero_add, Nat.sub_self, dAdd_int, dSub_int, dLt_int, dLe_int, dGt_int, dGe_int, dNeg_int, dInt_bl, dInt_int, dEq_int, dNe_int, decide_true, decide_false, Bool.not_true, Bool.not_false, if_true, if_false, Bool.false_eq_true, ofS_eq, String.reduceEq, e_chain, r_chn, r_chmT, r_chmF, e_sl, e_oN, e_oS, r_opt, r_slc, e_mM0, r_mm0, e_mM1, r_mm1, e_enum, r_enmL, r_enmT, e_zip, r_zpLL, r_zpLT, r_zpTL, r_zpTT, e_rg1, dDiv_int, dMod_int, Int.reduceLT, wipeE, id, this]⟩
        simp only [e_run, e_seq, e_nil, e_brk, e_cnt, e_if, e_ret, e_retN, e_set, e_for, e_test, e_not, e_and, e_or, e_notV, e_andV, e_orV, e_ifE, e_m1, e_m2, e_c, e_var, e_varB, e_evN, e_evC, e_tup, e_lst, e_call, e_items, e_yes, r_seqN, r_seqR, r_seqB, r_seqC, r_seqE, r_seqS, r_bifT, r_bifF, r_bifE, r_ret, r_retE, r_put, r_putE, r_outR, r_outN, r_outE, r_ap2, r_bol, r_neg, r_bl, r_cons, r_getv, r_getb, r_tupl, r_lstl, r_loop, view_val, Res.bind_ok, Res.bind_err, Res.bind_stuck, Res.calm_ok, List.getElem?_cons_zero, List.getElem?_cons_succ, List.set_cons_zero, List.set_cons_succ, List.map_cons, List.map_nil, List.cons_append, List.nil_append, List.append_nil, List.length_cons, List.length_nil, List.replicate_succ, List.replicate_zero, Nat.reduceSub, Nat.reduceAdd, Nat.zero_add, Nat.sub_self, dAdd_int, dSub_int, dLt_int, dLe_int, dGt_int, dGe_int, dNeg_int, dInt_bl, dInt_int, dEq_int, dNe_int, decide_true, decide_false, Bool.not_true, Bool.not_false, if_true, if_false, Bool.false_eq_true, ofS_eq, String.reduceEq, e_chain, r_chn, r_chmT, r_chmF, e_sl, e_oN, e_oS, r_opt, r_slc, e_mM0, r_mm0, e_mM1, r_mm1, e_enum, r_enmL, r_enmT, e_zip, r_zpLL, r_zpLT, r_zpTL, r_zpTT, e_rg1, dDiv_int, dMod_int, Int.reduceLT, m_are_options, optsB, ql, h1, h4, l1, e, dAll_map, dIsi, D.ty, isiB, String.reduceBEq, Bool.or_false, Bool.false_or, Bool.or_self, Bool.and_false, Bool.false_and, Bool.and_true, Bool.true_and, Bool.or_true, Bool.true_or, Bool.and_self]
        cases hw : xs.all (wholeB (-50) 50)
        · simp only [e_run, e_seq, e_nil, e_brk, e_cnt, e_if, e_ret, e_retN, e_set, e_for, e_test, e_not, e_and, e_or, e_notV, e_andV, e_orV, e_ifE, e_m1, e_m2, e_c, e_var, e_varB, e_evN, e_evC, e_tup, e_lst, e_call, e_items, e_yes, r_seqN, r_seqR, r_seqB, r_seqC, r_seqE, r_seqS, r_bifT, r_bifF, r_bifE, r_ret, r_retE, r_put, r_putE, r_outR, r_outN, r_outE, r_ap2, r_bol, r_neg, r_bl, r_cons, r_getv, r_getb, r_tupl, r_lstl, r_loop, view_val, Res.bind_ok, Res.bind_err, Res.bind_stuck, Res.calm_ok, List.getElem?_cons_zero, List.getElem?_cons_succ, List.set_cons_zero, List.set_cons_succ, List.map_cons, List.map_nil, List.cons_append, List.nil_append, List.append_nil, List.length_cons, List.length_nil, List.replicate_succ, List.replicate_zero, Nat.reduceSub, Nat.reduceAdd, Nat.zero_add, Nat.sub_self, dAdd_int, dSub_int, dLt_int, dLe_int, dGt_int, dGe_int, dNeg_int, dInt_bl, dInt_int, dEq_int, dNe_int, decide_true, decide_false, Bool.not_true, Bool.not_false, if_true, if_false, Bool.false_eq_true, ofS_eq, String.reduceEq, e_chain, r_chn, r_chmT, r_chmF, e_sl, e_oN, e_oS, r_opt, r_slc, e_mM0, r_mm0, e_mM1, r_mm1, e_enum, r_enmL, r_enmT, e_zip, r_zpLL, r_zpLT, r_zpTL, r_zpTT, e_rg1, dDiv_int, dMod_int, Int.reduceLT, dIsi, D.ty, isiB, String.reduceBEq, Bool.or_false, Bool.false_or, Bool.or_self, Bool.and_false, Bool.false_and, Bool.and_true, Bool.true_and, Bool.or_true, Bool.true_or, Bool.and_self]
        · have z := wholes_int hw
          have r := P_rises (k + 1) (xs.map intOf) (by rw [List.length_map]; omega) (.tup xs) (.inl (by rw [← z]))
          simp only [e_run, e_seq, e_nil, e_brk, e_cnt, e_if, e_ret, e_retN, e_set, e_for, e_test, e_not, e_and, e_or, e_notV, e_andV, e_orV, e_ifE, e_m1, e_m2, e_c, e_var, e_varB, e_evN, e_evC, e_tup, e_lst, e_call, e_items, e_yes, r_seqN, r_seqR, r_seqB, r_seqC, r_seqE, r_seqS, r_bifT, r_bifF, r_bifE, r_ret, r_retE, r_put, r_putE, r_outR, r_outN, r_outE, r_ap2, r_bol, r_neg, r_bl, r_cons, r_getv, r_getb, r_tupl, r_lstl, r_loop, view_val, Res.bind_ok, Res.bind_err, Res.bind_stuck, Res.calm_ok, List.getElem?_cons_zero, List.getElem?_cons_succ, List.set_cons_zero, List.set_cons_succ, List.map_cons, List.map_nil, List.cons_append, List.nil_append, List.append_nil, List.length_cons, List.length_nil, List.replicate_succ, List.replicate_zero, Nat.reduceSub, Nat.reduceAdd, Nat.zero_add, Nat.sub_self, dAdd_int, dSub_int, dLt_int, dLe_int, dGt_int, dGe_int, dNeg_int, dInt_bl, dInt_int, dEq_int, dNe_int, decide_true, decide_false, Bool.not_true, Bool.not_false, if_true, if_false, Bool.false_eq_true, ofS_eq, String.reduceEq, e_chain, r_chn, r_chmT, r_chmF, e_sl, e_oN, e_oS, r_opt, r_slc, e_mM0, r_mm0, e_mM1, r_mm1, e_enum, r_enmL, r_enmT, e_zip, r_zpLL, r_zpLT, r_zpTL, r_zpTT, e_rg1, dDiv_int, dMod_int, Int.reduceLT, r, risD, dIsi, D.ty, isiB, String.reduceBEq, Bool.or_false, Bool.false_or, Bool.or_self, Bool.and_false, Bool.false_and, Bool.and_true, Bool.true_and, Bool.or_true, Bool.true_or, Bool.and_self]
      · simp only [e_run, e_seq, e_nil, e_brk, e_cnt, e_if, e_ret, e_retN, e_set, e_for, e_test, e_not, e_and, e_or, e_notV, e_andV, e_orV, e_ifE, e_m1, e_m2, e_c, e_var, e_varB, e_evN, e_evC, e_tup, e_lst, e_call, e_items, e_yes, r_seqN, r_seqR, r_seqB, r_seqC, r_seqE, r_seqS, r_bifT, r_bifF, r_bifE, r_ret, r_retE, r_put, r_putE, r_outR, r_outN, r_outE, r_ap2, r_bol, r_neg, r_bl, r_cons, r_getv, r_getb, r_tupl, r_lstl, r_loop, view_val, Res.bind_ok, Res.bind_err, Res.bind_stuck, Res.calm_ok, List.getElem?_cons_zero, List.getElem?_cons_succ, List.set_cons_zero, List.set_cons_succ, List.map_cons, List.map_nil, List.cons_append, List.nil_append, List.append_nil, List.length_cons, List.length_nil, List.replicate_succ, List.replicate_zero, Nat.reduceSub, Nat.reduceAdd, Nat.zero_add, Nat.sub_self, dAdd_int, dSub_int, dLt_int, dLe_int, dGt_int, dGe_int, dNeg_int, dInt_bl, dInt_int, dEq_int, dNe_int, decide_true, decide_false, Bool.not_true, Bool.not_false, if_true, if_false, Bool.false_eq_true, ofS_eq, String.reduceEq, e_chain, r_chn, r_chmT, r_chmF, e_sl, e_oN, e_oS, r_opt, r_slc, e_mM0, r_mm0, e_mM1, r_mm1, e_enum, r_enmL, r_enmT, e_zip, r_zpLL, r_zpLT, r_zpTL, r_zpTT, e_rg1, dDiv_int, dMod_int, Int.reduceLT, m_are_options, optsB, ql, h1, h4, dIsi, D.ty, isiB, String.reduceBEq, Bool.or_false, Bool.false_or, Bool.or_self, Bool.and_false, Bool.false_and, Bool.and_true, Bool.true_and, Bool.or_true, Bool.true_or, Bool.and_self]
    · have l1 : ¬ 1 ≤ xs.length := by omega
      simp only [e_run, e_seq, e_nil, e_brk, e_cnt, e_if, e_ret, e_retN, e_set, e_for, e_test, e_not, e_and, e_or, e_notV, e_andV, e_orV, e_ifE, e_m1, e_m2, e_c, e_var, e_varB, e_evN, e_evC, e_tup, e_lst, e_call, e_items, e_yes, r_seqN, r_seqR, r_seqB, r_seqC, r_seqE, r_seqS, r_bifT, r_bifF, r_bifE, r_ret, r_retE, r_put, r_putE, r_outR, r_outN, r_outE, r_ap2, r_bol, r_neg, r_bl, r_cons, r_getv, r_getb, r_tupl, r_lstl, r_loop, view_val, Res.bind_ok, Res.bind_err, Res.bind_stuck, Res.calm_ok, List.getElem?_cons_zero, List.getElem?_cons_succ, List.set_cons_zero, List.set_cons_succ, List.map_cons, List.map_nil, List.cons_append, List.nil_append, List.append_nil, List.length_cons, List.length_nil, List.replicate_succ, List.replicate_zero, Nat.reduceSub, Nat.reduceAdd, Nat.zero_add, Nat.sub_self, dAdd_int, dSub_int, dLt_int, dLe_int, dGt_int, dGe_int, dNeg_int, dInt_bl, dInt_int, dEq_int, dNe_int, decide_true, decide_false, Bool.not_true, Bool.not_false, if_true, if_false, Bool.false_eq_true, ofS_eq, String.reduceEq, e_chain, r_chn, r_chmT, r_chmF, e_sl, e_oN, e_oS, r_opt, r_slc, e_mM0, r_mm0, e_mM1, r_mm1, e_enum, r_enmL, r_enmT, e_zip, r_zpLL, r_zpLT, r_zpTL, r_zpTT, e_rg1, dDiv_int, dMod_int, Int.reduceLT, m_are_options, optsB, ql, h1, l1, dIsi, D.ty, isiB, String.reduceBEq, Bool.or_false, Bool.false_or, Bool.or_self, Bool.and_false, Bool.false_and, Bool.and_true, Bool.true_and, Bool.or_true, Bool.true_or, Bool.and_self]
  · simp only [e_run, e_seq, e_nil, e_brk, e_cnt, e_if, e_ret, e_retN, e_set, e_for, e_test, e_not, e_and, e_or, e_notV, e_andV, e_orV, e_ifE, e_m1, e_m2, e_c, e_var, e_varB, e_evN, e_evC, e_tup, e_lst, e_call, e_items, e_yes, r_seqN, r_seqR, r_seqB, r_seqC, r_seqE, r_seqS, r_bifT, r_bifF, r_bifE, r_ret, r_retE, r_put, r_putE, r_outR, r_outN, r_outE, r_ap2, r_bol, r_neg, r_bl, r_cons, r_getv, r_getb, r_tupl, r_lstl, r_loop, view_val, Res.bind_ok, Res.bind_err, Res.bind_stuck, Res.calm_ok, List.getElem?_cons_zero, List.getElem?_cons_succ, List.set_cons_zero, List.set_cons_succ, List.map_cons, List.map_nil, List.cons_append, List.nil_append, List.append_nil, List.length_cons, List.length_nil, List.replicate_succ, List.replicate_zero, Nat.reduceSub, Nat.reduceAdd, Nat.zero_add, Nat.sub_self, dAdd_int, dSub_int, dLt_int, dLe_int, dGt_int, dGe_int, dNeg_int, dInt_bl, dInt_int, dEq_int, dNe_int, decide_true, decide_false, Bool.not_true, Bool.not_false, if_true, if_false, Bool.false_eq_true, ofS_eq, String.reduceEq, e_chain, r_chn, r_chmT, r_chmF, e_sl, e_oN, e_oS, r_opt, r_slc, e_mM0, r_mm0, e_mM1, r_mm1, e_enum, r_enmL, r_enmT, e_zip, r_zpLL, r_zpLT, r_zpTL, r_zpTT, e_rg1, dDiv_int, dMod_int, Int.reduceLT, m_are_options, optsB, dIsi, D.ty, isiB, String.reduceBEq, Bool.or_false, Bool.false_or, Bool.or_self, Bool.and_false, Bool.false_and, Bool.and_true, Bool.true_and, Bool.or_true, Bool.true_or, Bool.and_self]
theorem L_opts (k : Nat) {m : Nat} {d : D} (h : gd m d = true) (hm : m < 64) (most : Int) (hmo : most ≤ 5) : callF (k + 2) ._law_are_options [d, .int most] = .ok (.bl (optsB most d)) := by
  show runM 3 (m__law_are_options (callF (k + 1))) _ = _
  rcases gd_ty h with rfl | ⟨b, rfl⟩ | ⟨i, rfl⟩ | ⟨x, rfl, ox, lx⟩ | ⟨xs, rfl⟩ | ⟨xs, rfl⟩
  · simp only [e_run, e_seq, e_nil, e_brk, e_cnt, e_if, e_ret, e_retN, e_set, e_for, e_test, e_not, e_and, e_or, e_notV, e_andV, e_orV, e_ifE, e_m1, e_m2, e_c, e_var, e_varB, e_evN, e_evC, e_tup, e_lst, e_call, e_items, e_yes, r_seqN, r_seqR, r_seqB, r_seqC, r_seqE, r_seqS, r_bifT, r_bifF, r_bifE, r_ret, r_retE, r_put, r_putE, r_outR, r_outN, r_outE, r_ap2, r_bol, r_neg, r_bl, r_cons, r_getv, r_getb, r_tupl, r_lstl, r_loop, view_val, Res.bind_ok, Res.bind_err, Res.bind_stuck, Res.calm_ok, List.getElem?_cons_zero, List.getElem?_cons_succ, List.set_cons_zero, List.set_cons_succ, List.map_cons, List.map_nil, List.cons_append, List.nil_append, List.append_nil, List.length_cons, List.length_nil, List.replicate_succ, List.replicate_zero, Nat.reduceSub, Nat.reduceAdd, Nat.zero_add, Nat.sub_self, dAdd_int, dSub_int, dLt_int, dLe_int, dGt_int, dGe_int, dNeg_int, dInt_bl, dInt_int, dEq_int, dNe_int, decide_true, decide_false, Bool.not_true, Bool.not_false, if_true, if_false, Bool.false_eq_true, ofS_eq, String.reduceEq, e_chain, r_chn, r_chmT, r_chmF, e_sl, e_oN, e_oS, r_opt, r_slc, e_mM0, r_mm0, e_mM1, r_mm1, e_enum, r_enmL, r_enmT, e_zip, r_zpLL, r_zpLT, r_zpTL, r_zpTT, e_rg1, dDiv_int, dMod_int, Int.reduceLT, m__law_are_options, optsB, dIsi, D.ty, isiB, String.reduceBEq, Bool.or_false, Bool.false_or, Bool.or_self, Bool.and_false, Bool.false_and, Bool.and_true, Bool.true_and, Bool.or_true, Bool.true_or, Bool.and_self]
  · simp only [e_run, e_seq, e_nil, e_brk, e_cnt, e_if, e_ret, e_retN, e_set, e_for, e_test, e_not, e_and, e_or, e_notV, e_andV, e_orV, e_ifE, e_m1, e_m2, e_c, e_var, e_varB, e_evN, e_evC, e_tup, e_lst, e_call, e_items, e_yes, r_seqN, r_seqR, r_seqB, r_seqC, r_seqE, r_seqS, r_bifT, r_bifF, r_bifE, r_ret, r_retE, r_put, r_putE, r_outR, r_outN, r_outE, r_ap2, r_bol, r_neg, r_bl, r_cons, r_getv, r_getb, r_tupl, r_lstl, r_loop, view_val, Res.bind_ok, Res.bind_err, Res.bind_stuck, Res.calm_ok, List.getElem?_cons_zero, List.getElem?_cons_succ, List.set_cons_zero, List.set_cons_succ, List.map_cons, List.map_nil, List.cons_append, List.nil_append, List.append_nil, List.length_cons, List.length_nil, List.replicate_succ, List.replicate_zero, Nat.reduceSub, Nat.reduceAdd, Nat.zero_add, Nat.sub_self, dAdd_int, dSub_int, dLt_int, dLe_int, dGt_int, dGe_int, dNeg_int, dInt_bl, dInt_int, dEq_int, dNe_int, decide_true, decide_false, Bool.not_true, Bool.not_false, if_true, if_false, Bool.false_eq_true, ofS_eq, String.reduceEq, e_chain, r_chn, r_chmT, r_chmF, e_sl, e_oN, e_oS, r_opt, r_slc, e_mM0, r_mm0, e_mM1, r_mm1, e_enum, r_enmL, r_enmT, e_zip, r_zpLL, r_zpLT, r_zpTL, r_zpTT, e_rg1, dDiv_int, dMod_int, Int.reduceLT, m__law_are_options, optsB, dIsi, D.ty, isiB, String.reduceBEq, Bool.or_false, Bool.false_or, Bool.or_self, Bool.and_false, Bool.false_and, Bool.and_true, Bool.true_and, Bool.or_true, Bool.true_or, Bool.and_self]
  · simp only [e_run, e_seq, e_nil, e_brk, e_cnt, e_if, e_ret, e_retN, e_set, e_for, e_test, e_not, e_and, e_or, e_notV, e_andV, e_orV, e_ifE, e_m1, e_m2, e_c, e_var, e_varB, e_evN, e_evC, e_tup, e_lst, e_call, e_items, e_yes, r_seqN, r_seqR, r_seqB, r_seqC, r_seqE, r_seqS, r_bifT, r_bifF, r_bifE, r_ret, r_retE, r_put, r_putE, r_outR, r_outN, r_outE, r_ap2, r_bol, r_neg, r_bl, r_cons, r_getv, r_getb, r_tupl, r_lstl, r_loop, view_val, Res.bind_ok, Res.bind_err, Res.bind_stuck, Res.calm_ok, List.getElem?_cons_zero, List.getElem?_cons_succ, List.set_cons_zero, List.set_cons_succ, List.map_cons, List.map_nil, List.cons_append, List.nil_append, List.append_nil, List.length_cons, List.length_nil, List.replicate_succ, List.replicate_zero, Nat.reduceSub, Nat.reduceAdd, Nat.zero_add, Nat.sub_self, dAdd_int, dSub_int, dLt_int, dLe_int, dGt_int, dGe_int, dNeg_int, dInt_bl, dInt_int, dEq_int, dNe_int, decide_true, decide_false, Bool.not_true, Bool.not_false, if_true, if_false, Bool.false_eq_true, ofS_eq, String.reduceEq, e_chain, r_chn, r_chmT, r_chmF, e_sl, e_oN, e_oS, r_opt, r_slc, e_mM0, r_mm0, e_mM1, r_mm1, e_enum, r_enmL, r_enmT, e_zip, r_zpLL, r_zpLT, r_zpTL, r_zpTT, e_rg1, dDiv_int, dMod_int, Int.reduceLT, m__law_are_options, optsB, dIsi, D.ty, isiB, String.reduceBEq, Bool.or_false, Bool.false_or, Bool.or_self, Bool.and_false, Bool.false_and, Bool.and_true, Bool.true_and, Bool.or_true, Bool.true_or, Bool.and_self]
  · simp only [e_run, e_seq, e_nil, e_brk, e_cnt, e_if, e_ret, e_retN, e_set, e_for, e_test, e_not, e_and, e_or, e_notV, e_andV, e_orV, e_ifE, e_m1, e_m2, e_c, e_var, e_varB, e_evN, e_evC, e_tup, e_lst, e_call, e_items, e_yes, r_seqN, r_seqR, r_seqB, r_seqC, r_seqE, r_seqS, r_bifT, r_bifF, r_bifE, r_ret, r_retE, r_put, r_putE, r_outR, r_outN, r_outE, r_ap2, r_bol, r_neg, r_bl, r_cons, r_getv, r_getb, r_tupl, r_lstl, r_loop, view_val, Res.bind_ok, Res.bind_err, Res.bind_stuck, Res.calm_ok, List.getElem?_cons_zero, List.getElem?_cons_succ, List.set_cons_zero, List.set_cons_succ, List.map_cons, List.map_nil, List.cons_append, List.nil_append, List.append_nil, List.length_cons, List.length_nil, List.replicate_succ, List.replicate_zero, Nat.reduceSub, Nat.reduceAdd, Nat.zero_add, Nat.sub_self, dAdd_int, dSub_int, dLt_int, dLe_int, dGt_int, dGe_int, dNeg_int, dInt_bl, dInt_int, dEq_int, dNe_int, decide_true, decide_false, Bool.not_true, Bool.not_false, if_true, if_false, Bool.false_eq_true, ofS_eq, String.reduceEq, e_chain, r_chn, r_chmT, r_chmF, e_sl, e_oN, e_oS, r_opt, r_slc, e_mM0, r_mm0, e_mM1, r_mm1, e_enum, r_enmL, r_enmT, e_zip, r_zpLL, r_zpLT, r_zpTL, r_zpTT, e_rg1, dDiv_int, dMod_int, Int.reduceLT, m__law_are_options, optsB, dIsi, D.ty, isiB, String.reduceBEq, Bool.or_false, Bool.false_or, Bool.or_self, Bool.and_false, Bool.false_and, Bool.and_true, Bool.true_and, Bool.or_true, Bool.true_or, Bool.and_self]
  · have ql : dLen (.tup xs) = .ok (.int xs.length) := rfl
    by_cases h1 : (1 : Int) ≤ xs.length
    · by_cases h4 : (xs.length : Int) ≤ most
      · have l1 : 1 ≤ xs.length := by omega
        have e : m__law_are_options_c0 (callF (k + 1)) [some (.val (.tup xs)), some (.val (.int most)), none] = .ok (.lst ((xs.filter fun x => !wholeB (-50) 50 x).map id)) :=
          mLc_f (as := xs) (g := id) (by simp only [e_run, e_seq, e_nil, e_brk, e_cnt, e_if, e_ret, e_retN, e_set, e_for, e_test, e_not, e_and, e_or, e_notV, e_andV, e_orV, e_ifE, e_m1, e_m2, e_c, e_var, e_varB, e_evN, e_evC, e_tup, e_lst, e_call, e_items, e_yes, r_seqN, r_seqR, r_seqB, r_seqC, r_seqE, r_seqS, r_bifT, r_bifF, r_bifE, r_ret, r_retE, r_put, r_putE, r_outR, r_outN, r_outE, r_ap2, r_bol, r_neg, r_bl, r_cons, r_getv, r_getb, r_tupl, r_lstl, r_loop, view_val, Res.bind_ok, Res.bind_err, Res.bind_stuck, Res.calm_ok, List.getElem?_cons_zero, List.getElem?_cons_succ, List.set_cons_zero, List.set_cons_succ, List.map_cons, List.map_nil, List.cons_append, List.nil_append, List.append_nil, List.length_cons, List.length_nil, List.replicate_succ, List.replicate_zero, Nat.reduceSub, Nat.reduceAdd, Nat.zero_add, Nat.sub_self, dAdd_int, dSub_int, dLt_int, dLe_int, dGt_int, dGe_int, dNeg_int, dInt_bl, dInt_int, dEq_int, dNe_int, decide_true, decide_false, Bool.not_true, Bool.not_false, if_true, if_false, Bool.false_eq_true, ofS_eq, String.reduceEq, e_chain, r_chn, r_chmT, r_chmF, e_sl, e_oN, e_oS, r_opt, r_slc, e_mM0, r_mm0, e_mM1, r_mm1, e_enum, r_enmL, r_enmT, e_zip, r_zpLL, r_zpLT, r_zpTL, r_zpTT, e_rg1, dDiv_int, dMod_int, Int.reduceLT, dItems, List.map_id]) (by omega) fun x hx => ⟨_, rfl, by
            have := L_whole k (gd_all h x hx) (-50) 50
            simp only [e_run, e_seq, e_nil, e_brk, e_cnt, e_if, e_ret, e_retN, e_set, e_for, e_test, e_not, e_and, e_or, e_notV, e_andV, e_orV, e_ifE, e_m1, e_m2, e_c, e_var, e_varB, e_evN, e_evC, e_tup, e_lst, e_call, e_items, e_yes, r_seqN, r_seqR, r_seqB, r_seqC, r_seqE, r_seqS, r_bifT, r_bifF, r_bifE, r_ret, r_retE, r_put, r_putE, r_outR, r_outN, r_outE, r_ap2, r_bol, r_neg, r_bl, r_cons, r_getv, r_getb, r_tupl, r_lstl, r_loop, view_val, Res.bind_ok, Res.bind_err, Res.bind_stuck, Res.calm_ok, List.getElem?_cons_zero, List.getElem?_cons_succ, List.set_cons_zero, List.set_cons_succ, List.map_cons, List.map_nil, List.cons_append, List.nil_append, List.append_nil, List.length_cons, List.length_nil, List.replicate_succ, List.replicate_zero, Nat.reduceSub, Nat.reduceAdd, Nat.zero_add, Nat.sub_self, dAdd_int, dSub_int, dLt_int, dLe_int, dGt_int, dGe_int, dNeg_int, dInt_bl, dInt_int, dEq_int, dNe_int, decide_true, decide_false, Bool.not_true, Bool.not_false, if_true, if_false, Bool.false_eq_true, ofS_eq, String.reduceEq, e_chain, r_chn, r_chmT, r_chmF, e_sl, e_oN, e_oS, r_opt, r_slc, e_mM0, r_mm0, e_mM1, r_mm1, e_enum, r_enmL, r_enmT, e_zip, r_zpLL, r_zpLT, r_zpTL, r_zpTT, e_rg1, dDiv_int, dMod_int, Int.reduceLT, wipeE, id, this], fun _ => by simp only [e_run, e_seq, e_nil, e_brk, e_cnt, e_if, e_ret, e_retN, e_set, e_for, e_test, e_not, e_and, e_or, e_notV, e_andV, e_orV, e_ifE, e_m1, e_m2, e_c, e_var, e_varB, e_evN, e_evC, e_tup, e_lst, e_call, e_items, e_yes, r_seqN, r_seqR, r_seqB, r_seqC, r_seqE, r_seqS, r_bifT, r_bifF, r_bifE, r_ret, r_retE, r_put, r_putE, r_outR, r_outN, r_outE, r_ap2, r_bol, r_neg, r_bl, r_cons, r_getv, r_getb, r_tupl, r_lstl, r_loop, view_val, Res.bind_ok, Res.bind_err, Res.bind_stuck, Res.calm_ok, List.getElem?_cons_zero, List.getElem?_cons_succ, List.set_cons_zero, List.set_cons_succ, List.map_cons, List.map_nil, List.cons_append, List.nil_append, List.append_nil, List.length_cons, List.length_nil, List.replicate_succ, List.replicate_zero, Nat.reduceSub, Nat.reduceAdd, Nat.zero_add, Nat.sub_self, dAdd_int, dSub_int, dLt_int, dLe_int, dGt_int, dGe_int, dNeg_int, dInt_bl, dInt_int, dEq_int, dNe_int, decide_true, decide_false, Bool.not_true, Bool.not_false, if_true, if_false, Bool.false_eq_true, ofS_eq, String.reduceEq, e_chain, r_chn, r_chmT, r_chmF, e_sl, e_oN, e_oS, r_opt, r_slc, e_mM0, r_mm0, e_mM1, r_mm1, e_enum, r_enmL, r_enmT, e_zip, r_zpLL, r_zpLT, r_zpTL, r_zpTT, e_rg1, dDiv_int, dMod_int, Int.reduceLT, wipeE, id]⟩
        rw [List.map_id] at e
        have q : dEq (.lst (xs.filter fun x => !wholeB (-50) 50 x)) (.lst []) = .ok (.bl (xs.all (wholeB (-50) 50))) := by
          rw [dEq_nil (n := m) (fun y hy => gd_all h y (List.mem_filter.mp hy).1) hm, filter_none]
        simp only [e_run, e_seq, e_nil, e_brk, e_cnt, e_if, e_ret, e_retN, e_set, e_for, e_test, e_not, e_and, e_or, e_notV, e_andV, e_orV, e_ifE, e_m1, e_m2, e_c, e_var, e_varB, e_evN, e_evC, e_tup, e_lst, e_call, e_items, e_yes, r_seqN, r_seqR, r_seqB, r_seqC, r_seqE, r_seqS, r_bifT, r_bifF, r_bifE, r_ret, r_retE, r_put, r_putE, r_outR, r_outN, r_outE, r_ap2, r_bol, r_neg, r_bl, r_cons, r_getv, r_getb, r_tupl, r_lstl, r_loop, view_val, Res.bind_ok, Res.bind_err, Res.bind_stuck, Res.calm_ok, List.getElem?_cons_zero, List.getElem?_cons_succ, List.set_cons_zero, List.set_cons_succ, List.map_cons, List.map_nil, List.cons_append, List.nil_append, List.append_nil, List.length_cons, List.length_nil, List.replicate_succ, List.replicate_zero, Nat.reduceSub, Nat.reduceAdd, Nat.zero_add, Nat.sub_self, dAdd_int, dSub_int, dLt_int, dLe_int, dGt_int, dGe_int, dNeg_int, dInt_bl, dInt_int, dEq_int, dNe_int, decide_true, decide_false, Bool.not_true, Bool.not_false, if_true, if_false, Bool.false_eq_true, ofS_eq, String.reduceEq, e_chain, r_chn, r_chmT, r_chmF, e_sl, e_oN, e_oS, r_opt, r_slc, e_mM0, r_mm0, e_mM1, r_mm1, e_enum, r_enmL, r_enmT, e_zip, r_zpLL, r_zpLT, r_zpTL, r_zpTT, e_rg1, dDiv_int, dMod_int, Int.reduceLT, m__law_are_options, optsB, ql, h1, h4, l1, e, q, dIsi, D.ty, isiB, String.reduceBEq, Bool.or_false, Bool.false_or, Bool.or_self, Bool.and_false, Bool.false_and, Bool.and_true, Bool.true_and, Bool.or_true, Bool.true_or, Bool.and_self]
        cases hw : xs.all (wholeB (-50) 50)
        · simp only [e_run, e_seq, e_nil, e_brk, e_cnt, e_if, e_ret, e_retN, e_set, e_for, e_test, e_not, e_and, e_or, e_notV, e_andV, e_orV, e_ifE, e_m1, e_m2, e_c, e_var, e_varB, e_evN, e_evC, e_tup, e_lst, e_call, e_items, e_yes, r_seqN, r_seqR, r_seqB, r_seqC, r_seqE, r_seqS, r_bifT, r_bifF, r_bifE, r_ret, r_retE, r_put, r_putE, r_outR, r_outN, r_outE, r_ap2, r_bol, r_neg, r_bl, r_cons, r_getv, r_getb, r_tupl, r_lstl, r_loop, view_val, Res.bind_ok, Res.bind_err, Res.bind_stuck, Res.calm_ok, List.getElem?_cons_zero, List.getElem?_cons_succ, List.set_cons_zero, List.set_cons_succ, List.map_cons, List.map_nil, List.cons_append, List.nil_append, List.append_nil, List.length_cons, List.length_nil, List.replicate_succ, List.replicate_zero, Nat.reduceSub, Nat.reduceAdd, Nat.zero_add, Nat.sub_self, dAdd_int, dSub_int, dLt_int, dLe_int, dGt_int, dGe_int, dNeg_int, dInt_bl, dInt_int, dEq_int, dNe_int, decide_true, decide_false, Bool.not_true, Bool.not_false, if_true, if_false, Bool.false_eq_true, ofS_eq, String.reduceEq, e_chain, r_chn, r_chmT, r_chmF, e_sl, e_oN, e_oS, r_opt, r_slc, e_mM0, r_mm0, e_mM1, r_mm1, e_enum, r_enmL, r_enmT, e_zip, r_zpLL, r_zpLT, r_zpTL, r_zpTT, e_rg1, dDiv_int, dMod_int, Int.reduceLT, dIsi, D.ty, isiB, String.reduceBEq, Bool.or_false, Bool.false_or, Bool.or_self, Bool.and_false, Bool.false_and, Bool.and_true, Bool.true_and, Bool.or_true, Bool.true_or, Bool.and_self]
        · have z := wholes_int hw
          have r := L_rises k (xs.map intOf) (by rw [List.length_map]; omega)
          rw [← z] at r
          simp only [e_run, e_seq, e_nil, e_brk, e_cnt, e_if, e_ret, e_retN, e_set, e_for, e_test, e_not, e_and, e_or, e_notV, e_andV, e_orV, e_ifE, e_m1, e_m2, e_c, e_var, e_varB, e_evN, e_evC, e_tup, e_lst, e_call, e_items, e_yes, r_seqN, r_seqR, r_seqB, r_seqC, r_seqE, r_seqS, r_bifT, r_bifF, r_bifE, r_ret, r_retE, r_put, r_putE, r_outR, r_outN, r_outE, r_ap2, r_bol, r_neg, r_bl, r_cons, r_getv, r_getb, r_tupl, r_lstl, r_loop, view_val, Res.bind_ok, Res.bind_err, Res.bind_stuck, Res.calm_ok, List.getElem?_cons_zero, List.getElem?_cons_succ, List.set_cons_zero, List.set_cons_succ, List.map_cons, List.map_nil, List.cons_append, List.nil_append, List.append_nil, List.length_cons, List.length_nil, List.replicate_succ, List.replicate_zero, Nat.reduceSub, Nat.reduceAdd, Nat.zero_add, Nat.sub_self, dAdd_int, dSub_int, dLt_int, dLe_int, dGt_int, dGe_int, dNeg_int, dInt_bl, dInt_int, dEq_int, dNe_int, decide_true, decide_false, Bool.not_true, Bool.not_false, if_true, if_false, Bool.false_eq_true, ofS_eq, String.reduceEq, e_chain, r_chn, r_chmT, r_chmF, e_sl, e_oN, e_oS, r_opt, r_slc, e_mM0, r_mm0, e_mM1, r_mm1, e_enum, r_enmL, r_enmT, e_zip, r_zpLL, r_zpLT, r_zpTL, r_zpTT, e_rg1, dDiv_int, dMod_int, Int.reduceLT, r, risD, dIsi, D.ty, isiB, String.reduceBEq, Bool.or_false, Bool.false_or, Bool.or_self, Bool.and_false, Bool.false_and, Bool.and_true, Bool.true_and, Bool.or_true, Bool.true_or, Bool.and_self]
      · simp only [e_run, e_seq, e_nil, e_brk, e_cnt, e_if, e_ret, e_retN, e_set, e_for, e_test, e_not, e_and, e_or, e_notV, e_andV, e_orV, e_ifE, e_m1, e_m2, e_c, e_var, e_varB, e_evN, e_evC, e_tup, e_lst, e_call, e_items, e_yes, r_seqN, r_seqR, r_seqB, r_seqC, r_seqE, r_seqS, r_bifT, r_bifF, r_bifE, r_ret, r_retE, r_put, r_putE, r_outR, r_outN, r_outE, r_ap2, r_bol, r_neg, r_bl, r_cons, r_getv, r_getb, r_tupl, r_lstl, r_loop, view_val, Res.bind_ok, Res.bind_err, Res.bind_stuck, Res.calm_ok, List.getElem?_cons_zero, List.getElem?_cons_succ, List.set_cons_zero, List.set_cons_succ, List.map_cons, List.map_nil, List.cons_append, List.nil_append, List.append_nil, List.length_cons, List.length_nil, List.replicate_succ, List.replicate_zero, Nat.reduceSub, Nat.reduceAdd, Nat.zero_add, Nat.sub_self, dAdd_int, dSub_int, dLt_int, dLe_int, dGt_int, dGe_int, dNeg_int, dInt_bl, dInt_int, dEq_int, dNe_int, decide_true, decide_false, Bool.not_true, Bool.not_false, if_true, if_false, Bool.false_eq_true, ofS_eq, String.reduceEq, e_chain, r_chn, r_chmT, r_chmF, e_sl, e_oN, e_oS, r_opt, r_slc, e_mM0, r_mm0, e_mM1, r_mm1, e_enum, r_enmL, r_enmT, e_zip, r_zpLL, r_zpLT, r_zpTL, r_zpTT, e_rg1, dDiv_int, dMod_int, Int.reduceLT, m__law_are_options, optsB, ql, h1, h4, dIsi, D.ty, isiB, String.reduceBEq, Bool.or_false, Bool.false_or, Bool.or_self, Bool.and_false, Bool.false_and, Bool.and_true, Bool.true_and, Bool.or_true, Bool.true_or, Bool.and_self]
    · have l1 : ¬ 1 ≤ xs.length := by omega
      simp only [e_run, e_seq, e_nil, e_brk, e_cnt, e_if, e_ret, e_retN, e_set, e_for, e_test, e_not, e_and, e_or, e_notV, e_andV, e_orV, e_ifE, e_m1, e_m2, e_c, e_var, e_varB, e_evN, e_evC, e_tup, e_lst, e_call, e_items, e_yes, r_seqN, r_seqR, r_seqB, r_seqC, r_seqE, r_seqS, r_bifT, r_bifF, r_bifE, r_ret, r_retE, r_put, r_putE, r_outR, r_outN, r_outE, r_ap2, r_bol, r_neg, r_bl, r_cons, r_getv, r_getb, r_tupl, r_lstl, r_loop, view_val, Res.bind_ok, Res.bind_err, Res.bind_stuck, Res.calm_ok, List.getElem?_cons_zero, List.getElem?_cons_succ, List.set_cons_zero, List.set_cons_succ, List.map_cons, List.map_nil, List.cons_append, List.nil_append, List.append_nil, List.length_cons, List.length_nil, List.replicate_succ, List.replicate_zero, Nat.reduceSub, Nat.reduceAdd, Nat.zero_add, Nat.sub_self, dAdd_int, dSub_int, dLt_int, dLe_int, dGt_int, dGe_int, dNeg_int, dInt_bl, dInt_int, dEq_int, dNe_int, decide_true, decide_false, Bool.not_true, Bool.not_false, if_true, if_false, Bool.false_eq_true, ofS_eq, String.reduceEq, e_chain, r_chn, r_chmT, r_chmF, e_sl, e_oN, e_oS, r_opt, r_slc, e_mM0, r_mm0, e_mM1, r_mm1, e_enum, r_enmL, r_enmT, e_zip, r_zpLL, r_zpLT, r_zpTL, r_zpTT, e_rg1, dDiv_int, dMod_int, Int.reduceLT, m__law_are_options, optsB, ql, h1, l1, dIsi, D.ty, isiB, String.reduceBEq, Bool.or_false, Bool.false_or, Bool.or_self, Bool.and_false, Bool.false_and, Bool.and_true, Bool.true_and, Bool.or_true, Bool.true_or, Bool.and_self]
  · simp only [e_run, e_seq, e_nil, e_brk, e_cnt, e_if, e_ret, e_retN, e_set, e_for, e_test, e_not, e_and, e_or, e_notV, e_andV, e_orV, e_ifE, e_m1, e_m2, e_c, e_var, e_varB, e_evN, e_evC, e_tup, e_lst, e_call, e_items, e_yes, r_seqN, r_seqR, r_seqB, r_seqC, r_seqE, r_seqS, r_bifT, r_bifF, r_bifE, r_ret, r_retE, r_put, r_putE, r_outR, r_outN, r_outE, r_ap2, r_bol, r_neg, r_bl, r_cons, r_getv, r_getb, r_tupl, r_lstl, r_loop, view_val, Res.bind_ok, Res.bind_err, Res.bind_stuck, Res.calm_ok, List.getElem?_cons_zero, List.getElem?_cons_succ, List.set_cons_zero, List.set_cons_succ, List.map_cons, List.map_nil, List.cons_append, List.nil_append, List.append_nil, List.length_cons, List.length_nil, List.replicate_succ, List.replicate_zero, Nat.reduceSub, Nat.reduceAdd, Nat.zero_add, Nat.sub_self, dAdd_int, dSub_int, dLt_int, dLe_int, dGt_int, dGe_int, dNeg_int, dInt_bl, dInt_int, dEq_int, dNe_int, decide_true, decide_false, Bool.not_true, Bool.not_false, if_true, if_false, Bool.false_eq_true, ofS_eq, String.reduceEq, e_chain, r_chn, r_chmT, r_chmF, e_sl, e_oN, e_oS, r_opt, r_slc, e_mM0, r_mm0, e_mM1, r_mm1, e_enum, r_enmL, r_enmT, e_zip, r_zpLL, r_zpLT, r_zpTL, r_zpTT, e_rg1, dDiv_int, dMod_int, Int.reduceLT, m__law_are_options, optsB, dIsi, D.ty, isiB, String.reduceBEq, Bool.or_false, Bool.false_or, Bool.or_self, Bool.and_false, Bool.false_and, Bool.and_true, Bool.true_and, Bool.or_true, Bool.true_or, Bool.and_self]

theorem len2 (xs : List D) : (∃ a b, xs = [a, b]) ∨ (¬ (xs.length : Int) = 2 ∧ ∀ a b, xs ≠ [a, b]) := by
  match xs with
  | [] => exact .inr ⟨by simp, by simp⟩
  | [a] => exact .inr ⟨by simp, by simp⟩
  | [a, b] => exact .inl ⟨a, b, rfl⟩
  | a :: b :: c :: r => exact .inr ⟨by simp; omega, by simp⟩
theorem lotB_tup {xs : List D} (h : ∀ a b, xs ≠ [a, b]) : lotB (.tup xs) = false := by
  unfold lotB
  split
  · rename_i a b e; cases e; exact absurd rfl (h a b)
  · rfl
theorem P_lot_body (k : Nat) {m : Nat} {d : D} (h : gd m d = true) (v : D) : m_are_lots_b0 (callF (k + 2)) [some (.val v), some (.val d)] = if lotB d = true then .ok (.nx [some (.val v), some (.val d)]) else .ok (.rt (.bl false)) := by
  rcases gd_ty h with rfl | ⟨b, rfl⟩ | ⟨i, rfl⟩ | ⟨x, rfl, ox, lx⟩ | ⟨xs, rfl⟩ | ⟨xs, rfl⟩
  · simp only [e_run, e_seq, e_nil, e_brk, e_cnt, e_if, e_ret, e_retN, e_set, e_for, e_test, e_not, e_and, e_or, e_notV, e_andV, e_orV, e_ifE, e_m1, e_m2, e_c, e_var, e_varB, e_evN, e_evC, e_tup, e_lst, e_call, e_items, e_yes, r_seqN, r_seqR, r_seqB, r_seqC, r_seqE, r_seqS, r_bifT, r_bifF, r_bifE, r_ret, r_retE, r_put, r_putE, r_outR, r_outN, r_outE, r_ap2, r_bol, r_neg, r_bl, r_cons, r_getv, r_getb, r_tupl, r_lstl, r_loop, view_val, Res.bind_ok, Res.bind_err, Res.bind_stuck, Res.calm_ok, List.getElem?_cons_zero, List.getElem?_cons_succ, List.set_cons_zero, List.set_cons_succ, List.map_cons, List.map_nil, List.cons_append, List.nil_append, List.append_nil, List.length_cons, List.length_nil, List.replicate_succ, List.replicate_zero, Nat.reduceSub, Nat.reduceAdd, Nat.zero_add, Nat.sub_self, dAdd_int, dSub_int, dLt_int, dLe_int, dGt_int, dGe_int, dNeg_int, dInt_bl, dInt_int, dEq_int, dNe_int, decide_true, decide_false, Bool.not_true, Bool.not_false, if_true, if_false, Bool.false_eq_true, ofS_eq, String.reduceEq, e_chain, r_chn, r_chmT, r_chmF, e_sl, e_oN, e_oS, r_opt, r_slc, e_mM0, r_mm0, e_mM1, r_mm1, e_enum, r_enmL, r_enmT, e_zip, r_zpLL, r_zpLT, r_zpTL, r_zpTT, e_rg1, dDiv_int, dMod_int, Int.reduceLT, m_are_lots_b0, lotB, dIsi, D.ty, isiB, String.reduceBEq, Bool.or_false, Bool.false_or, Bool.or_self, Bool.and_false, Bool.false_and, Bool.and_true, Bool.true_and, Bool.or_true, Bool.true_or, Bool.and_self]
  · simp only [e_run, e_seq, e_nil, e_brk, e_cnt, e_if, e_ret, e_retN, e_set, e_for, e_test, e_not, e_and, e_or, e_notV, e_andV, e_orV, e_ifE, e_m1, e_m2, e_c, e_var, e_varB, e_evN, e_evC, e_tup, e_lst, e_call, e_items, e_yes, r_seqN, r_seqR, r_seqB, r_seqC, r_seqE, r_seqS, r_bifT, r_bifF, r_bifE, r_ret, r_retE, r_put, r_putE, r_outR, r_outN, r_outE, r_ap2, r_bol, r_neg, r_bl, r_cons, r_getv, r_getb, r_tupl, r_lstl, r_loop, view_val, Res.bind_ok, Res.bind_err, Res.bind_stuck, Res.calm_ok, List.getElem?_cons_zero, List.getElem?_cons_succ, List.set_cons_zero, List.set_cons_succ, List.map_cons, List.map_nil, List.cons_append, List.nil_append, List.append_nil, List.length_cons, List.length_nil, List.replicate_succ, List.replicate_zero, Nat.reduceSub, Nat.reduceAdd, Nat.zero_add, Nat.sub_self, dAdd_int, dSub_int, dLt_int, dLe_int, dGt_int, dGe_int, dNeg_int, dInt_bl, dInt_int, dEq_int, dNe_int, decide_true, decide_false, Bool.not_true, Bool.not_false, if_true, if_false, Bool.false_eq_true, ofS_eq, String.reduceEq, e_chain, r_chn, r_chmT, r_chmF, e_sl, e_oN, e_oS, r_opt, r_slc, e_mM0, r_mm0, e_mM1, r_mm1, e_enum, r_enmL, r_enmT, e_zip, r_zpLL, r_zpLT, r_zpTL, r_zpTT, e_rg1, dDiv_int, dMod_int, Int.reduceLT, m_are_lots_b0, lotB, dIsi, D.ty, isiB, String.reduceBEq, Bool.or_false, Bool.false_or, Bool.or_self, Bool.and_false, Bool.false_and, Bool.and_true, Bool.true_and, Bool.or_true, Bool.true_or, Bool.and_self]
  · simp only [e_run, e_seq, e_nil, e_brk, e_cnt, e_if, e_ret, e_retN, e_set, e_for, e_test, e_not, e_and, e_or, e_notV, e_andV, e_orV, e_ifE, e_m1, e_m2, e_c, e_var, e_varB, e_evN, e_evC, e_tup, e_lst, e_call, e_items, e_yes, r_seqN, r_seqR, r_seqB, r_seqC, r_seqE, r_seqS, r_bifT, r_bifF, r_bifE, r_ret, r_retE, r_put, r_putE, r_outR, r_outN, r_outE, r_ap2, r_bol, r_neg, r_bl, r_cons, r_getv, r_getb, r_tupl, r_lstl, r_loop, view_val, Res.bind_ok, Res.bind_err, Res.bind_stuck, Res.calm_ok, List.getElem?_cons_zero, List.getElem?_cons_succ, List.set_cons_zero, List.set_cons_succ, List.map_cons, List.map_nil, List.cons_append, List.nil_append, List.append_nil, List.length_cons, List.length_nil, List.replicate_succ, List.replicate_zero, Nat.reduceSub, Nat.reduceAdd, Nat.zero_add, Nat.sub_self, dAdd_int, dSub_int, dLt_int, dLe_int, dGt_int, dGe_int, dNeg_int, dInt_bl, dInt_int, dEq_int, dNe_int, decide_true, decide_false, Bool.not_true, Bool.not_false, if_true, if_false, Bool.false_eq_true, ofS_eq, String.reduceEq, e_chain, r_chn, r_chmT, r_chmF, e_sl, e_oN, e_oS, r_opt, r_slc, e_mM0, r_mm0, e_mM1, r_mm1, e_enum, r_enmL, r_enmT, e_zip, r_zpLL, r_zpLT, r_zpTL, r_zpTT, e_rg1, dDiv_int, dMod_int, Int.reduceLT, m_are_lots_b0, lotB, dIsi, D.ty, isiB, String.reduceBEq, Bool.or_false, Bool.false_or, Bool.or_self, Bool.and_false, Bool.false_and, Bool.and_true, Bool.true_and, Bool.or_true, Bool.true_or, Bool.and_self]
  · simp only [e_run, e_seq, e_nil, e_brk, e_cnt, e_if, e_ret, e_retN, e_set, e_for, e_test, e_not, e_and, e_or, e_notV, e_andV, e_orV, e_ifE, e_m1, e_m2, e_c, e_var, e_varB, e_evN, e_evC, e_tup, e_lst, e_call, e_items, e_yes, r_seqN, r_seqR, r_seqB, r_seqC, r_seqE, r_seqS, r_bifT, r_bifF, r_bifE, r_ret, r_retE, r_put, r_putE, r_outR, r_outN, r_outE, r_ap2, r_bol, r_neg, r_bl, r_cons, r_getv, r_getb, r_tupl, r_lstl, r_loop, view_val, Res.bind_ok, Res.bind_err, Res.bind_stuck, Res.calm_ok, List.getElem?_cons_zero, List.getElem?_cons_succ, List.set_cons_zero, List.set_cons_succ, List.map_cons, List.map_nil, List.cons_append, List.nil_append, List.append_nil, List.length_cons, List.length_nil, List.replicate_succ, List.replicate_zero, Nat.reduceSub, Nat.reduceAdd, Nat.zero_add, Nat.sub_self, dAdd_int, dSub_int, dLt_int, dLe_int, dGt_int, dGe_int, dNeg_int, dInt_bl, dInt_int, dEq_int, dNe_int, decide_true, decide_false, Bool.not_true, Bool.not_false, if_true, if_false, Bool.false_eq_true, ofS_eq, String.reduceEq, e_chain, r_chn, r_chmT, r_chmF, e_sl, e_oN, e_oS, r_opt, r_slc, e_mM0, r_mm0, e_mM1, r_mm1, e_enum, r_enmL, r_enmT, e_zip, r_zpLL, r_zpLT, r_zpTL, r_zpTT, e_rg1, dDiv_int, dMod_int, Int.reduceLT, m_are_lots_b0, lotB, dIsi, D.ty, isiB, String.reduceBEq, Bool.or_false, Bool.false_or, Bool.or_self, Bool.and_false, Bool.false_and, Bool.and_true, Bool.true_and, Bool.or_true, Bool.true_or, Bool.and_self]
  · rcases len2 xs with ⟨a, b, rfl⟩ | ⟨hl, hx⟩
    · have i0 : dIx (.tup [a, b]) (.int 0) = .ok a := rfl
      have i1 : dIx (.tup [a, b]) (.int 1) = .ok b := rfl
      have l2 : dLen (.tup [a, b]) = .ok (.int 2) := rfl
      have e1 := P_small k (gd_all h a (by simp))
      have e2 : callF (k + 2) .is_number [b, .int 1, .int 9] = _ := P_number (k + 1) (gd_all h b (by simp)) 1 9
      cases h1 : wholeB (-50) 50 a <;> cases h2 : wholeB 1 9 b <;> rw [h1] at e1 <;> rw [h2] at e2 <;> simp only [e_run, e_seq, e_nil, e_brk, e_cnt, e_if, e_ret, e_retN, e_set, e_for, e_test, e_not, e_and, e_or, e_notV, e_andV, e_orV, e_ifE, e_m1, e_m2, e_c, e_var, e_varB, e_evN, e_evC, e_tup, e_lst, e_call, e_items, e_yes, r_seqN, r_seqR, r_seqB, r_seqC, r_seqE, r_seqS, r_bifT, r_bifF, r_bifE, r_ret, r_retE, r_put, r_putE, r_outR, r_outN, r_outE, r_ap2, r_bol, r_neg, r_bl, r_cons, r_getv, r_getb, r_tupl, r_lstl, r_loop, view_val, Res.bind_ok, Res.bind_err, Res.bind_stuck, Res.calm_ok, List.getElem?_cons_zero, List.getElem?_cons_succ, List.set_cons_zero, List.set_cons_succ, List.map_cons, List.map_nil, List.cons_append, List.nil_append, List.append_nil, List.length_cons, List.length_nil, List.replicate_succ, List.replicate_zero, Nat.reduceSub, Nat.reduceAdd, Nat.zero_add, Nat.sub_self, dAdd_int, dSub_int, dLt_int, dLe_int, dGt_int, dGe_int, dNeg_int, dInt_bl, dInt_int, dEq_int, dNe_int, decide_true, decide_false, Bool.not_true, Bool.not_false, if_true, if_false, Bool.false_eq_true, ofS_eq, String.reduceEq, e_chain, r_chn, r_chmT, r_chmF, e_sl, e_oN, e_oS, r_opt, r_slc, e_mM0, r_mm0, e_mM1, r_mm1, e_enum, r_enmL, r_enmT, e_zip, r_zpLL, r_zpLT, r_zpTL, r_zpTT, e_rg1, dDiv_int, dMod_int, Int.reduceLT, m_are_lots_b0, lotB, i0, i1, l2, e1, e2, h1, h2, dIsi, D.ty, isiB, String.reduceBEq, Bool.or_false, Bool.false_or, Bool.or_self, Bool.and_false, Bool.false_and, Bool.and_true, Bool.true_and, Bool.or_true, Bool.true_or, Bool.and_self]
    · have l2 : dLen (.tup xs) = .ok (.int xs.length) := rfl
      rw [lotB_tup hx]
      simp only [e_run, e_seq, e_nil, e_brk, e_cnt, e_if, e_ret, e_retN, e_set, e_for, e_test, e_not, e_and, e_or, e_notV, e_andV, e_orV, e_ifE, e_m1, e_m2, e_c, e_var, e_varB, e_evN, e_evC, e_tup, e_lst, e_call, e_items, e_yes, r_seqN, r_seqR, r_seqB, r_seqC, r_seqE, r_seqS, r_bifT, r_bifF, r_bifE, r_ret, r_retE, r_put, r_putE, r_outR, r_outN, r_outE, r_ap2, r_bol, r_neg, r_bl, r_cons, r_getv, r_getb, r_tupl, r_lstl, r_loop, view_val, Res.bind_ok, Res.bind_err, Res.bind_stuck, Res.calm_ok, List.getElem?_cons_zero, List.getElem?_cons_succ, List.set_cons_zero, List.set_cons_succ, List.map_cons, List.map_nil, List.cons_append, List.nil_append, List.append_nil, List.length_cons, List.length_nil, List.replicate_succ, List.replicate_zero, Nat.reduceSub, Nat.reduceAdd, Nat.zero_add, Nat.sub_self, dAdd_int, dSub_int, dLt_int, dLe_int, dGt_int, dGe_int, dNeg_int, dInt_bl, dInt_int, dEq_int, dNe_int, decide_true, decide_false, Bool.not_true, Bool.not_false, if_true, if_false, Bool.false_eq_true, ofS_eq, String.reduceEq, e_chain, r_chn, r_chmT, r_chmF, e_sl, e_oN, e_oS, r_opt, r_slc, e_mM0, r_mm0, e_mM1, r_mm1, e_enum, r_enmL, r_enmT, e_zip, r_zpLL, r_zpLT, r_zpTL, r_zpTT, e_rg1, dDiv_int, dMod_int, Int.reduceLT, m_are_lots_b0, l2, hl, dIsi, D.ty, isiB, String.reduceBEq, Bool.or_false, Bool.false_or, Bool.or_self, Bool.and_false, Bool.false_and, Bool.and_true, Bool.true_and, Bool.or_true, Bool.true_or, Bool.and_self]
  · simp only [e_run, e_seq, e_nil, e_brk, e_cnt, e_if, e_ret, e_retN, e_set, e_for, e_test, e_not, e_and, e_or, e_notV, e_andV, e_orV, e_ifE, e_m1, e_m2, e_c, e_var, e_varB, e_evN, e_evC, e_tup, e_lst, e_call, e_items, e_yes, r_seqN, r_seqR, r_seqB, r_seqC, r_seqE, r_seqS, r_bifT, r_bifF, r_bifE, r_ret, r_retE, r_put, r_putE, r_outR, r_outN, r_outE, r_ap2, r_bol, r_neg, r_bl, r_cons, r_getv, r_getb, r_tupl, r_lstl, r_loop, view_val, Res.bind_ok, Res.bind_err, Res.bind_stuck, Res.calm_ok, List.getElem?_cons_zero, List.getElem?_cons_succ, List.set_cons_zero, List.set_cons_succ, List.map_cons, List.map_nil, List.cons_append, List.nil_append, List.append_nil, List.length_cons, List.length_nil, List.replicate_succ, List.replicate_zero, Nat.reduceSub, Nat.reduceAdd, Nat.zero_add, Nat.sub_self, dAdd_int, dSub_int, dLt_int, dLe_int, dGt_int, dGe_int, dNeg_int, dInt_bl, dInt_int, dEq_int, dNe_int, decide_true, decide_false, Bool.not_true, Bool.not_false, if_true, if_false, Bool.false_eq_true, ofS_eq, String.reduceEq, e_chain, r_chn, r_chmT, r_chmF, e_sl, e_oN, e_oS, r_opt, r_slc, e_mM0, r_mm0, e_mM1, r_mm1, e_enum, r_enmL, r_enmT, e_zip, r_zpLL, r_zpLT, r_zpTL, r_zpTT, e_rg1, dDiv_int, dMod_int, Int.reduceLT, m_are_lots_b0, lotB, dIsi, D.ty, isiB, String.reduceBEq, Bool.or_false, Bool.false_or, Bool.or_self, Bool.and_false, Bool.false_and, Bool.and_true, Bool.true_and, Bool.or_true, Bool.true_or, Bool.and_self]
theorem P_lots_loop (k : Nat) {m : Nat} (v : D) : ∀ (xs : List D) (s : Option O), (∀ x ∈ xs, gd m x = true) → (xs.all lotB = true → ∃ s', forM (bName 1) (m_are_lots_b0 (callF (k + 2))) xs [some (.val v), s] = .ok (.nx [some (.val v), s'])) ∧
    (xs.all lotB = false → forM (bName 1) (m_are_lots_b0 (callF (k + 2))) xs [some (.val v), s] = .ok (.rt (.bl false)))
  | [], s, _ => ⟨fun _ => ⟨s, rfl⟩, fun h => by cases h⟩
  | x :: xs, s, h => by
    have e := P_lot_body k (h x List.mem_cons_self) v
    cases hx : lotB x
    · rw [hx, if_neg (by decide)] at e
      refine ⟨fun h => by simp [hx] at h, fun _ => ?_⟩
      exact for_name_rt (by simp only [List.set_cons_zero, List.set_cons_succ, e])
    · rw [hx, if_pos rfl] at e
      obtain ⟨ih1, ih2⟩ := P_lots_loop k v xs (some (.val x)) fun y hy => h y (List.mem_cons_of_mem _ hy)
      refine ⟨fun h => ?_, fun h => ?_⟩
      · obtain ⟨s', e'⟩ := ih1 (by simpa [hx] using h)
        exact ⟨s', by rw [for_name (i := 1) (ρ := [some (.val v), s]) e, e']⟩
      · rw [for_name (i := 1) (ρ := [some (.val v), s]) e, ih2 (by simpa [hx] using h)]
theorem lot_is {d : D} (h : lotB d = true) : ∃ a b, d = .tup [a, b] ∧ wholeB (-50) 50 a = true ∧ wholeB 1 9 b = true := by
  unfold lotB at h
  split at h
  · rename_i a b
    rw [Bool.and_eq_true] at h
    exact ⟨a, b, rfl, h.1, h.2⟩
  · cases h
theorem lots_fst {xs : List D} (h : xs.all lotB = true) : (xs.map fstD).all (wholeB (-50) 50) = true := by
  rw [List.all_map, List.all_eq_true]
  intro x hx
  obtain ⟨a, b, rfl, h1, _⟩ := lot_is (List.all_eq_true.mp h x hx)
  exact h1
theorem P_lots (k : Nat) {m : Nat} {d : D} (h : gd m d = true) : callF (k + 3) .are_lots [d] = .ok (.bl (lotsB d)) := by
  show runM 2 (m_are_lots (callF (k + 2))) _ = _
  rcases gd_ty h with rfl | ⟨b, rfl⟩ | ⟨i, rfl⟩ | ⟨x, rfl, ox, lx⟩ | ⟨xs, rfl⟩ | ⟨xs, rfl⟩
  · simp only [e_run, e_seq, e_nil, e_brk, e_cnt, e_if, e_ret, e_retN, e_set, e_for, e_test, e_not, e_and, e_or, e_notV, e_andV, e_orV, e_ifE, e_m1, e_m2, e_c, e_var, e_varB, e_evN, e_evC, e_tup, e_lst, e_call, e_items, e_yes, r_seqN, r_seqR, r_seqB, r_seqC, r_seqE, r_seqS, r_bifT, r_bifF, r_bifE, r_ret, r_retE, r_put, r_putE, r_outR, r_outN, r_outE, r_ap2, r_bol, r_neg, r_bl, r_cons, r_getv, r_getb, r_tupl, r_lstl, r_loop, view_val, Res.bind_ok, Res.bind_err, Res.bind_stuck, Res.calm_ok, List.getElem?_cons_zero, List.getElem?_cons_succ, List.set_cons_zero, List.set_cons_succ, List.map_cons, List.map_nil, List.cons_append, List.nil_append, List.append_nil, List.length_cons, List.length_nil, List.replicate_succ, List.replicate_zero, Nat.reduceSub, Nat.reduceAdd, Nat.zero_add, Nat.sub_self, dAdd_int, dSub_int, dLt_int, dLe_int, dGt_int, dGe_int, dNeg_int, dInt_bl, dInt_int, dEq_int, dNe_int, decide_true, decide_false, Bool.not_true, Bool.not_false, if_true, if_false, Bool.false_eq_true, ofS_eq, String.reduceEq, e_chain, r_chn, r_chmT, r_chmF, e_sl, e_oN, e_oS, r_opt, r_slc, e_mM0, r_mm0, e_mM1, r_mm1, e_enum, r_enmL, r_enmT, e_zip, r_zpLL, r_zpLT, r_zpTL, r_zpTT, e_rg1, dDiv_int, dMod_int, Int.reduceLT, m_are_lots, lotsB, dIsi, D.ty, isiB, String.reduceBEq, Bool.or_false, Bool.false_or, Bool.or_self, Bool.and_false, Bool.false_and, Bool.and_true, Bool.true_and, Bool.or_true, Bool.true_or, Bool.and_self]
  · simp only [e_run, e_seq, e_nil, e_brk, e_cnt, e_if, e_ret, e_retN, e_set, e_for, e_test, e_not, e_and, e_or, e_notV, e_andV, e_orV, e_ifE, e_m1, e_m2, e_c, e_var, e_varB, e_evN, e_evC, e_tup, e_lst, e_call, e_items, e_yes, r_seqN, r_seqR, r_seqB, r_seqC, r_seqE, r_seqS, r_bifT, r_bifF, r_bifE, r_ret, r_retE, r_put, r_putE, r_outR, r_outN, r_outE, r_ap2, r_bol, r_neg, r_bl, r_cons, r_getv, r_getb, r_tupl, r_lstl, r_loop, view_val, Res.bind_ok, Res.bind_err, Res.bind_stuck, Res.calm_ok, List.getElem?_cons_zero, List.getElem?_cons_succ, List.set_cons_zero, List.set_cons_succ, List.map_cons, List.map_nil, List.cons_append, List.nil_append, List.append_nil, List.length_cons, List.length_nil, List.replicate_succ, List.replicate_zero, Nat.reduceSub, Nat.reduceAdd, Nat.zero_add, Nat.sub_self, dAdd_int, dSub_int, dLt_int, dLe_int, dGt_int, dGe_int, dNeg_int, dInt_bl, dInt_int, dEq_int, dNe_int, decide_true, decide_false, Bool.not_true, Bool.not_false, if_true, if_false, Bool.false_eq_true, ofS_eq, String.reduceEq, e_chain, r_chn, r_chmT, r_chmF, e_sl, e_oN, e_oS, r_opt, r_slc, e_mM0, r_mm0, e_mM1, r_mm1, e_enum, r_enmL, r_enmT, e_zip, r_zpLL, r_zpLT, r_zpTL, r_zpTT, e_rg1, dDiv_int, dMod_int, Int.reduceLT, m_are_lots, lotsB, dIsi, D.ty, isiB, String.reduceBEq, Bool.or_false, Bool.false_or, Bool.or_self, Bool.and_false, Bool.false_and, Bool.and_true, Bool.true_and, Bool.or_true, Bool.true_or, Bool.and_self]
  · simp only [e_run, e_seq, e_nil, e_brk, e_cnt, e_if, e_ret, e_retN, e_set, e_for, e_test, e_not, e_and, e_or, e_notV, e_andV, e_orV, e_ifE, e_m1, e_m2, e_c, e_var, e_varB, e_evN, e_evC, e_tup, e_lst, e_call, e_items, e_yes, r_seqN, r_seqR, r_seqB, r_seqC, r_seqE, r_seqS, r_bifT, r_bifF, r_bifE, r_ret, r_retE, r_put, r_putE, r_outR, r_outN, r_outE, r_ap2, r_bol, r_neg, r_bl, r_cons, r_getv, r_getb, r_tupl, r_lstl, r_loop, view_val, Res.bind_ok, Res.bind_err, Res.bind_stuck, Res.calm_ok, List.getElem?_cons_zero, List.getElem?_cons_succ, List.set_cons_zero, List.set_cons_succ, List.map_cons, List.map_nil, List.cons_append, List.nil_append, List.append_nil, List.length_cons, List.length_nil, List.replicate_succ, List.replicate_zero, Nat.reduceSub, Nat.reduceAdd, Nat.zero_add, Nat.sub_self, dAdd_int, dSub_int, dLt_int, dLe_int, dGt_int, dGe_int, dNeg_int, dInt_bl, dInt_int, dEq_int, dNe_int, decide_true, decide_false, Bool.not_true, Bool.not_false, if_true, if_false, Bool.false_eq_true, ofS_eq, String.reduceEq, e_chain, r_chn, r_chmT, r_chmF, e_sl, e_oN, e_oS, r_opt, r_slc, e_mM0, r_mm0, e_mM1, r_mm1, e_enum, r_enmL, r_enmT, e_zip, r_zpLL, r_zpLT, r_zpTL, r_zpTT, e_rg1, dDiv_int, dMod_int, Int.reduceLT, m_are_lots, lotsB, dIsi, D.ty, isiB, String.reduceBEq, Bool.or_false, Bool.false_or, Bool.or_self, Bool.and_false, Bool.false_and, Bool.and_true, Bool.true_and, Bool.or_true, Bool.true_or, Bool.and_self]
  · simp only [e_run, e_seq, e_nil, e_brk, e_cnt, e_if, e_ret, e_retN, e_set, e_for, e_test, e_not, e_and, e_or, e_notV, e_andV, e_orV, e_ifE, e_m1, e_m2, e_c, e_var, e_varB, e_evN, e_evC, e_tup, e_lst, e_call, e_items, e_yes, r_seqN, r_seqR, r_seqB, r_seqC, r_seqE, r_seqS, r_bifT, r_bifF, r_bifE, r_ret, r_retE, r_put, r_putE, r_outR, r_outN, r_outE, r_ap2, r_bol, r_neg, r_bl, r_cons, r_getv, r_getb, r_tupl, r_lstl, r_loop, view_val, Res.bind_ok, Res.bind_err, Res.bind_stuck, Res.calm_ok, List.getElem?_cons_zero, List.getElem?_cons_succ, List.set_cons_zero, List.set_cons_succ, List.map_cons, List.map_nil, List.cons_append, List.nil_append, List.append_nil, List.length_cons, List.length_nil, List.replicate_succ, List.replicate_zero, Nat.reduceSub, Nat.reduceAdd, Nat.zero_add, Nat.sub_self, dAdd_int, dSub_int, dLt_int, dLe_int, dGt_int, dGe_int, dNeg_int, dInt_bl, dInt_int, dEq_int, dNe_int, decide_true, decide_false, Bool.not_true, Bool.not_false, if_true, if_false, Bool.false_eq_true, ofS_eq, String.reduceEq, e_chain, r_chn, r_chmT, r_chmF, e_sl, e_oN, e_oS, r_opt, r_slc, e_mM0, r_mm0, e_mM1, r_mm1, e_enum, r_enmL, r_enmT, e_zip, r_zpLL, r_zpLT, r_zpTL, r_zpTT, e_rg1, dDiv_int, dMod_int, Int.reduceLT, m_are_lots, lotsB, dIsi, D.ty, isiB, String.reduceBEq, Bool.or_false, Bool.false_or, Bool.or_self, Bool.and_false, Bool.false_and, Bool.and_true, Bool.true_and, Bool.or_true, Bool.true_or, Bool.and_self]
  · have ql : dLen (.tup xs) = .ok (.int xs.length) := rfl
    have qi : dItems (.tup xs) = .ok xs := rfl
    by_cases h1 : (1 : Int) ≤ xs.length
    · by_cases h4 : (xs.length : Int) ≤ 5
      · have l1 : 1 ≤ xs.length := by omega
        have l5 : xs.length ≤ 5 := by omega
        obtain ⟨f1, f2⟩ := P_lots_loop k (m := m) (.tup xs) xs none (gd_all h)
        cases ha : xs.all lotB
        · simp only [e_run, e_seq, e_nil, e_brk, e_cnt, e_if, e_ret, e_retN, e_set, e_for, e_test, e_not, e_and, e_or, e_notV, e_andV, e_orV, e_ifE, e_m1, e_m2, e_c, e_var, e_varB, e_evN, e_evC, e_tup, e_lst, e_call, e_items, e_yes, r_seqN, r_seqR, r_seqB, r_seqC, r_seqE, r_seqS, r_bifT, r_bifF, r_bifE, r_ret, r_retE, r_put, r_putE, r_outR, r_outN, r_outE, r_ap2, r_bol, r_neg, r_bl, r_cons, r_getv, r_getb, r_tupl, r_lstl, r_loop, view_val, Res.bind_ok, Res.bind_err, Res.bind_stuck, Res.calm_ok, List.getElem?_cons_zero, List.getElem?_cons_succ, List.set_cons_zero, List.set_cons_succ, List.map_cons, List.map_nil, List.cons_append, List.nil_append, List.append_nil, List.length_cons, List.length_nil, List.replicate_succ, List.replicate_zero, Nat.reduceSub, Nat.reduceAdd, Nat.zero_add, Nat.sub_self, dAdd_int, dSub_int, dLt_int, dLe_int, dGt_int, dGe_int, dNeg_int, dInt_bl, dInt_int, dEq_int, dNe_int, decide_true, decide_false, Bool.not_true, Bool.not_false, if_true, if_false, Bool.false_eq_true, ofS_eq, String.reduceEq, e_chain, r_chn, r_chmT, r_chmF, e_sl, e_oN, e_oS, r_opt, r_slc, e_mM0, r_mm0, e_mM1, r_mm1, e_enum, r_enmL, r_enmT, e_zip, r_zpLL, r_zpLT, r_zpTL, r_zpTT, e_rg1, dDiv_int, dMod_int, Int.reduceLT, m_are_lots, lotsB, ql, qi, h1, h4, l1, l5, f2 ha, ha, dIsi, D.ty, isiB, String.reduceBEq, Bool.or_false, Bool.false_or, Bool.or_self, Bool.and_false, Bool.false_and, Bool.and_true, Bool.true_and, Bool.or_true, Bool.true_or, Bool.and_self]
        · obtain ⟨s', e'⟩ := f1 ha
          have c : m_are_lots_c0 (callF (k + 2)) [some (.val (.tup xs)), s'] = .ok (.lst (xs.map fstD)) :=
            mLc_m (as := xs) (g := id) (by simp only [e_run, e_seq, e_nil, e_brk, e_cnt, e_if, e_ret, e_retN, e_set, e_for, e_test, e_not, e_and, e_or, e_notV, e_andV, e_orV, e_ifE, e_m1, e_m2, e_c, e_var, e_varB, e_evN, e_evC, e_tup, e_lst, e_call, e_items, e_yes, r_seqN, r_seqR, r_seqB, r_seqC, r_seqE, r_seqS, r_bifT, r_bifF, r_bifE, r_ret, r_retE, r_put, r_putE, r_outR, r_outN, r_outE, r_ap2, r_bol, r_neg, r_bl, r_cons, r_getv, r_getb, r_tupl, r_lstl, r_loop, view_val, Res.bind_ok, Res.bind_err, Res.bind_stuck, Res.calm_ok, List.getElem?_cons_zero, List.getElem?_cons_succ, List.set_cons_zero, List.set_cons_succ, List.map_cons, List.map_nil, List.cons_append, List.nil_append, List.append_nil, List.length_cons, List.length_nil, List.replicate_succ, List.replicate_zero, Nat.reduceSub, Nat.reduceAdd, Nat.zero_add, Nat.sub_self, dAdd_int, dSub_int, dLt_int, dLe_int, dGt_int, dGe_int, dNeg_int, dInt_bl, dInt_int, dEq_int, dNe_int, decide_true, decide_false, Bool.not_true, Bool.not_false, if_true, if_false, Bool.false_eq_true, ofS_eq, String.reduceEq, e_chain, r_chn, r_chmT, r_chmF, e_sl, e_oN, e_oS, r_opt, r_slc, e_mM0, r_mm0, e_mM1, r_mm1, e_enum, r_enmL, r_enmT, e_zip, r_zpLL, r_zpLT, r_zpTL, r_zpTT, e_rg1, dDiv_int, dMod_int, Int.reduceLT, qi, List.map_id]) (by omega) fun x hx => by
              obtain ⟨a, b, rfl, _⟩ := lot_is (List.all_eq_true.mp ha x hx)
              have i0 : dIx (.tup [a, b]) (.int 0) = .ok a := rfl
              exact ⟨_, rfl, by simp only [e_run, e_seq, e_nil, e_brk, e_cnt, e_if, e_ret, e_retN, e_set, e_for, e_test, e_not, e_and, e_or, e_notV, e_andV, e_orV, e_ifE, e_m1, e_m2, e_c, e_var, e_varB, e_evN, e_evC, e_tup, e_lst, e_call, e_items, e_yes, r_seqN, r_seqR, r_seqB, r_seqC, r_seqE, r_seqS, r_bifT, r_bifF, r_bifE, r_ret, r_retE, r_put, r_putE, r_outR, r_outN, r_outE, r_ap2, r_bol, r_neg, r_bl, r_cons, r_getv, r_getb, r_tupl, r_lstl, r_loop, view_val, Res.bind_ok, Res.bind_err, Res.bind_stuck, Res.calm_ok, List.getElem?_cons_zero, List.getElem?_cons_succ, List.set_cons_zero, List.set_cons_succ, List.map_cons, List.map_nil, List.cons_append, List.nil_append, List.append_nil, List.length_cons, List.length_nil, List.replicate_succ, List.replicate_zero, Nat.reduceSub, Nat.reduceAdd, Nat.zero_add, Nat.sub_self, dAdd_int, dSub_int, dLt_int, dLe_int, dGt_int, dGe_int, dNeg_int, dInt_bl, dInt_int, dEq_int, dNe_int, decide_true, decide_false, Bool.not_true, Bool.not_false, if_true, if_false, Bool.false_eq_true, ofS_eq, String.reduceEq, e_chain, r_chn, r_chmT, r_chmF, e_sl, e_oN, e_oS, r_opt, r_slc, e_mM0, r_mm0, e_mM1, r_mm1, e_enum, r_enmL, r_enmT, e_zip, r_zpLL, r_zpLT, r_zpTL, r_zpTT, e_rg1, dDiv_int, dMod_int, Int.reduceLT, wipeE, id, i0, fstD]⟩
          have z := wholes_int (lots_fst ha)
          have r : callF (k + 2) .rises [.lst (xs.map fstD)] = .ok (.bl (risI ((xs.map fstD).map intOf))) := P_rises (k + 1) ((xs.map fstD).map intOf) (by simp; omega) _ (.inr (by rw [← z]))
          simp only [e_run, e_seq, e_nil, e_brk, e_cnt, e_if, e_ret, e_retN, e_set, e_for, e_test, e_not, e_and, e_or, e_notV, e_andV, e_orV, e_ifE, e_m1, e_m2, e_c, e_var, e_varB, e_evN, e_evC, e_tup, e_lst, e_call, e_items, e_yes, r_seqN, r_seqR, r_seqB, r_seqC, r_seqE, r_seqS, r_bifT, r_bifF, r_bifE, r_ret, r_retE, r_put, r_putE, r_outR, r_outN, r_outE, r_ap2, r_bol, r_neg, r_bl, r_cons, r_getv, r_getb, r_tupl, r_lstl, r_loop, view_val, Res.bind_ok, Res.bind_err, Res.bind_stuck, Res.calm_ok, List.getElem?_cons_zero, List.getElem?_cons_succ, List.set_cons_zero, List.set_cons_succ, List.map_cons, List.map_nil, List.cons_append, List.nil_append, List.append_nil, List.length_cons, List.length_nil, List.replicate_succ, List.replicate_zero, Nat.reduceSub, Nat.reduceAdd, Nat.zero_add, Nat.sub_self, dAdd_int, dSub_int, dLt_int, dLe_int, dGt_int, dGe_int, dNeg_int, dInt_bl, dInt_int, dEq_int, dNe_int, decide_true, decide_false, Bool.not_true, Bool.not_false, if_true, if_false, Bool.false_eq_true, ofS_eq, String.reduceEq, e_chain, r_chn, r_chmT, r_chmF, e_sl, e_oN, e_oS, r_opt, r_slc, e_mM0, r_mm0, e_mM1, r_mm1, e_enum, r_enmL, r_enmT, e_zip, r_zpLL, r_zpLT, r_zpTL, r_zpTT, e_rg1, dDiv_int, dMod_int, Int.reduceLT, m_are_lots, lotsB, ql, qi, h1, h4, l1, l5, e', c, r, risD, ha, dIsi, D.ty, isiB, String.reduceBEq, Bool.or_false, Bool.false_or, Bool.or_self, Bool.and_false, Bool.false_and, Bool.and_true, Bool.true_and, Bool.or_true, Bool.true_or, Bool.and_self]
      · have l5 : ¬ xs.length ≤ 5 := by omega
        simp only [e_run, e_seq, e_nil, e_brk, e_cnt, e_if, e_ret, e_retN, e_set, e_for, e_test, e_not, e_and, e_or, e_notV, e_andV, e_orV, e_ifE, e_m1, e_m2, e_c, e_var, e_varB, e_evN, e_evC, e_tup, e_lst, e_call, e_items, e_yes, r_seqN, r_seqR, r_seqB, r_seqC, r_seqE, r_seqS, r_bifT, r_bifF, r_bifE, r_ret, r_retE, r_put, r_putE, r_outR, r_outN, r_outE, r_ap2, r_bol, r_neg, r_bl, r_cons, r_getv, r_getb, r_tupl, r_lstl, r_loop, view_val, Res.bind_ok, Res.bind_err, Res.bind_stuck, Res.calm_ok, List.getElem?_cons_zero, List.getElem?_cons_succ, List.set_cons_zero, List.set_cons_succ, List.map_cons, List.map_nil, List.cons_append, List.nil_append, List.append_nil, List.length_cons, List.length_nil, List.replicate_succ, List.replicate_zero, Nat.reduceSub, Nat.reduceAdd, Nat.zero_add, Nat.sub_self, dAdd_int, dSub_int, dLt_int, dLe_int, dGt_int, dGe_int, dNeg_int, dInt_bl, dInt_int, dEq_int, dNe_int, decide_true, decide_false, Bool.not_true, Bool.not_false, if_true, if_false, Bool.false_eq_true, ofS_eq, String.reduceEq, e_chain, r_chn, r_chmT, r_chmF, e_sl, e_oN, e_oS, r_opt, r_slc, e_mM0, r_mm0, e_mM1, r_mm1, e_enum, r_enmL, r_enmT, e_zip, r_zpLL, r_zpLT, r_zpTL, r_zpTT, e_rg1, dDiv_int, dMod_int, Int.reduceLT, m_are_lots, lotsB, ql, h1, h4, l5, dIsi, D.ty, isiB, String.reduceBEq, Bool.or_false, Bool.false_or, Bool.or_self, Bool.and_false, Bool.false_and, Bool.and_true, Bool.true_and, Bool.or_true, Bool.true_or, Bool.and_self]
    · have l1 : ¬ 1 ≤ xs.length := by omega
      simp only [e_run, e_seq, e_nil, e_brk, e_cnt, e_if, e_ret, e_retN, e_set, e_for, e_test, e_not, e_and, e_or, e_notV, e_andV, e_orV, e_ifE, e_m1, e_m2, e_c, e_var, e_varB, e_evN, e_evC, e_tup, e_lst, e_call, e_items, e_yes, r_seqN, r_seqR, r_seqB, r_seqC, r_seqE, r_seqS, r_bifT, r_bifF, r_bifE, r_ret, r_retE, r_put, r_putE, r_outR, r_outN, r_outE, r_ap2, r_bol, r_neg, r_bl, r_cons, r_getv, r_getb, r_tupl, r_lstl, r_loop, view_val, Res.bind_ok, Res.bind_err, Res.bind_stuck, Res.calm_ok, List.getElem?_cons_zero, List.getElem?_cons_succ, List.set_cons_zero, List.set_cons_succ, List.map_cons, List.map_nil, List.cons_append, List.nil_append, List.append_nil, List.length_cons, List.length_nil, List.replicate_succ, List.replicate_zero, Nat.reduceSub, Nat.reduceAdd, Nat.zero_add, Nat.sub_self, dAdd_int, dSub_int, dLt_int, dLe_int, dGt_int, dGe_int, dNeg_int, dInt_bl, dInt_int, dEq_int, dNe_int, decide_true, decide_false, Bool.not_true, Bool.not_false, if_true, if_false, Bool.false_eq_true, ofS_eq, String.reduceEq, e_chain, r_chn, r_chmT, r_chmF, e_sl, e_oN, e_oS, r_opt, r_slc, e_mM0, r_mm0, e_mM1, r_mm1, e_enum, r_enmL, r_enmT, e_zip, r_zpLL, r_zpLT, r_zpTL, r_zpTT, e_rg1, dDiv_int, dMod_int, Int.reduceLT, m_are_lots, lotsB, ql, h1, l1, dIsi, D.ty, isiB, String.reduceBEq, Bool.or_false, Bool.false_or, Bool.or_self, Bool.and_false, Bool.false_and, Bool.and_true, Bool.true_and, Bool.or_true, Bool.true_or, Bool.and_self]
  · simp only [e_run, e_seq, e_nil, e_brk, e_cnt, e_if, e_ret, e_retN, e_set, e_for, e_test, e_not, e_and, e_or, e_notV, e_andV, e_orV, e_ifE, e_m1, e_m2, e_c, e_var, e_varB, e_evN, e_evC, e_tup, e_lst, e_call, e_items, e_yes, r_seqN, r_seqR, r_seqB, r_seqC, r_seqE, r_seqS, r_bifT, r_bifF, r_bifE, r_ret, r_retE, r_put, r_putE, r_outR, r_outN, r_outE, r_ap2, r_bol, r_neg, r_bl, r_cons, r_getv, r_getb, r_tupl, r_lstl, r_loop, view_val, Res.bind_ok, Res.bind_err, Res.bind_stuck, Res.calm_ok, List.getElem?_cons_zero, List.getElem?_cons_succ, List.set_cons_zero, List.set_cons_succ, List.map_cons, List.map_nil, List.cons_append, List.nil_append, List.append_nil, List.length_cons, List.length_nil, List.replicate_succ, List.replicate_zero, Nat.reduceSub, Nat.reduceAdd, Nat.zero_add, Nat.sub_self, dAdd_int, dSub_int, dLt_int, dLe_int, dGt_int, dGe_int, dNeg_int, dInt_bl, dInt_int, dEq_int, dNe_int, decide_true, decide_false, Bool.not_true, Bool.not_false, if_true, if_false, Bool.false_eq_true, ofS_eq, String.reduceEq, e_chain, r_chn, r_chmT, r_chmF, e_sl, e_oN, e_oS, r_opt, r_slc, e_mM0, r_mm0, e_mM1, r_mm1, e_enum, r_enmL, r_enmT, e_zip, r_zpLL, r_zpLT, r_zpTL, r_zpTT, e_rg1, dDiv_int, dMod_int, Int.reduceLT, m_are_lots, lotsB, dIsi, D.ty, isiB, String.reduceBEq, Bool.or_false, Bool.false_or, Bool.or_self, Bool.and_false, Bool.false_and, Bool.and_true, Bool.true_and, Bool.or_true, Bool.true_or, Bool.and_self]
def pairB : D → Bool
  | .tup [_, _] => true
  | _ => false
def sndB : D → Bool
  | .tup [_, b] => wholeB 1 9 b
  | _ => false
theorem pairB_tup {xs : List D} (h : ∀ a b, xs ≠ [a, b]) : pairB (.tup xs) = false := by
  unfold pairB
  split
  · rename_i a b e; cases e; exact absurd rfl (h a b)
  · rfl
theorem L_lots (k : Nat) {m : Nat} {d : D} (h : gd m d = true) (hm : m < 60) : callF (k + 3) ._law_are_lots [d] = .ok (.bl (lotsB d)) := by
  show runM 2 (m__law_are_lots (callF (k + 2))) _ = _
  rcases gd_ty h with rfl | ⟨b, rfl⟩ | ⟨i, rfl⟩ | ⟨x, rfl, ox, lx⟩ | ⟨xs, rfl⟩ | ⟨xs, rfl⟩
  · simp only [e_run, e_seq, e_nil, e_brk, e_cnt, e_if, e_ret, e_retN, e_set, e_for, e_test, e_not, e_and, e_or, e_notV, e_andV, e_orV, e_ifE, e_m1, e_m2, e_c, e_var, e_varB, e_evN, e_evC, e_tup, e_lst, e_call, e_items, e_yes, r_seqN, r_seqR, r_seqB, r_seqC, r_seqE, r_seqS, r_bifT, r_bifF, r_bifE, r_ret, r_retE, r_put, r_putE, r_outR, r_outN, r_outE, r_ap2, r_bol, r_neg, r_bl, r_cons, r_getv, r_getb, r_tupl, r_lstl, r_loop, view_val, Res.bind_ok, Res.bind_err, Res.bind_stuck, Res.calm_ok, List.getElem?_cons_zero, List.getElem?_cons_succ, List.set_cons_zero, List.set_cons_succ, List.map_cons, List.map_nil, List.cons_append, List.nil_append, List.append_nil, List.length_cons, List.length_nil, List.replicate_succ, List.replicate_zero, Nat.reduceSub, Nat.reduceAdd, Nat.zero_add, Nat.sub_self, dAdd_int, dSub_int, dLt_int, dLe_int, dGt_int, dGe_int, dNeg_int, dInt_bl, dInt_int, dEq_int, dNe_int, decide_true, decide_false, Bool.not_true, Bool.not_false, if_true, if_false, Bool.false_eq_true, ofS_eq, String.reduceEq, e_chain, r_chn, r_chmT, r_chmF, e_sl, e_oN, e_oS, r_opt, r_slc, e_mM0, r_mm0, e_mM1, r_mm1, e_enum, r_enmL, r_enmT, e_zip, r_zpLL, r_zpLT, r_zpTL, r_zpTT, e_rg1, dDiv_int, dMod_int, Int.reduceLT, m__law_are_lots, lotsB, dIsi, D.ty, isiB, String.reduceBEq, Bool.or_false, Bool.false_or, Bool.or_self, Bool.and_false, Bool.false_and, Bool.and_true, Bool.true_and, Bool.or_true, Bool.true_or, Bool.and_self]
  · simp only [e_run, e_seq, e_nil, e_brk, e_cnt, e_if, e_ret, e_retN, e_set, e_for, e_test, e_not, e_and, e_or, e_notV, e_andV, e_orV, e_ifE, e_m1, e_m2, e_c, e_var, e_varB, e_evN, e_evC, e_tup, e_lst, e_call, e_items, e_yes, r_seqN, r_seqR, r_seqB, r_seqC, r_seqE, r_seqS, r_bifT, r_bifF, r_bifE, r_ret, r_retE, r_put, r_putE, r_outR, r_outN, r_outE, r_ap2, r_bol, r_neg, r_bl, r_cons, r_getv, r_getb, r_tupl, r_lstl, r_loop, view_val, Res.bind_ok, Res.bind_err, Res.bind_stuck, Res.calm_ok, List.getElem?_cons_zero, List.getElem?_cons_succ, List.set_cons_zero, List.set_cons_succ, List.map_cons, List.map_nil, List.cons_append, List.nil_append, List.append_nil, List.length_cons, List.length_nil, List.replicate_succ, List.replicate_zero, Nat.reduceSub, Nat.reduceAdd, Nat.zero_add, Nat.sub_self, dAdd_int, dSub_int, dLt_int, dLe_int, dGt_int, dGe_int, dNeg_int, dInt_bl, dInt_int, dEq_int, dNe_int, decide_true, decide_false, Bool.not_true, Bool.not_false, if_true, if_false, Bool.false_eq_true, ofS_eq, String.reduceEq, e_chain, r_chn, r_chmT, r_chmF, e_sl, e_oN, e_oS, r_opt, r_slc, e_mM0, r_mm0, e_mM1, r_mm1, e_enum, r_enmL, r_enmT, e_zip, r_zpLL, r_zpLT, r_zpTL, r_zpTT, e_rg1, dDiv_int, dMod_int, Int.reduceLT, m__law_are_lots, lotsB, dIsi, D.ty, isiB, String.reduceBEq, Bool.or_false, Bool.false_or, Bool.or_self, Bool.and_false, Bool.false_and, Bool.and_true, Bool.true_and, Bool.or_true, Bool.true_or, Bool.and_self]
  · simp only [e_run, e_seq, e_nil, e_brk, e_cnt, e_if, e_ret, e_retN, e_set, e_for, e_test, e_not, e_and, e_or, e_notV, e_andV, e_orV, e_ifE, e_m1, e_m2, e_c, e_var, e_varB, e_evN, e_evC, e_tup, e_lst, e_call, e_items, e_yes, r_seqN, r_seqR, r_seqB, r_seqC, r_seqE, r_seqS, r_bifT, r_bifF, r_bifE, r_ret, r_retE, r_put, r_putE, r_outR, r_outN, r_outE, r_ap2, r_bol, r_neg, r_bl, r_cons, r_getv, r_getb, r_tupl, r_lstl, r_loop, view_val, Res.bind_ok, Res.bind_err, Res.bind_stuck, Res.calm_ok, List.getElem?_cons_zero, List.getElem?_cons_succ, List.set_cons_zero, List.set_cons_succ, List.map_cons, List.map_nil, List.cons_append, List.nil_append, List.append_nil, List.length_cons, List.length_nil, List.replicate_succ, List.replicate_zero, Nat.reduceSub, Nat.reduceAdd, Nat.zero_add, Nat.sub_self, dAdd_int, dSub_int, dLt_int, dLe_int, dGt_int, dGe_int, dNeg_int, dInt_bl, dInt_int, dEq_int, dNe_int, decide_true, decide_false, Bool.not_true, Bool.not_false, if_true, if_false, Bool.false_eq_true, ofS_eq, String.reduceEq, e_chain, r_chn, r_chmT, r_chmF, e_sl, e_oN, e_oS, r_opt, r_slc, e_mM0, r_mm0, e_mM1, r_mm1, e_enum, r_enmL, r_enmT, e_zip, r_zpLL, r_zpLT, r_zpTL, r_zpTT, e_rg1, dDiv_int, dMod_int, Int.reduceLT, m__law_are_lots, lotsB, dIsi, D.ty, isiB, String.reduceBEq, Bool.or_false, Bool.false_or, Bool.or_self, Bool.and_false, Bool.false_and, Bool.and_true, Bool.true_and, Bool.or_true, Bool.true_or, Bool.and_self]
  · simp only [e_run, e_seq, e_nil, e_brk, e_cnt, e_if, e_ret, e_retN, e_set, e_for, e_test, e_not, e_and, e_or, e_notV, e_andV, e_orV, e_ifE, e_m1, e_m2, e_c, e_var, e_varB, e_evN, e_evC, e_tup, e_lst, e_call, e_items, e_yes, r_seqN, r_seqR, r_seqB, r_seqC, r_seqE, r_seqS, r_bifT, r_bifF, r_bifE, r_ret, r_retE, r_put, r_putE, r_outR, r_outN, r_outE, r_ap2, r_bol, r_neg, r_bl, r_cons, r_getv, r_getb, r_tupl, r_lstl, r_loop, view_val, Res.bind_ok, Res.bind_err, Res.bind_stuck, Res.calm_ok, List.getElem?_cons_zero, List.getElem?_cons_succ, List.set_cons_zero, List.set_cons_succ, List.map_cons, List.map_nil, List.cons_append, List.nil_append, List.append_nil, List.length_cons, List.length_nil, List.replicate_succ, List.replicate_zero, Nat.reduceSub, Nat.reduceAdd, Nat.zero_add, Nat.sub_self, dAdd_int, dSub_int, dLt_int, dLe_int, dGt_int, dGe_int, dNeg_int, dInt_bl, dInt_int, dEq_int, dNe_int, decide_true, decide_false, Bool.not_true, Bool.not_false, if_true, if_false, Bool.false_eq_true, ofS_eq, String.reduceEq, e_chain, r_chn, r_chmT, r_chmF, e_sl, e_oN, e_oS, r_opt, r_slc, e_mM0, r_mm0, e_mM1, r_mm1, e_enum, r_enmL, r_enmT, e_zip, r_zpLL, r_zpLT, r_zpTL, r_zpTT, e_rg1, dDiv_int, dMod_int, Int.reduceLT, m__law_are_lots, lotsB, dIsi, D.ty, isiB, String.reduceBEq, Bool.or_false, Bool.false_or, Bool.or_self, Bool.and_false, Bool.false_and, Bool.and_true, Bool.true_and, Bool.or_true, Bool.true_or, Bool.and_self]
  · have ql : dLen (.tup xs) = .ok (.int xs.length) := rfl
    have qi : dItems (.tup xs) = .ok xs := rfl
    have hz : xs.length ≤ 100000 := gd_len h
    · have c0 : m__law_are_lots_c0 (callF (k + 2)) [some (.val (.tup xs)), none] = .ok (.lst ((xs.filter fun x => !pairB x).map id)) :=
        mLc_f (as := xs) (g := id) (by simp only [e_run, e_seq, e_nil, e_brk, e_cnt, e_if, e_ret, e_retN, e_set, e_for, e_test, e_not, e_and, e_or, e_notV, e_andV, e_orV, e_ifE, e_m1, e_m2, e_c, e_var, e_varB, e_evN, e_evC, e_tup, e_lst, e_call, e_items, e_yes, r_seqN, r_seqR, r_seqB, r_seqC, r_seqE, r_seqS, r_bifT, r_bifF, r_bifE, r_ret, r_retE, r_put, r_putE, r_outR, r_outN, r_outE, r_ap2, r_bol, r_neg, r_bl, r_cons, r_getv, r_getb, r_tupl, r_lstl, r_loop, view_val, Res.bind_ok, Res.bind_err, Res.bind_stuck, Res.calm_ok, List.getElem?_cons_zero, List.getElem?_cons_succ, List.set_cons_zero, List.set_cons_succ, List.map_cons, List.map_nil, List.cons_append, List.nil_append, List.append_nil, List.length_cons, List.length_nil, List.replicate_succ, List.replicate_zero, Nat.reduceSub, Nat.reduceAdd, Nat.zero_add, Nat.sub_self, dAdd_int, dSub_int, dLt_int, dLe_int, dGt_int, dGe_int, dNeg_int, dInt_bl, dInt_int, dEq_int, dNe_int, decide_true, decide_false, Bool.not_true, Bool.not_false, if_true, if_false, Bool.false_eq_true, ofS_eq, String.reduceEq, e_chain, r_chn, r_chmT, r_chmF, e_sl, e_oN, e_oS, r_opt, r_slc, e_mM0, r_mm0, e_mM1, r_mm1, e_enum, r_enmL, r_enmT, e_zip, r_zpLL, r_zpLT, r_zpTL, r_zpTT, e_rg1, dDiv_int, dMod_int, Int.reduceLT, qi, List.map_id]) (by omega) fun x hx => ⟨_, rfl, by
          rcases gd_ty (gd_all h x hx) with rfl | ⟨b, rfl⟩ | ⟨i, rfl⟩ | ⟨x, rfl, ox, lx⟩ | ⟨ys, rfl⟩ | ⟨xs, rfl⟩
          · simp only [e_run, e_seq, e_nil, e_brk, e_cnt, e_if, e_ret, e_retN, e_set, e_for, e_test, e_not, e_and, e_or, e_notV, e_andV, e_orV, e_ifE, e_m1, e_m2, e_c, e_var, e_varB, e_evN, e_evC, e_tup, e_lst, e_call, e_items, e_yes, r_seqN, r_seqR, r_seqB, r_seqC, r_seqE, r_seqS, r_bifT, r_bifF, r_bifE, r_ret, r_retE, r_put, r_putE, r_outR, r_outN, r_outE, r_ap2, r_bol, r_neg, r_bl, r_cons, r_getv, r_getb, r_tupl, r_lstl, r_loop, view_val, Res.bind_ok, Res.bind_err, Res.bind_stuck, Res.calm_ok, List.getElem?_cons_zero, List.getElem?_cons_succ, List.set_cons_zero, List.set_cons_succ, List.map_cons, List.map_nil, List.cons_append, List.nil_append, List.append_nil, List.length_cons, List.length_nil, List.replicate_succ, List.replicate_zero, Nat.reduceSub, Nat.reduceAdd, Nat.zero_add, Nat.sub_self, dAdd_int, dSub_int, dLt_int, dLe_int, dGt_int, dGe_int, dNeg_int, dInt_bl, dInt_int, dEq_int, dNe_int, decide_true, decide_false, Bool.not_true, Bool.not_false, if_true, if_false, Bool.false_eq_true, ofS_eq, String.reduceEq, e_chain, r_chn, r_chmT, r_chmF, e_sl, e_oN, e_oS, r_opt, r_slc, e_mM0, r_mm0, e_mM1, r_mm1, e_enum, r_enmL, r_enmT, e_zip, r_zpLL, r_zpLT, r_zpTL, r_zpTT, e_rg1, dDiv_int, dMod_int, Int.reduceLT, wipeE, id, pairB, dIsi, D.ty, isiB, String.reduceBEq, Bool.or_false, Bool.false_or, Bool.or_self, Bool.and_false, Bool.false_and, Bool.and_true, Bool.true_and, Bool.or_true, Bool.true_or, Bool.and_self]
          · simp only [e_run, e_seq, e_nil, e_brk, e_cnt, e_if, e_ret, e_retN, e_set, e_for, e_test, e_not, e_and, e_or, e_notV, e_andV, e_orV, e_ifE, e_m1, e_m2, e_c, e_var, e_varB, e_evN, e_evC, e_tup, e_lst, e_call, e_items, e_yes, r_seqN, r_seqR, r_seqB, r_seqC, r_seqE, r_seqS, r_bifT, r_bifF, r_bifE, r_ret, r_retE, r_put, r_putE, r_outR, r_outN, r_outE, r_ap2, r_bol, r_neg, r_bl, r_cons, r_getv, r_getb, r_tupl, r_lstl, r_loop, view_val, Res.bind_ok, Res.bind_err, Res.bind_stuck, Res.calm_ok, List.getElem?_cons_zero, List.getElem?_cons_succ, List.set_cons_zero, List.set_cons_succ, List.map_cons, List.map_nil, List.cons_append, List.nil_append, List.append_nil, List.length_cons, List.length_nil, List.replicate_succ, List.replicate_zero, Nat.reduceSub, Nat.reduceAdd, Nat.zero_add, Nat.sub_self, dAdd_int, dSub_int, dLt_int, dLe_int, dGt_int, dGe_int, dNeg_int, dInt_bl, dInt_int, dEq_int, dNe_int, decide_true, decide_false, Bool.not_true, Bool.not_false, if_true, if_false, Bool.false_eq_true, ofS_eq, String.reduceEq, e_chain, r_chn, r_chmT, r_chmF, e_sl, e_oN, e_oS, r_opt, r_slc, e_mM0, r_mm0, e_mM1, r_mm1, e_enum, r_enmL, r_enmT, e_zip, r_zpLL, r_zpLT, r_zpTL, r_zpTT, e_rg1, dDiv_int, dMod_int, Int.reduceLT, wipeE, id, pairB, dIsi, D.ty, isiB, String.reduceBEq, Bool.or_false, Bool.false_or, Bool.or_self, Bool.and_false, Bool.false_and, Bool.and_true, Bool.true_and, Bool.or_true, Bool.true_or, Bool.and_self]
          · simp only [e_run, e_seq, e_nil, e_brk, e_cnt, e_if, e_ret, e_retN, e_set, e_for, e_test, e_not, e_and, e_or, e_notV, e_andV, e_orV, e_ifE, e_m1, e_m2, e_c, e_var, e_varB, e_evN, e_evC, e_tup, e_lst, e_call, e_items, e_yes, r_seqN, r_seqR, r_seqB, r_seqC, r_seqE, r_seqS, r_bifT, r_bifF, r_bifE, r_ret, r_retE, r_put, r_putE, r_outR, r_outN, r_outE, r_ap2, r_bol, r_neg, r_bl, r_cons, r_getv, r_getb, r_tupl, r_lstl, r_loop, view_val, Res.bind_ok, Res.bind_err, Res.bind_stuck, Res.calm_ok, List.getElem?_cons_zero, List.getElem?_cons_succ, List.set_cons_zero, List.set_cons_succ, List.map_cons, List.map_nil, List.cons_append, List.nil_append, List.append_nil, List.length_cons, List.length_nil, List.replicate_succ, List.replicate_zero, Nat.reduceSub, Nat.reduceAdd, Nat.zero_add, Nat.sub_self, dAdd_int, dSub_int, dLt_int, dLe_int, dGt_int, dGe_int, dNeg_int, dInt_bl, dInt_int, dEq_int, dNe_int, decide_true, decide_false, Bool.not_true, Bool.not_false, if_true, if_false, Bool.false_eq_true, ofS_eq, String.reduceEq, e_chain, r_chn, r_chmT, r_chmF, e_sl, e_oN, e_oS, r_opt, r_slc, e_mM0, r_mm0, e_mM1, r_mm1, e_enum, r_enmL, r_enmT, e_zip, r_zpLL, r_zpLT, r_zpTL, r_zpTT, e_rg1, dDiv_int, dMod_int, Int.reduceLT, wipeE, id, pairB, dIsi, D.ty, isiB, String.reduceBEq, Bool.or_false, Bool.false_or, Bool.or_self, Bool.and_false, Bool.false_and, Bool.and_true, Bool.true_and, Bool.or_true, Bool.true_or, Bool.and_self]
          · simp only [e_run, e_seq, e_nil, e_brk, e_cnt, e_if, e_ret, e_retN, e_set, e_for, e_test, e_not, e_and, e_or, e_notV, e_andV, e_orV, e_ifE, e_m1, e_m2, e_c, e_var, e_varB, e_evN, e_evC, e_tup, e_lst, e_call, e_items, e_yes, r_seqN, r_seqR, r_seqB, r_seqC, r_seqE, r_seqS, r_bifT, r_bifF, r_bifE, r_ret, r_retE, r_put, r_putE, r_outR, r_outN, r_outE, r_ap2, r_bol, r_neg, r_bl, r_cons, r_getv, r_getb, r_tupl, r_lstl, r_loop, view_val, Res.bind_ok, Res.bind_err, Res.bind_stuck, Res.calm_ok, List.getElem?_cons_zero, List.getElem?_cons_succ, List.set_cons_zero, List.set_cons_succ, List.map_cons, List.map_nil, List.cons_append, List.nil_append, List.append_nil, List.length_cons, List.length_nil, List.replicate_succ, List.replicate_zero, Nat.reduceSub, Nat.reduceAdd, Nat.zero_add, Nat.sub_self, dAdd_int, dSub_int, dLt_int, dLe_int, dGt_int, dGe_int, dNeg_int, dInt_bl, dInt_int, dEq_int, dNe_int, decide_true, decide_false, Bool.not_true, Bool.not_false, if_true, if_false, Bool.false_eq_true, ofS_eq, String.reduceEq, e_chain, r_chn, r_chmT, r_chmF, e_sl, e_oN, e_oS, r_opt, r_slc, e_mM0, r_mm0, e_mM1, r_mm1, e_enum, r_enmL, r_enmT, e_zip, r_zpLL, r_zpLT, r_zpTL, r_zpTT, e_rg1, dDiv_int, dMod_int, Int.reduceLT, wipeE, id, pairB, dIsi, D.ty, isiB, String.reduceBEq, Bool.or_false, Bool.false_or, Bool.or_self, Bool.and_false, Bool.false_and, Bool.and_true, Bool.true_and, Bool.or_true, Bool.true_or, Bool.and_self]
          · have ly : dLen (.tup ys) = .ok (.int ys.length) := rfl
            rcases len2 ys with ⟨a, b, rfl⟩ | ⟨hl, hx⟩
            · have l2 : dLen (.tup [a, b]) = .ok (.int 2) := rfl
              simp only [e_run, e_seq, e_nil, e_brk, e_cnt, e_if, e_ret, e_retN, e_set, e_for, e_test, e_not, e_and, e_or, e_notV, e_andV, e_orV, e_ifE, e_m1, e_m2, e_c, e_var, e_varB, e_evN, e_evC, e_tup, e_lst, e_call, e_items, e_yes, r_seqN, r_seqR, r_seqB, r_seqC, r_seqE, r_seqS, r_bifT, r_bifF, r_bifE, r_ret, r_retE, r_put, r_putE, r_outR, r_outN, r_outE, r_ap2, r_bol, r_neg, r_bl, r_cons, r_getv, r_getb, r_tupl, r_lstl, r_loop, view_val, Res.bind_ok, Res.bind_err, Res.bind_stuck, Res.calm_ok, List.getElem?_cons_zero, List.getElem?_cons_succ, List.set_cons_zero, List.set_cons_succ, List.map_cons, List.map_nil, List.cons_append, List.nil_append, List.append_nil, List.length_cons, List.length_nil, List.replicate_succ, List.replicate_zero, Nat.reduceSub, Nat.reduceAdd, Nat.zero_add, Nat.sub_self, dAdd_int, dSub_int, dLt_int, dLe_int, dGt_int, dGe_int, dNeg_int, dInt_bl, dInt_int, dEq_int, dNe_int, decide_true, decide_false, Bool.not_true, Bool.not_false, if_true, if_false, Bool.false_eq_true, ofS_eq, String.reduceEq, e_chain, r_chn, r_chmT, r_chmF, e_sl, e_oN, e_oS, r_opt, r_slc, e_mM0, r_mm0, e_mM1, r_mm1, e_enum, r_enmL, r_enmT, e_zip, r_zpLL, r_zpLT, r_zpTL, r_zpTT, e_rg1, dDiv_int, dMod_int, Int.reduceLT, wipeE, id, pairB, l2, dIsi, D.ty, isiB, String.reduceBEq, Bool.or_false, Bool.false_or, Bool.or_self, Bool.and_false, Bool.false_and, Bool.and_true, Bool.true_and, Bool.or_true, Bool.true_or, Bool.and_self]
            · rw [show id (D.tup ys) = D.tup ys from rfl, pairB_tup hx]
              simp only [e_run, e_seq, e_nil, e_brk, e_cnt, e_if, e_ret, e_retN, e_set, e_for, e_test, e_not, e_and, e_or, e_notV, e_andV, e_orV, e_ifE, e_m1, e_m2, e_c, e_var, e_varB, e_evN, e_evC, e_tup, e_lst, e_call, e_items, e_yes, r_seqN, r_seqR, r_seqB, r_seqC, r_seqE, r_seqS, r_bifT, r_bifF, r_bifE, r_ret, r_retE, r_put, r_putE, r_outR, r_outN, r_outE, r_ap2, r_bol, r_neg, r_bl, r_cons, r_getv, r_getb, r_tupl, r_lstl, r_loop, view_val, Res.bind_ok, Res.bind_err, Res.bind_stuck, Res.calm_ok, List.getElem?_cons_zero, List.getElem?_cons_succ, List.set_cons_zero, List.set_cons_succ, List.map_cons, List.map_nil, List.cons_append, List.nil_append, List.append_nil, List.length_cons, List.length_nil, List.replicate_succ, List.replicate_zero, Nat.reduceSub, Nat.reduceAdd, Nat.zero_add, Nat.sub_self, dAdd_int, dSub_int, dLt_int, dLe_int, dGt_int, dGe_int, dNeg_int, dInt_bl, dInt_int, dEq_int, dNe_int, decide_true, decide_false, Bool.not_true, Bool.not_false, if_true, if_false, Bool.false_eq_true, ofS_eq, String.reduceEq, e_chain, r_chn, r_chmT, r_chmF, e_sl, e_oN, e_oS, r_opt, r_slc, e_mM0, r_mm0, e_mM1, r_mm1, e_enum, r_enmL, r_enmT, e_zip, r_zpLL, r_zpLT, r_zpTL, r_zpTT, e_rg1, dDiv_int, dMod_int, Int.reduceLT, wipeE, id, ly, hl, dIsi, D.ty, isiB, String.reduceBEq, Bool.or_false, Bool.false_or, Bool.or_self, Bool.and_false, Bool.false_and, Bool.and_true, Bool.true_and, Bool.or_true, Bool.true_or, Bool.and_self]
          · simp only [e_run, e_seq, e_nil, e_brk, e_cnt, e_if, e_ret, e_retN, e_set, e_for, e_test, e_not, e_and, e_or, e_notV, e_andV, e_orV, e_ifE, e_m1, e_m2, e_c, e_var, e_varB, e_evN, e_evC, e_tup, e_lst, e_call, e_items, e_yes, r_seqN, r_seqR, r_seqB, r_seqC, r_seqE, r_seqS, r_bifT, r_bifF, r_bifE, r_ret, r_retE, r_put, r_putE, r_outR, r_outN, r_outE, r_ap2, r_bol, r_neg, r_bl, r_cons, r_getv, r_getb, r_tupl, r_lstl, r_loop, view_val, Res.bind_ok, Res.bind_err, Res.bind_stuck, Res.calm_ok, List.getElem?_cons_zero, List.getElem?_cons_succ, List.set_cons_zero, List.set_cons_succ, List.map_cons, List.map_nil, List.cons_append, List.nil_append, List.append_nil, List.length_cons, List.length_nil, List.replicate_succ, List.replicate_zero, Nat.reduceSub, Nat.reduceAdd, Nat.zero_add, Nat.sub_self, dAdd_int, dSub_int, dLt_int, dLe_int, dGt_int, dGe_int, dNeg_int, dInt_bl, dInt_int, dEq_int, dNe_int, decide_true, decide_false, Bool.not_true, Bool.not_false, if_true, if_false, Bool.false_eq_true, ofS_eq, String.reduceEq, e_chain, r_chn, r_chmT, r_chmF, e_sl, e_oN, e_oS, r_opt, r_slc, e_mM0, r_mm0, e_mM1, r_mm1, e_enum, r_enmL, r_enmT, e_zip, r_zpLL, r_zpLT, r_zpTL, r_zpTT, e_rg1, dDiv_int, dMod_int, Int.reduceLT, wipeE, id, pairB, dIsi, D.ty, isiB, String.reduceBEq, Bool.or_false, Bool.false_or, Bool.or_self, Bool.and_false, Bool.false_and, Bool.and_true, Bool.true_and, Bool.or_true, Bool.true_or, Bool.and_self], fun _ => by simp only [e_run, e_seq, e_nil, e_brk, e_cnt, e_if, e_ret, e_retN, e_set, e_for, e_test, e_not, e_and, e_or, e_notV, e_andV, e_orV, e_ifE, e_m1, e_m2, e_c, e_var, e_varB, e_evN, e_evC, e_tup, e_lst, e_call, e_items, e_yes, r_seqN, r_seqR, r_seqB, r_seqC, r_seqE, r_seqS, r_bifT, r_bifF, r_bifE, r_ret, r_retE, r_put, r_putE, r_outR, r_outN, r_outE, r_ap2, r_bol, r_neg, r_bl, r_cons, r_getv, r_getb, r_tupl, r_lstl, r_loop, view_val, Res.bind_ok, Res.bind_err, Res.bind_stuck, Res.calm_ok, List.getElem?_cons_zero, List.getElem?_cons_succ, List.set_cons_zero, List.set_cons_succ, List.map_cons, List.map_nil, List.cons_append, List.nil_append, List.append_nil, List.length_cons, List.length_nil, List.replicate_succ, List.replicate_zero, Nat.reduceSub, Nat.reduceAdd, Nat.zero_add, Nat.sub_self, dAdd_int, dSub_int, dLt_int, dLe_int, dGt_int, dGe_int, dNeg_int, dInt_bl, dInt_int, dEq_int, dNe_int, decide_true, decide_false, Bool.not_true, Bool.not_false, if_true, if_false, Bool.false_eq_true, ofS_eq, String.reduceEq, e_chain, r_chn, r_chmT, r_chmF, e_sl, e_oN, e_oS, r_opt, r_slc, e_mM0, r_mm0, e_mM1, r_mm1, e_enum, r_enmL, r_enmT, e_zip, r_zpLL, r_zpLT, r_zpTL, r_zpTT, e_rg1, dDiv_int, dMod_int, Int.reduceLT, wipeE, id]⟩
      rw [List.map_id] at c0
      have q0 : dNe (.lst (xs.filter fun x => !pairB x)) (.lst []) = .ok (.bl (!xs.all pairB)) := by
        rw [dNe_nil (n := m) (fun y hy => gd_all h y (List.mem_filter.mp hy).1) (by omega), filter_none]
      cases hp : xs.all pairB
      · have hn : (xs.all lotB) = false := by
          cases ha : xs.all lotB with
          | false => rfl
          | true =>
            have : xs.all pairB = true := by
              rw [List.all_eq_true]
              intro x hx
              obtain ⟨a, b, rfl, _⟩ := lot_is (List.all_eq_true.mp ha x hx)
              rfl
            rw [this] at hp; cases hp
        rw [hp] at q0
        simp only [e_run, e_seq, e_nil, e_brk, e_cnt, e_if, e_ret, e_retN, e_set, e_for, e_test, e_not, e_and, e_or, e_notV, e_andV, e_orV, e_ifE, e_m1, e_m2, e_c, e_var, e_varB, e_evN, e_evC, e_tup, e_lst, e_call, e_items, e_yes, r_seqN, r_seqR, r_seqB, r_seqC, r_seqE, r_seqS, r_bifT, r_bifF, r_bifE, r_ret, r_retE, r_put, r_putE, r_outR, r_outN, r_outE, r_ap2, r_bol, r_neg, r_bl, r_cons, r_getv, r_getb, r_tupl, r_lstl, r_loop, view_val, Res.bind_ok, Res.bind_err, Res.bind_stuck, Res.calm_ok, List.getElem?_cons_zero, List.getElem?_cons_succ, List.set_cons_zero, List.set_cons_succ, List.map_cons, List.map_nil, List.cons_append, List.nil_append, List.append_nil, List.length_cons, List.length_nil, List.replicate_succ, List.replicate_zero, Nat.reduceSub, Nat.reduceAdd, Nat.zero_add, Nat.sub_self, dAdd_int, dSub_int, dLt_int, dLe_int, dGt_int, dGe_int, dNeg_int, dInt_bl, dInt_int, dEq_int, dNe_int, decide_true, decide_false, Bool.not_true, Bool.not_false, if_true, if_false, Bool.false_eq_true, ofS_eq, String.reduceEq, e_chain, r_chn, r_chmT, r_chmF, e_sl, e_oN, e_oS, r_opt, r_slc, e_mM0, r_mm0, e_mM1, r_mm1, e_enum, r_enmL, r_enmT, e_zip, r_zpLL, r_zpLT, r_zpTL, r_zpTT, e_rg1, dDiv_int, dMod_int, Int.reduceLT, m__law_are_lots, lotsB, c0, q0, hn, dIsi, D.ty, isiB, String.reduceBEq, Bool.or_false, Bool.false_or, Bool.or_self, Bool.and_false, Bool.false_and, Bool.and_true, Bool.true_and, Bool.or_true, Bool.true_or, Bool.and_self]
      · rw [hp] at q0
        have pr : ∀ x ∈ xs, ∃ a b, x = .tup [a, b] := fun x hx => by
          have := List.all_eq_true.mp hp x hx
          unfold pairB at this
          split at this
          · exact ⟨_, _, rfl⟩
          · cases this
        have c1 : m__law_are_lots_c1 (callF (k + 2)) [some (.val (.tup xs)), none] = .ok (.lst ((xs.filter fun x => !sndB x).map id)) :=
          mLc_f (as := xs) (g := id) (by simp only [e_run, e_seq, e_nil, e_brk, e_cnt, e_if, e_ret, e_retN, e_set, e_for, e_test, e_not, e_and, e_or, e_notV, e_andV, e_orV, e_ifE, e_m1, e_m2, e_c, e_var, e_varB, e_evN, e_evC, e_tup, e_lst, e_call, e_items, e_yes, r_seqN, r_seqR, r_seqB, r_seqC, r_seqE, r_seqS, r_bifT, r_bifF, r_bifE, r_ret, r_retE, r_put, r_putE, r_outR, r_outN, r_outE, r_ap2, r_bol, r_neg, r_bl, r_cons, r_getv, r_getb, r_tupl, r_lstl, r_loop, view_val, Res.bind_ok, Res.bind_err, Res.bind_stuck, Res.calm_ok, List.getElem?_cons_zero, List.getElem?_cons_succ, List.set_cons_zero, List.set_cons_succ, List.map_cons, List.map_nil, List.cons_append, List.nil_append, List.append_nil, List.length_cons, List.length_nil, List.replicate_succ, List.replicate_zero, Nat.reduceSub, Nat.reduceAdd, Nat.zero_add, Nat.sub_self, dAdd_int, dSub_int, dLt_int, dLe_int, dGt_int, dGe_int, dNeg_int, dInt_bl, dInt_int, dEq_int, dNe_int, decide_true, decide_false, Bool.not_true, Bool.not_false, if_true, if_false, Bool.false_eq_true, ofS_eq, String.reduceEq, e_chain, r_chn, r_chmT, r_chmF, e_sl, e_oN, e_oS, r_opt, r_slc, e_mM0, r_mm0, e_mM1, r_mm1, e_enum, r_enmL, r_enmT, e_zip, r_zpLL, r_zpLT, r_zpTL, r_zpTT, e_rg1, dDiv_int, dMod_int, Int.reduceLT, qi, List.map_id]) (by omega) fun x hx => ⟨_, rfl, by
            obtain ⟨a, b, rfl⟩ := pr x hx
            have i1 : dIx (.tup [a, b]) (.int 1) = .ok b := rfl
            have e2 : callF (k + 2) ._law_whole [b, .int 1, .int 9] = _ := L_whole (k + 1) (gd_all (gd_all h _ hx) b (by simp)) 1 9
            simp only [e_run, e_seq, e_nil, e_brk, e_cnt, e_if, e_ret, e_retN, e_set, e_for, e_test, e_not, e_and, e_or, e_notV, e_andV, e_orV, e_ifE, e_m1, e_m2, e_c, e_var, e_varB, e_evN, e_evC, e_tup, e_lst, e_call, e_items, e_yes, r_seqN, r_seqR, r_seqB, r_seqC, r_seqE, r_seqS, r_bifT, r_bifF, r_bifE, r_ret, r_retE, r_put, r_putE, r_outR, r_outN, r_outE, r_ap2, r_bol, r_neg, r_bl, r_cons, r_getv, r_getb, r_tupl, r_lstl, r_loop, view_val, Res.bind_ok, Res.bind_err, Res.bind_stuck, Res.calm_ok, List.getElem?_cons_zero, List.getElem?_cons_succ, List.set_cons_zero, List.set_cons_succ, List.map_cons, List.map_nil, List.cons_append, List.nil_append, List.append_nil, List.length_cons, List.length_nil, List.replicate_succ, List.replicate_zero, Nat.reduceSub, Nat.reduceAdd, Nat.zero_add, Nat.sub_self, dAdd_int, dSub_int, dLt_int, dLe_int, dGt_int, dGe_int, dNeg_int, dInt_bl, dInt_int, dEq_int, dNe_int, decide_true, decide_false, Bool.not_true, Bool.not_false, if_true, if_false, Bool.false_eq_true, ofS_eq, String.reduceEq, e_chain, r_chn, r_chmT, r_chmF, e_sl, e_oN, e_oS, r_opt, r_slc, e_mM0, r_mm0, e_mM1, r_mm1, e_enum, r_enmL, r_enmT, e_zip, r_zpLL, r_zpLT, r_zpTL, r_zpTT, e_rg1, dDiv_int, dMod_int, Int.reduceLT, wipeE, id, sndB, i1, e2], fun _ => by simp only [e_run, e_seq, e_nil, e_brk, e_cnt, e_if, e_ret, e_retN, e_set, e_for, e_test, e_not, e_and, e_or, e_notV, e_andV, e_orV, e_ifE, e_m1, e_m2, e_c, e_var, e_varB, e_evN, e_evC, e_tup, e_lst, e_call, e_items, e_yes, r_seqN, r_seqR, r_seqB, r_seqC, r_seqE, r_seqS, r_bifT, r_bifF, r_bifE, r_ret, r_retE, r_put, r_putE, r_outR, r_outN, r_outE, r_ap2, r_bol, r_neg, r_bl, r_cons, r_getv, r_getb, r_tupl, r_lstl, r_loop, view_val, Res.bind_ok, Res.bind_err, Res.bind_stuck, Res.calm_ok, List.getElem?_cons_zero, List.getElem?_cons_succ, List.set_cons_zero, List.set_cons_succ, List.map_cons, List.map_nil, List.cons_append, List.nil_append, List.append_nil, List.length_cons, List.length_nil, List.replicate_succ, List.replicate_zero, Nat.reduceSub, Nat.reduceAdd, Nat.zero_add, Nat.sub_self, dAdd_int, dSub_int, dLt_int, dLe_int, dGt_int, dGe_int, dNeg_int, dInt_bl, dInt_int, dEq_int, dNe_int, decide_true, decide_false, Bool.not_true, Bool.not_false, if_true, if_false, Bool.false_eq_true, ofS_eq, String.reduceEq, e_chain, r_chn, r_chmT, r_chmF, e_sl, e_oN, e_oS, r_opt, r_slc, e_mM0, r_mm0, e_mM1, r_mm1, e_enum, r_enmL, r_enmT, e_zip, r_zpLL, r_zpLT, r_zpTL, r_zpTT, e_rg1, dDiv_int, dMod_int, Int.reduceLT, wipeE, id]⟩
        rw [List.map_id] at c1
        have q1 : dNe (.lst (xs.filter fun x => !sndB x)) (.lst []) = .ok (.bl (!xs.all sndB)) := by
          rw [dNe_nil (n := m) (fun y hy => gd_all h y (List.mem_filter.mp hy).1) (by omega), filter_none]
        cases hs : xs.all sndB
        · have hn : (xs.all lotB) = false := by
            cases ha : xs.all lotB with
            | false => rfl
            | true =>
              have : xs.all sndB = true := by
                rw [List.all_eq_true]
                intro x hx
                obtain ⟨a, b, rfl, _, h2⟩ := lot_is (List.all_eq_true.mp ha x hx)
                exact h2
              rw [this] at hs; cases hs
          rw [hs] at q1
          simp only [e_run, e_seq, e_nil, e_brk, e_cnt, e_if, e_ret, e_retN, e_set, e_for, e_test, e_not, e_and, e_or, e_notV, e_andV, e_orV, e_ifE, e_m1, e_m2, e_c, e_var, e_varB, e_evN, e_evC, e_tup, e_lst, e_call, e_items, e_yes, r_seqN, r_seqR, r_seqB, r_seqC, r_seqE, r_seqS, r_bifT, r_bifF, r_bifE, r_ret, r_retE, r_put, r_putE, r_outR, r_outN, r_outE, r_ap2, r_bol, r_neg, r_bl, r_cons, r_getv, r_getb, r_tupl, r_lstl, r_loop, view_val, Res.bind_ok, Res.bind_err, Res.bind_stuck, Res.calm_ok, List.getElem?_cons_zero, List.getElem?_cons_succ, List.set_cons_zero, List.set_cons_succ, List.map_cons, List.map_nil, List.cons_append, List.nil_append, List.append_nil, List.length_cons, List.length_nil, List.replicate_succ, List.replicate_zero, Nat.reduceSub, Nat.reduceAdd, Nat.zero_add, Nat.sub_self, dAdd_int, dSub_int, dLt_int, dLe_int, dGt_int, dGe_int, dNeg_int, dInt_bl, dInt_int, dEq_int, dNe_int, decide_true, decide_false, Bool.not_true, Bool.not_false, if_true, if_false, Bool.false_eq_true, ofS_eq, String.reduceEq, e_chain, r_chn, r_chmT, r_chmF, e_sl, e_oN, e_oS, r_opt, r_slc, e_mM0, r_mm0, e_mM1, r_mm1, e_enum, r_enmL, r_enmT, e_zip, r_zpLL, r_zpLT, r_zpTL, r_zpTT, e_rg1, dDiv_int, dMod_int, Int.reduceLT, m__law_are_lots, lotsB, c0, q0, c1, q1, hn, dIsi, D.ty, isiB, String.reduceBEq, Bool.or_false, Bool.false_or, Bool.or_self, Bool.and_false, Bool.false_and, Bool.and_true, Bool.true_and, Bool.or_true, Bool.true_or, Bool.and_self]
        · rw [hs] at q1
          have c2 : m__law_are_lots_c2 (callF (k + 2)) [some (.val (.tup xs)), none] = .ok (.lst (xs.map fstD)) :=
            mLc_m (as := xs) (g := id) (by simp only [e_run, e_seq, e_nil, e_brk, e_cnt, e_if, e_ret, e_retN, e_set, e_for, e_test, e_not, e_and, e_or, e_notV, e_andV, e_orV, e_ifE, e_m1, e_m2, e_c, e_var, e_varB, e_evN, e_evC, e_tup, e_lst, e_call, e_items, e_yes, r_seqN, r_seqR, r_seqB, r_seqC, r_seqE, r_seqS, r_bifT, r_bifF, r_bifE, r_ret, r_retE, r_put, r_putE, r_outR, r_outN, r_outE, r_ap2, r_bol, r_neg, r_bl, r_cons, r_getv, r_getb, r_tupl, r_lstl, r_loop, view_val, Res.bind_ok, Res.bind_err, Res.bind_stuck, Res.calm_ok, List.getElem?_cons_zero, List.getElem?_cons_succ, List.set_cons_zero, List.set_cons_succ, List.map_cons, List.map_nil, List.cons_append, List.nil_append, List.append_nil, List.length_cons, List.length_nil, List.replicate_succ, List.replicate_zero, Nat.reduceSub, Nat.reduceAdd, Nat.zero_add, Nat.sub_self, dAdd_int, dSub_int, dLt_int, dLe_int, dGt_int, dGe_int, dNeg_int, dInt_bl, dInt_int, dEq_int, dNe_int, decide_true, decide_false, Bool.not_true, Bool.not_false, if_true, if_false, Bool.false_eq_true, ofS_eq, String.reduceEq, e_chain, r_chn, r_chmT, r_chmF, e_sl, e_oN, e_oS, r_opt, r_slc, e_mM0, r_mm0, e_mM1, r_mm1, e_enum, r_enmL, r_enmT, e_zip, r_zpLL, r_zpLT, r_zpTL, r_zpTT, e_rg1, dDiv_int, dMod_int, Int.reduceLT, qi, List.map_id]) (by omega) fun x hx => by
              obtain ⟨a, b, rfl⟩ := pr x hx
              have i0 : dIx (.tup [a, b]) (.int 0) = .ok a := rfl
              exact ⟨_, rfl, by simp only [e_run, e_seq, e_nil, e_brk, e_cnt, e_if, e_ret, e_retN, e_set, e_for, e_test, e_not, e_and, e_or, e_notV, e_andV, e_orV, e_ifE, e_m1, e_m2, e_c, e_var, e_varB, e_evN, e_evC, e_tup, e_lst, e_call, e_items, e_yes, r_seqN, r_seqR, r_seqB, r_seqC, r_seqE, r_seqS, r_bifT, r_bifF, r_bifE, r_ret, r_retE, r_put, r_putE, r_outR, r_outN, r_outE, r_ap2, r_bol, r_neg, r_bl, r_cons, r_getv, r_getb, r_tupl, r_lstl, r_loop, view_val, Res.bind_ok, Res.bind_err, Res.bind_stuck, Res.calm_ok, List.getElem?_cons_zero, List.getElem?_cons_succ, List.set_cons_zero, List.set_cons_succ, List.map_cons, List.map_nil, List.cons_append, List.nil_append, List.append_nil, List.length_cons, List.length_nil, List.replicate_succ, List.replicate_zero, Nat.reduceSub, Nat.reduceAdd, Nat.zero_add, Nat.sub_self, dAdd_int, dSub_int, dLt_int, dLe_int, dGt_int, dGe_int, dNeg_int, dInt_bl, dInt_int, dEq_int, dNe_int, decide_true, decide_false, Bool.not_true, Bool.not_false, if_true, if_false, Bool.false_eq_true, ofS_eq, String.reduceEq, e_chain, r_chn, r_chmT, r_chmF, e_sl, e_oN, e_oS, r_opt, r_slc, e_mM0, r_mm0, e_mM1, r_mm1, e_enum, r_enmL, r_enmT, e_zip, r_zpLL, r_zpLT, r_zpTL, r_zpTT, e_rg1, dDiv_int, dMod_int, Int.reduceLT, wipeE, id, i0, fstD]⟩
          have gf : gd (m + 1) (.tup (xs.map fstD)) = true := by
            refine gd_mk (by rw [List.length_map]; exact hz) fun y hy => ?_
            obtain ⟨x, hx, rfl⟩ := List.mem_map.mp hy
            obtain ⟨a, b, rfl⟩ := pr x hx
            exact gd_all (gd_all h _ hx) a (by simp)
          have r : callF (k + 2) ._law_are_options [.tup (xs.map fstD), .int 5] = _ := L_opts k gf (by omega) 5 (by decide)
          have hf : (xs.map fstD).all (wholeB (-50) 50) = xs.all lotB := by
            rw [List.all_map, Bool.eq_iff_iff, List.all_eq_true, List.all_eq_true]
            constructor
            · intro z x hx
              have z1 := z x hx
              have z2 := List.all_eq_true.mp hs x hx
              obtain ⟨a, b, rfl⟩ := pr x hx
              simp only [Function.comp, fstD] at z1
              simp only [sndB] at z2
              simp only [lotB, z1, z2, Bool.and_self]
            · intro z x hx
              obtain ⟨a, b, rfl, h1, _⟩ := lot_is (z x hx)
              exact h1
          have z5 : decide ((xs.length : Int) ≤ 5) = decide (xs.length ≤ 5) := by
            by_cases hh : xs.length ≤ 5
            · have : (xs.length : Int) ≤ 5 := by omega
              simp only [hh, this]
            · have : ¬ (xs.length : Int) ≤ 5 := by omega
              simp only [hh, this]
          simp only [optsB, List.length_map, hf, z5] at r
          simp only [e_run, e_seq, e_nil, e_brk, e_cnt, e_if, e_ret, e_retN, e_set, e_for, e_test, e_not, e_and, e_or, e_notV, e_andV, e_orV, e_ifE, e_m1, e_m2, e_c, e_var, e_varB, e_evN, e_evC, e_tup, e_lst, e_call, e_items, e_yes, r_seqN, r_seqR, r_seqB, r_seqC, r_seqE, r_seqS, r_bifT, r_bifF, r_bifE, r_ret, r_retE, r_put, r_putE, r_outR, r_outN, r_outE, r_ap2, r_bol, r_neg, r_bl, r_cons, r_getv, r_getb, r_tupl, r_lstl, r_loop, view_val, Res.bind_ok, Res.bind_err, Res.bind_stuck, Res.calm_ok, List.getElem?_cons_zero, List.getElem?_cons_succ, List.set_cons_zero, List.set_cons_succ, List.map_cons, List.map_nil, List.cons_append, List.nil_append, List.append_nil, List.length_cons, List.length_nil, List.replicate_succ, List.replicate_zero, Nat.reduceSub, Nat.reduceAdd, Nat.zero_add, Nat.sub_self, dAdd_int, dSub_int, dLt_int, dLe_int, dGt_int, dGe_int, dNeg_int, dInt_bl, dInt_int, dEq_int, dNe_int, decide_true, decide_false, Bool.not_true, Bool.not_false, if_true, if_false, Bool.false_eq_true, ofS_eq, String.reduceEq, e_chain, r_chn, r_chmT, r_chmF, e_sl, e_oN, e_oS, r_opt, r_slc, e_mM0, r_mm0, e_mM1, r_mm1, e_enum, r_enmL, r_enmT, e_zip, r_zpLL, r_zpLT, r_zpTL, r_zpTT, e_rg1, dDiv_int, dMod_int, Int.reduceLT, m__law_are_lots, lotsB, c0, q0, c1, q1, c2, dTuple, r, dIsi, D.ty, isiB, String.reduceBEq, Bool.or_false, Bool.false_or, Bool.or_self, Bool.and_false, Bool.false_and, Bool.and_true, Bool.true_and, Bool.or_true, Bool.true_or, Bool.and_self]
  · simp only [e_run, e_seq, e_nil, e_brk, e_cnt, e_if, e_ret, e_retN, e_set, e_for, e_test, e_not, e_and, e_or, e_notV, e_andV, e_orV, e_ifE, e_m1, e_m2, e_c, e_var, e_varB, e_evN, e_evC, e_tup, e_lst, e_call, e_items, e_yes, r_seqN, r_seqR, r_seqB, r_seqC, r_seqE, r_seqS, r_bifT, r_bifF, r_bifE, r_ret, r_retE, r_put, r_putE, r_outR, r_outN, r_outE, r_ap2, r_bol, r_neg, r_bl, r_cons, r_getv, r_getb, r_tupl, r_lstl, r_loop, view_val, Res.bind_ok, Res.bind_err, Res.bind_stuck, Res.calm_ok, List.getElem?_cons_zero, List.getElem?_cons_succ, List.set_cons_zero, List.set_cons_succ, List.map_cons, List.map_nil, List.cons_append, List.nil_append, List.append_nil, List.length_cons, List.length_nil, List.replicate_succ, List.replicate_zero, Nat.reduceSub, Nat.reduceAdd, Nat.zero_add, Nat.sub_self, dAdd_int, dSub_int, dLt_int, dLe_int, dGt_int, dGe_int, dNeg_int, dInt_bl, dInt_int, dEq_int, dNe_int, decide_true, decide_false, Bool.not_true, Bool.not_false, if_true, if_false, Bool.false_eq_true, ofS_eq, String.reduceEq, e_chain, r_chn, r_chmT, r_chmF, e_sl, e_oN, e_oS, r_opt, r_slc, e_mM0, r_mm0, e_mM1, r_mm1, e_enum, r_enmL, r_enmT, e_zip, r_zpLL, r_zpLT, r_zpTL, r_zpTT, e_rg1, dDiv_int, dMod_int, Int.reduceLT, m__law_are_lots, lotsB, dIsi, D.ty, isiB, String.reduceBEq, Bool.or_false, Bool.false_or, Bool.or_self, Bool.and_false, Bool.false_and, Bool.and_true, Bool.true_and, Bool.or_true, Bool.true_or, Bool.and_self]

theorem len1 (xs : List D) : (∃ a, xs = [a]) ∨ (¬ (xs.length : Int) = 1 ∧ ∀ a, xs ≠ [a]) := by
  match xs with
  | [] => exact .inr ⟨by simp, by simp⟩
  | [a] => exact .inl ⟨a, rfl⟩
  | a :: b :: r => exact .inr ⟨by simp; omega, by simp⟩
theorem one_no {f : D → Bool} {r : List D} (h : ∀ a, r ≠ [a]) : one f r = false := by
  unfold one; split
  · exact absurd rfl (h _)
  · rfl
theorem two_no {f g : D → Bool} {r : List D} (h : ∀ a b, r ≠ [a, b]) : two f g r = false := by
  unfold two; split
  · exact absurd rfl (h _ _)
  · rfl
theorem three_no {f g e : D → Bool} {r : List D} (h : ∀ a b c, r ≠ [a, b, c]) : three f g e r = false := by
  unfold three; split
  · exact absurd rfl (h _ _ _)
  · rfl
def ifB : Nat → List D → Bool
  | 0, _ => false
  | m + 1, r => three (sumB 6) (sheetB (stepB m)) (sheetB (stepB m)) r
theorem ifB_no {n : Nat} {r : List D} (h : ∀ a b c, r ≠ [a, b, c]) : ifB n r = false := by
  cases n with
  | zero => rfl
  | succ n => exact three_no h
theorem stepB_eq (n : Nat) (w : Str) (r : List D) : stepB n (.tup (.str w :: r)) = if w = "draw" then two nameB lotsB r else if w = "show" then two nameB (wholeB 0 1) r else if w = "ask" then three (wholeB 0 1) nameB (optsB 4) r
    else if w = "keep" then two nameB (sumB 6) r else if w = "pay" then one (sumB 6) r else if w = "if" then ifB n r else false := by
  cases n <;> rfl
theorem stepB_non (n : Nat) (d : D) (h : ∀ w r, d ≠ .tup (.str w :: r)) : stepB n d = false := by
  cases n <;> (unfold stepB; split <;> first | rfl | (rename_i e; exact absurd rfl (h _ _)))
theorem cut_one (a : D) (r : List D) : dSl (.tup (a :: r)) (some 1) none = .ok (.tup r) := by
  simp only [dSl, cut_tail, List.drop_succ_cons, List.drop_zero]
theorem P_step_of (C : Fn → List D → Res D) (n m : Nat) (hm : m ≤ 60)
    (hN : ∀ d, gd m d = true → C .is_name [d] = .ok (.bl (nameB d))) (hI : ∀ d lo hi, gd m d = true → C .is_number [d, .int lo, .int hi] = .ok (.bl (wholeB lo hi d)))
    (hL : ∀ d, gd m d = true → C .are_lots [d] = .ok (.bl (lotsB d))) (hO : ∀ d, gd m d = true → C .are_options [d] = .ok (.bl (optsB 4 d))) (hS : ∀ d, gd m d = true → C .is_sum [d] = .ok (.bl (sumB 6 d)))
    (hR : ∀ n', n = n' + 1 → ∀ d, gd m d = true → C .is_sheet_at [d, .int n'] = .ok (.bl (sheetB (stepB n') d))) (d : D) (h : gd m d = true) : runM 3 (m_is_step C) [d, .int n] = .ok (.bl (stepB n d)) := by
  rcases gd_ty h with rfl | ⟨b, rfl⟩ | ⟨i, rfl⟩ | ⟨x, rfl, ox, lx⟩ | ⟨xs, rfl⟩ | ⟨xs, rfl⟩
  · rw [stepB_non n _ (by simp)]; simp only [e_run, e_seq, e_nil, e_brk, e_cnt, e_if, e_ret, e_retN, e_set, e_for, e_test, e_not, e_and, e_or, e_notV, e_andV, e_orV, e_ifE, e_m1, e_m2, e_c, e_var, e_varB, e_evN, e_evC, e_tup, e_lst, e_call, e_items, e_yes, r_seqN, r_seqR, r_seqB, r_seqC, r_seqE, r_seqS, r_bifT, r_bifF, r_bifE, r_ret, r_retE, r_put, r_putE, r_outR, r_outN, r_outE, r_ap2, r_bol, r_neg, r_bl, r_cons, r_getv, r_getb, r_tupl, r_lstl, r_loop, view_val, Res.bind_ok, Res.bind_err, Res.bind_stuck, Res.calm_ok, List.getElem?_cons_zero, List.getElem?_cons_succ, List.set_cons_zero, List.set_cons_succ, List.map_cons, List.map_nil, List.cons_append, List.nil_append, List.append_nil, List.length_cons, List.length_nil, List.replicate_succ, List.replicate_zero, Nat.reduceSub, Nat.reduceAdd, Nat.zero_add, Nat.sub_self, dAdd_int, dSub_int, dLt_int, dLe_int, dGt_int, dGe_int, dNeg_int, dInt_bl, dInt_int, dEq_int, dNe_int, decide_true, decide_false, Bool.not_true, Bool.not_false, if_true, if_false, Bool.false_eq_true, ofS_eq, String.reduceEq, e_chain, r_chn, r_chmT, r_chmF, e_sl, e_oN, e_oS, r_opt, r_slc, e_mM0, r_mm0, e_mM1, r_mm1, e_enum, r_enmL, r_enmT, e_zip, r_zpLL, r_zpLT, r_zpTL, r_zpTT, e_rg1, dDiv_int, dMod_int, Int.reduceLT, m_is_step, dIsi, D.ty, isiB, String.reduceBEq, Bool.or_false, Bool.false_or, Bool.or_self, Bool.and_false, Bool.false_and, Bool.and_true, Bool.true_and, Bool.or_true, Bool.true_or, Bool.and_self]
  · rw [stepB_non n _ (by simp)]; simp only [e_run, e_seq, e_nil, e_brk, e_cnt, e_if, e_ret, e_retN, e_set, e_for, e_test, e_not, e_and, e_or, e_notV, e_andV, e_orV, e_ifE, e_m1, e_m2, e_c, e_var, e_varB, e_evN, e_evC, e_tup, e_lst, e_call, e_items, e_yes, r_seqN, r_seqR, r_seqB, r_seqC, r_seqE, r_seqS, r_bifT, r_bifF, r_bifE, r_ret, r_retE, r_put, r_putE, r_outR, r_outN, r_outE, r_ap2, r_bol, r_neg, r_bl, r_cons, r_getv, r_getb, r_tupl, r_lstl, r_loop, view_val, Res.bind_ok, Res.bind_err, Res.bind_stuck, Res.calm_ok, List.getElem?_cons_zero, List.getElem?_cons_succ, List.set_cons_zero, List.set_cons_succ, List.map_cons, List.map_nil, List.cons_append, List.nil_append, List.append_nil, List.length_cons, List.length_nil, List.replicate_succ, List.replicate_zero, Nat.reduceSub, Nat.reduceAdd, Nat.zero_add, Nat.sub_self, dAdd_int, dSub_int, dLt_int, dLe_int, dGt_int, dGe_int, dNeg_int, dInt_bl, dInt_int, dEq_int, dNe_int, decide_true, decide_false, Bool.not_true, Bool.not_false, if_true, if_false, Bool.false_eq_true, ofS_eq, String.reduceEq, e_chain, r_chn, r_chmT, r_chmF, e_sl, e_oN, e_oS, r_opt, r_slc, e_mM0, r_mm0, e_mM1, r_mm1, e_enum, r_enmL, r_enmT, e_zip, r_zpLL, r_zpLT, r_zpTL, r_zpTT, e_rg1, dDiv_int, dMod_int, Int.reduceLT, m_is_step, dIsi, D.ty, isiB, String.reduceBEq, Bool.or_false, Bool.false_or, Bool.or_self, Bool.and_false, Bool.false_and, Bool.and_true, Bool.true_and, Bool.or_true, Bool.true_or, Bool.and_self]
  · rw [stepB_non n _ (by simp)]; simp only [e_run, e_seq, e_nil, e_brk, e_cnt, e_if, e_ret, e_retN, e_set, e_for, e_test, e_not, e_and, e_or, e_notV, e_andV, e_orV, e_ifE, e_m1, e_m2, e_c, e_var, e_varB, e_evN, e_evC, e_tup, e_lst, e_call, e_items, e_yes, r_seqN, r_seqR, r_seqB, r_seqC, r_seqE, r_seqS, r_bifT, r_bifF, r_bifE, r_ret, r_retE, r_put, r_putE, r_outR, r_outN, r_outE, r_ap2, r_bol, r_neg, r_bl, r_cons, r_getv, r_getb, r_tupl, r_lstl, r_loop, view_val, Res.bind_ok, Res.bind_err, Res.bind_stuck, Res.calm_ok, List.getElem?_cons_zero, List.getElem?_cons_succ, List.set_cons_zero, List.set_cons_succ, List.map_cons, List.map_nil, List.cons_append, List.nil_append, List.append_nil, List.length_cons, List.length_nil, List.replicate_succ, List.replicate_zero, Nat.reduceSub, Nat.reduceAdd, Nat.zero_add, Nat.sub_self, dAdd_int, dSub_int, dLt_int, dLe_int, dGt_int, dGe_int, dNeg_int, dInt_bl, dInt_int, dEq_int, dNe_int, decide_true, decide_false, Bool.not_true, Bool.not_false, if_true, if_false, Bool.false_eq_true, ofS_eq, String.reduceEq, e_chain, r_chn, r_chmT, r_chmF, e_sl, e_oN, e_oS, r_opt, r_slc, e_mM0, r_mm0, e_mM1, r_mm1, e_enum, r_enmL, r_enmT, e_zip, r_zpLL, r_zpLT, r_zpTL, r_zpTT, e_rg1, dDiv_int, dMod_int, Int.reduceLT, m_is_step, dIsi, D.ty, isiB, String.reduceBEq, Bool.or_false, Bool.false_or, Bool.or_self, Bool.and_false, Bool.false_and, Bool.and_true, Bool.true_and, Bool.or_true, Bool.true_or, Bool.and_self]
  · rw [stepB_non n _ (by simp)]; simp only [e_run, e_seq, e_nil, e_brk, e_cnt, e_if, e_ret, e_retN, e_set, e_for, e_test, e_not, e_and, e_or, e_notV, e_andV, e_orV, e_ifE, e_m1, e_m2, e_c, e_var, e_varB, e_evN, e_evC, e_tup, e_lst, e_call, e_items, e_yes, r_seqN, r_seqR, r_seqB, r_seqC, r_seqE, r_seqS, r_bifT, r_bifF, r_bifE, r_ret, r_retE, r_put, r_putE, r_outR, r_outN, r_outE, r_ap2, r_bol, r_neg, r_bl, r_cons, r_getv, r_getb, r_tupl, r_lstl, r_loop, view_val, Res.bind_ok, Res.bind_err, Res.bind_stuck, Res.calm_ok, List.getElem?_cons_zero, List.getElem?_cons_succ, List.set_cons_zero, List.set_cons_succ, List.map_cons, List.map_nil, List.cons_append, List.nil_append, List.append_nil, List.length_cons, List.length_nil, List.replicate_succ, List.replicate_zero, Nat.reduceSub, Nat.reduceAdd, Nat.zero_add, Nat.sub_self, dAdd_int, dSub_int, dLt_int, dLe_int, dGt_int, dGe_int, dNeg_int, dInt_bl, dInt_int, dEq_int, dNe_int, decide_true, decide_false, Bool.not_true, Bool.not_false, if_true, if_false, Bool.false_eq_true, ofS_eq, String.reduceEq, e_chain, r_chn, r_chmT, r_chmF, e_sl, e_oN, e_oS, r_opt, r_slc, e_mM0, r_mm0, e_mM1, r_mm1, e_enum, r_enmL, r_enmT, e_zip, r_zpLL, r_zpLT, r_zpTL, r_zpTT, e_rg1, dDiv_int, dMod_int, Int.reduceLT, m_is_step, dIsi, D.ty, isiB, String.reduceBEq, Bool.or_false, Bool.false_or, Bool.or_self, Bool.and_false, Bool.false_and, Bool.and_true, Bool.true_and, Bool.or_true, Bool.true_or, Bool.and_self]
  · cases xs with
    | nil =>
      have l0 : dLen (.tup []) = .ok (.int 0) := rfl
      rw [stepB_non n _ (by simp)]; simp only [e_run, e_seq, e_nil, e_brk, e_cnt, e_if, e_ret, e_retN, e_set, e_for, e_test, e_not, e_and, e_or, e_notV, e_andV, e_orV, e_ifE, e_m1, e_m2, e_c, e_var, e_varB, e_evN, e_evC, e_tup, e_lst, e_call, e_items, e_yes, r_seqN, r_seqR, r_seqB, r_seqC, r_seqE, r_seqS, r_bifT, r_bifF, r_bifE, r_ret, r_retE, r_put, r_putE, r_outR, r_outN, r_outE, r_ap2, r_bol, r_neg, r_bl, r_cons, r_getv, r_getb, r_tupl, r_lstl, r_loop, view_val, Res.bind_ok, Res.bind_err, Res.bind_stuck, Res.calm_ok, List.getElem?_cons_zero, List.getElem?_cons_succ, List.set_cons_zero, List.set_cons_succ, List.map_cons, List.map_nil, List.cons_append, List.nil_append, List.append_nil, List.length_cons, List.length_nil, List.replicate_succ, List.replicate_zero, Nat.reduceSub, Nat.reduceAdd, Nat.zero_add, Nat.sub_self, dAdd_int, dSub_int, dLt_int, dLe_int, dGt_int, dGe_int, dNeg_int, dInt_bl, dInt_int, dEq_int, dNe_int, decide_true, decide_false, Bool.not_true, Bool.not_false, if_true, if_false, Bool.false_eq_true, ofS_eq, String.reduceEq, e_chain, r_chn, r_chmT, r_chmF, e_sl, e_oN, e_oS, r_opt, r_slc, e_mM0, r_mm0, e_mM1, r_mm1, e_enum, r_enmL, r_enmT, e_zip, r_zpLL, r_zpLT, r_zpTL, r_zpTT, e_rg1, dDiv_int, dMod_int, Int.reduceLT, m_is_step, l0, dIsi, D.ty, isiB, String.reduceBEq, Bool.or_false, Bool.false_or, Bool.or_self, Bool.and_false, Bool.false_and, Bool.and_true, Bool.true_and, Bool.or_true, Bool.true_or, Bool.and_self]
    | cons a r =>
      obtain ⟨L, z0, l0⟩ : ∃ L : Int, ¬ L = 0 ∧ dLen (.tup (a :: r)) = .ok (.int L) := ⟨((r.length + 1 : Nat) : Int), by omega, rfl⟩
      have i0 : dIx (.tup (a :: r)) (.int 0) = .ok a := dIx_tupN (j := 0) rfl
      have lr : dLen (.tup r) = .ok (.int r.length) := rfl
      have ga := gd_all h a (by simp)
      have gr : ∀ x ∈ r, gd m x = true := fun x hx => gd_all h x (by simp [hx])
      rcases gd_ty ga with rfl | ⟨b, rfl⟩ | ⟨i, rfl⟩ | ⟨w, rfl, ow, lw⟩ | ⟨ys, rfl⟩ | ⟨ys, rfl⟩
      · rw [stepB_non n _ (by simp)]; simp only [e_run, e_seq, e_nil, e_brk, e_cnt, e_if, e_ret, e_retN, e_set, e_for, e_test, e_not, e_and, e_or, e_notV, e_andV, e_orV, e_ifE, e_m1, e_m2, e_c, e_var, e_varB, e_evN, e_evC, e_tup, e_lst, e_call, e_items, e_yes, r_seqN, r_seqR, r_seqB, r_seqC, r_seqE, r_seqS, r_bifT, r_bifF, r_bifE, r_ret, r_retE, r_put, r_putE, r_outR, r_outN, r_outE, r_ap2, r_bol, r_neg, r_bl, r_cons, r_getv, r_getb, r_tupl, r_lstl, r_loop, view_val, Res.bind_ok, Res.bind_err, Res.bind_stuck, Res.calm_ok, List.getElem?_cons_zero, List.getElem?_cons_succ, List.set_cons_zero, List.set_cons_succ, List.map_cons, List.map_nil, List.cons_append, List.nil_append, List.append_nil, List.length_cons, List.length_nil, List.replicate_succ, List.replicate_zero, Nat.reduceSub, Nat.reduceAdd, Nat.zero_add, Nat.sub_self, dAdd_int, dSub_int, dLt_int, dLe_int, dGt_int, dGe_int, dNeg_int, dInt_bl, dInt_int, dEq_int, dNe_int, decide_true, decide_false, Bool.not_true, Bool.not_false, if_true, if_false, Bool.false_eq_true, ofS_eq, String.reduceEq, e_chain, r_chn, r_chmT, r_chmF, e_sl, e_oN, e_oS, r_opt, r_slc, e_mM0, r_mm0, e_mM1, r_mm1, e_enum, r_enmL, r_enmT, e_zip, r_zpLL, r_zpLT, r_zpTL, r_zpTT, e_rg1, dDiv_int, dMod_int, Int.reduceLT, m_is_step, l0, z0, i0, dIsi, D.ty, isiB, String.reduceBEq, Bool.or_false, Bool.false_or, Bool.or_self, Bool.and_false, Bool.false_and, Bool.and_true, Bool.true_and, Bool.or_true, Bool.true_or, Bool.and_self]
      · rw [stepB_non n _ (by simp)]; simp only [e_run, e_seq, e_nil, e_brk, e_cnt, e_if, e_ret, e_retN, e_set, e_for, e_test, e_not, e_and, e_or, e_notV, e_andV, e_orV, e_ifE, e_m1, e_m2, e_c, e_var, e_varB, e_evN, e_evC, e_tup, e_lst, e_call, e_items, e_yes, r_seqN, r_seqR, r_seqB, r_seqC, r_seqE, r_seqS, r_bifT, r_bifF, r_bifE, r_ret, r_retE, r_put, r_putE, r_outR, r_outN, r_outE, r_ap2, r_bol, r_neg, r_bl, r_cons, r_getv, r_getb, r_tupl, r_lstl, r_loop, view_val, Res.bind_ok, Res.bind_err, Res.bind_stuck, Res.calm_ok, List.getElem?_cons_zero, List.getElem?_cons_succ, List.set_cons_zero, List.set_cons_succ, List.map_cons, List.map_nil, List.cons_append, List.nil_append, List.append_nil, List.length_cons, List.length_nil, List.replicate_succ, List.replicate_zero, Nat.reduceSub, Nat.reduceAdd, Nat.zero_add, Nat.sub_self, dAdd_int, dSub_int, dLt_int, dLe_int, dGt_int, dGe_int, dNeg_int, dInt_bl, dInt_int, dEq_int, dNe_int, decide_true, decide_false, Bool.not_true, Bool.not_false, if_true, if_false, Bool.false_eq_true, ofS_eq, String.reduceEq, e_chain, r_chn, r_chmT, r_chmF, e_sl, e_oN, e_oS, r_opt, r_slc, e_mM0, r_mm0, e_mM1, r_mm1, e_enum, r_enmL, r_enmT, e_zip, r_zpLL, r_zpLT, r_zpTL, r_zpTT, e_rg1, dDiv_int, dMod_int, Int.reduceLT, m_is_step, l0, z0, i0, dIsi, D.ty, isiB, String.reduceBEq, Bool.or_false, Bool.false_or, Bool.or_self, Bool.and_false, Bool.false_and, Bool.and_true, Bool.true_and, Bool.or_true, Bool.true_or, Bool.and_self]
      · rw [stepB_non n _ (by simp)]; simp only [e_run, e_seq, e_nil, e_brk, e_cnt, e_if, e_ret, e_retN, e_set, e_for, e_test, e_not, e_and, e_or, e_notV, e_andV, e_orV, e_ifE, e_m1, e_m2, e_c, e_var, e_varB, e_evN, e_evC, e_tup, e_lst, e_call, e_items, e_yes, r_seqN, r_seqR, r_seqB, r_seqC, r_seqE, r_seqS, r_bifT, r_bifF, r_bifE, r_ret, r_retE, r_put, r_putE, r_outR, r_outN, r_outE, r_ap2, r_bol, r_neg, r_bl, r_cons, r_getv, r_getb, r_tupl, r_lstl, r_loop, view_val, Res.bind_ok, Res.bind_err, Res.bind_stuck, Res.calm_ok, List.getElem?_cons_zero, List.getElem?_cons_succ, List.set_cons_zero, List.set_cons_succ, List.map_cons, List.map_nil, List.cons_append, List.nil_append, List.append_nil, List.length_cons, List.length_nil, List.replicate_succ, List.replicate_zero, Nat.reduceSub, Nat.reduceAdd, Nat.zero_add, Nat.sub_self, dAdd_int, dSub_int, dLt_int, dLe_int, dGt_int, dGe_int, dNeg_int, dInt_bl, dInt_int, dEq_int, dNe_int, decide_true, decide_false, Bool.not_true, Bool.not_false, if_true, if_false, Bool.false_eq_true, ofS_eq, String.reduceEq, e_chain, r_chn, r_chmT, r_chmF, e_sl, e_oN, e_oS, r_opt, r_slc, e_mM0, r_mm0, e_mM1, r_mm1, e_enum, r_enmL, r_enmT, e_zip, r_zpLL, r_zpLT, r_zpTL, r_zpTT, e_rg1, dDiv_int, dMod_int, Int.reduceLT, m_is_step, l0, z0, i0, dIsi, D.ty, isiB, String.reduceBEq, Bool.or_false, Bool.false_or, Bool.or_self, Bool.and_false, Bool.false_and, Bool.and_true, Bool.true_and, Bool.or_true, Bool.true_or, Bool.and_self]
      · rw [stepB_eq]
        have q : ∀ v : Str, okS v = true → dEq (.str w) (.str v) = .ok (.bl (decide (w = v))) := fun v hv => dEq_str ow hv
        have qn : dNe (.str w) (.str "if") = .ok (.bl (!decide (w = "if"))) := by simp only [dNe, dEqB_str ow (show okS "if" = true by decide +kernel), Res.bind_ok]
        have q1 := q "draw" (by decide +kernel)
        have q2 := q "show" (by decide +kernel)
        have q3 := q "ask" (by decide +kernel)
        have q4 := q "keep" (by decide +kernel)
        have q5 := q "pay" (by decide +kernel)
        by_cases c1 : w = "draw"
        · rw [if_pos c1]
          have d1 := decide_eq_true c1
          rcases len2 r with ⟨a, b, rfl⟩ | ⟨hl, hx⟩
          · have e1 := hN a (gr a (by simp))
            have e2 := hL b (gr b (by simp))
            have j0 : dIx (.tup [a, b]) (.int 0) = .ok a := rfl
            have j1 : dIx (.tup [a, b]) (.int 1) = .ok b := rfl
            have l2 : dLen (.tup [a, b]) = .ok (.int 2) := rfl
            cases h1 : nameB a <;> rw [h1] at e1 <;> simp only [e_run, e_seq, e_nil, e_brk, e_cnt, e_if, e_ret, e_retN, e_set, e_for, e_test, e_not, e_and, e_or, e_notV, e_andV, e_orV, e_ifE, e_m1, e_m2, e_c, e_var, e_varB, e_evN, e_evC, e_tup, e_lst, e_call, e_items, e_yes, r_seqN, r_seqR, r_seqB, r_seqC, r_seqE, r_seqS, r_bifT, r_bifF, r_bifE, r_ret, r_retE, r_put, r_putE, r_outR, r_outN, r_outE, r_ap2, r_bol, r_neg, r_bl, r_cons, r_getv, r_getb, r_tupl, r_lstl, r_loop, view_val, Res.bind_ok, Res.bind_err, Res.bind_stuck, Res.calm_ok, List.getElem?_cons_zero, List.getElem?_cons_succ, List.set_cons_zero, List.set_cons_succ, List.map_cons, List.map_nil, List.cons_append, List.nil_append, List.append_nil, List.length_cons, List.length_nil, List.replicate_succ, List.replicate_zero, Nat.reduceSub, Nat.reduceAdd, Nat.zero_add, Nat.sub_self, dAdd_int, dSub_int, dLt_int, dLe_int, dGt_int, dGe_int, dNeg_int, dInt_bl, dInt_int, dEq_int, dNe_int, decide_true, decide_false, Bool.not_true, Bool.not_false, if_true, if_false, Bool.false_eq_true, ofS_eq, String.reduceEq, e_chain, r_chn, r_chmT, r_chmF, e_sl, e_oN, e_oS, r_opt, r_slc, e_mM0, r_mm0, e_mM1, r_mm1, e_enum, r_enmL, r_enmT, e_zip, r_zpLL, r_zpLT, r_zpTL, r_zpTT, e_rg1, dDiv_int, dMod_int, Int.reduceLT, m_is_step, l0, z0, i0, cut_one, q1, d1, l2, j0, j1, e1, e2, two, h1, dIsi, D.ty, isiB, String.reduceBEq, Bool.or_false, Bool.false_or, Bool.or_self, Bool.and_false, Bool.false_and, Bool.and_true, Bool.true_and, Bool.or_true, Bool.true_or, Bool.and_self]
          · rw [two_no hx]; simp only [e_run, e_seq, e_nil, e_brk, e_cnt, e_if, e_ret, e_retN, e_set, e_for, e_test, e_not, e_and, e_or, e_notV, e_andV, e_orV, e_ifE, e_m1, e_m2, e_c, e_var, e_varB, e_evN, e_evC, e_tup, e_lst, e_call, e_items, e_yes, r_seqN, r_seqR, r_seqB, r_seqC, r_seqE, r_seqS, r_bifT, r_bifF, r_bifE, r_ret, r_retE, r_put, r_putE, r_outR, r_outN, r_outE, r_ap2, r_bol, r_neg, r_bl, r_cons, r_getv, r_getb, r_tupl, r_lstl, r_loop, view_val, Res.bind_ok, Res.bind_err, Res.bind_stuck, Res.calm_ok, List.getElem?_cons_zero, List.getElem?_cons_succ, List.set_cons_zero, List.set_cons_succ, List.map_cons, List.map_nil, List.cons_append, List.nil_append, List.append_nil, List.length_cons, List.length_nil, List.replicate_succ, List.replicate_zero, Nat.reduceSub, Nat.reduceAdd, Nat.zero_add, Nat.sub_self, dAdd_int, dSub_int, dLt_int, dLe_int, dGt_int, dGe_int, dNeg_int, dInt_bl, dInt_int, dEq_int, dNe_int, decide_true, decide_false, Bool.not_true, Bool.not_false, if_true, if_false, Bool.false_eq_true, ofS_eq, String.reduceEq, e_chain, r_chn, r_chmT, r_chmF, e_sl, e_oN, e_oS, r_opt, r_slc, e_mM0, r_mm0, e_mM1, r_mm1, e_enum, r_enmL, r_enmT, e_zip, r_zpLL, r_zpLT, r_zpTL, r_zpTT, e_rg1, dDiv_int, dMod_int, Int.reduceLT, m_is_step, l0, z0, i0, cut_one, q1, d1, lr, hl, dIsi, D.ty, isiB, String.reduceBEq, Bool.or_false, Bool.false_or, Bool.or_self, Bool.and_false, Bool.false_and, Bool.and_true, Bool.true_and, Bool.or_true, Bool.true_or, Bool.and_self]
        rw [if_neg c1]
        by_cases c2 : w = "show"
        · rw [if_pos c2]
          have d2 := decide_eq_true c2
          rcases len2 r with ⟨a, b, rfl⟩ | ⟨hl, hx⟩
          · have e1 := hN a (gr a (by simp))
            have e2 := hI b 0 1 (gr b (by simp))
            have j0 : dIx (.tup [a, b]) (.int 0) = .ok a := rfl
            have j1 : dIx (.tup [a, b]) (.int 1) = .ok b := rfl
            have l2 : dLen (.tup [a, b]) = .ok (.int 2) := rfl
            cases h1 : nameB a <;> rw [h1] at e1 <;> simp only [e_run, e_seq, e_nil, e_brk, e_cnt, e_if, e_ret, e_retN, e_set, e_for, e_test, e_not, e_and, e_or, e_notV, e_andV, e_orV, e_ifE, e_m1, e_m2, e_c, e_var, e_varB, e_evN, e_evC, e_tup, e_lst, e_call, e_items, e_yes, r_seqN, r_seqR, r_seqB, r_seqC, r_seqE, r_seqS, r_bifT, r_bifF, r_bifE, r_ret, r_retE, r_put, r_putE, r_outR, r_outN, r_outE, r_ap2, r_bol, r_neg, r_bl, r_cons, r_getv, r_getb, r_tupl, r_lstl, r_loop, view_val, Res.bind_ok, Res.bind_err, Res.bind_stuck, Res.calm_ok, List.getElem?_cons_zero, List.getElem?_cons_succ, List.set_cons_zero, List.set_cons_succ, List.map_cons, List.map_nil, List.cons_append, List.nil_append, List.append_nil, List.length_cons, List.length_nil, List.replicate_succ, List.replicate_zero, Nat.reduceSub, Nat.reduceAdd, Nat.zero_add, Nat.sub_self, dAdd_int, dSub_int, dLt_int, dLe_int, dGt_int, dGe_int, dNeg_int, dInt_bl, dInt_int, dEq_int, dNe_int, decide_true, decide_false, Bool.not_true, Bool.not_false, if_true, if_false, Bool.false_eq_true, ofS_eq, String.reduceEq, e_chain, r_chn, r_chmT, r_chmF, e_sl, e_oN, e_oS, r_opt, r_slc, e_mM0, r_mm0, e_mM1, r_mm1, e_enum, r_enmL, r_enmT, e_zip, r_zpLL, r_zpLT, r_zpTL, r_zpTT, e_rg1, dDiv_int, dMod_int, Int.reduceLT, m_is_step, l0, z0, i0, cut_one, q1, c1, q2, d2, l2, j0, j1, e1, e2, two, h1, dIsi, D.ty, isiB, String.reduceBEq, Bool.or_false, Bool.false_or, Bool.or_self, Bool.and_false, Bool.false_and, Bool.and_true, Bool.true_and, Bool.or_true, Bool.true_or, Bool.and_self]
          · rw [two_no hx]; simp only [e_run, e_seq, e_nil, e_brk, e_cnt, e_if, e_ret, e_retN, e_set, e_for, e_test, e_not, e_and, e_or, e_notV, e_andV, e_orV, e_ifE, e_m1, e_m2, e_c, e_var, e_varB, e_evN, e_evC, e_tup, e_lst, e_call, e_items, e_yes, r_seqN, r_seqR, r_seqB, r_seqC, r_seqE, r_seqS, r_bifT, r_bifF, r_bifE, r_ret, r_retE, r_put, r_putE, r_outR, r_outN, r_outE, r_ap2, r_bol, r_neg, r_bl, r_cons, r_getv, r_getb, r_tupl, r_lstl, r_loop, view_val, Res.bind_ok, Res.bind_err, Res.bind_stuck, Res.calm_ok, List.getElem?_cons_zero, List.getElem?_cons_succ, List.set_cons_zero, List.set_cons_succ, List.map_cons, List.map_nil, List.cons_append, List.nil_append, List.append_nil, List.length_cons, List.length_nil, List.replicate_succ, List.replicate_zero, Nat.reduceSub, Nat.reduceAdd, Nat.zero_add, Nat.sub_self, dAdd_int, dSub_int, dLt_int, dLe_int, dGt_int, dGe_int, dNeg_int, dInt_bl, dInt_int, dEq_int, dNe_int, decide_true, decide_false, Bool.not_true, Bool.not_false, if_true, if_false, Bool.false_eq_true, ofS_eq, String.reduceEq, e_chain, r_chn, r_chmT, r_chmF, e_sl, e_oN, e_oS, r_opt, r_slc, e_mM0, r_mm0, e_mM1, r_mm1, e_enum, r_enmL, r_enmT, e_zip, r_zpLL, r_zpLT, r_zpTL, r_zpTT, e_rg1, dDiv_int, dMod_int, Int.reduceLT, m_is_step, l0, z0, i0, cut_one, q1, c1, q2, d2, lr, hl, dIsi, D.ty, isiB, String.reduceBEq, Bool.or_false, Bool.false_or, Bool.or_self, Bool.and_false, Bool.false_and, Bool.and_true, Bool.true_and, Bool.or_true, Bool.true_or, Bool.and_self]
        rw [if_neg c2]
        by_cases c3 : w = "ask"
        · rw [if_pos c3]
          have d3 := decide_eq_true c3
          rcases len3 r with ⟨a, b, c, rfl⟩ | ⟨hl, hx⟩
          · have e1 := hI a 0 1 (gr a (by simp))
            have e2 := hN b (gr b (by simp))
            have e3 := hO c (gr c (by simp))
            have j0 : dIx (.tup [a, b, c]) (.int 0) = .ok a := rfl
            have j1 : dIx (.tup [a, b, c]) (.int 1) = .ok b := rfl
            have j2 : dIx (.tup [a, b, c]) (.int 2) = .ok c := rfl
            have l2 : dLen (.tup [a, b, c]) = .ok (.int 3) := rfl
            cases h1 : wholeB 0 1 a <;> cases h2 : nameB b <;> rw [h1] at e1 <;> rw [h2] at e2 <;> simp only [e_run, e_seq, e_nil, e_brk, e_cnt, e_if, e_ret, e_retN, e_set, e_for, e_test, e_not, e_and, e_or, e_notV, e_andV, e_orV, e_ifE, e_m1, e_m2, e_c, e_var, e_varB, e_evN, e_evC, e_tup, e_lst, e_call, e_items, e_yes, r_seqN, r_seqR, r_seqB, r_seqC, r_seqE, r_seqS, r_bifT, r_bifF, r_bifE, r_ret, r_retE, r_put, r_putE, r_outR, r_outN, r_outE, r_ap2, r_bol, r_neg, r_bl, r_cons, r_getv, r_getb, r_tupl, r_lstl, r_loop, view_val, Res.bind_ok, Res.bind_err, Res.bind_stuck, Res.calm_ok, List.getElem?_cons_zero, List.getElem?_cons_succ, List.set_cons_zero, List.set_cons_succ, List.map_cons, List.map_nil, List.cons_append, List.nil_append, List.append_nil, List.length_cons, List.length_nil, List.replicate_succ, List.replicate_zero, Nat.reduceSub, Nat.reduceAdd, Nat.zero_add, Nat.sub_self, dAdd_int, dSub_int, dLt_int, dLe_int, dGt_int, dGe_int, dNeg_int, dInt_bl, dInt_int, dEq_int, dNe_int, decide_true, decide_false, Bool.not_true, Bool.not_false, if_true, if_false, Bool.false_eq_true, ofS_eq, String.reduceEq, e_chain, r_chn, r_chmT, r_chmF, e_sl, e_oN, e_oS, r_opt, r_slc, e_mM0, r_mm0, e_mM1, r_mm1, e_enum, r_enmL, r_enmT, e_zip, r_zpLL, r_zpLT, r_zpTL, r_zpTT, e_rg1, dDiv_int, dMod_int, Int.reduceLT, m_is_step, l0, z0, i0, cut_one, q1, c1, q2, c2, q3, d3, l2, j0, j1, j2, e1, e2, e3, three, ifB, h1, h2, dIsi, D.ty, isiB, String.reduceBEq, Bool.or_false, Bool.false_or, Bool.or_self, Bool.and_false, Bool.false_and, Bool.and_true, Bool.true_and, Bool.or_true, Bool.true_or, Bool.and_self]
          · rw [three_no hx]; simp only [e_run, e_seq, e_nil, e_brk, e_cnt, e_if, e_ret, e_retN, e_set, e_for, e_test, e_not, e_and, e_or, e_notV, e_andV, e_orV, e_ifE, e_m1, e_m2, e_c, e_var, e_varB, e_evN, e_evC, e_tup, e_lst, e_call, e_items, e_yes, r_seqN, r_seqR, r_seqB, r_seqC, r_seqE, r_seqS, r_bifT, r_bifF, r_bifE, r_ret, r_retE, r_put, r_putE, r_outR, r_outN, r_outE, r_ap2, r_bol, r_neg, r_bl, r_cons, r_getv, r_getb, r_tupl, r_lstl, r_loop, view_val, Res.bind_ok, Res.bind_err, Res.bind_stuck, Res.calm_ok, List.getElem?_cons_zero, List.getElem?_cons_succ, List.set_cons_zero, List.set_cons_succ, List.map_cons, List.map_nil, List.cons_append, List.nil_append, List.append_nil, List.length_cons, List.length_nil, List.replicate_succ, List.replicate_zero, Nat.reduceSub, Nat.reduceAdd, Nat.zero_add, Nat.sub_self, dAdd_int, dSub_int, dLt_int, dLe_int, dGt_int, dGe_int, dNeg_int, dInt_bl, dInt_int, dEq_int, dNe_int, decide_true, decide_false, Bool.not_true, Bool.not_false, if_true, if_false, Bool.false_eq_true, ofS_eq, String.reduceEq, e_chain, r_chn, r_chmT, r_chmF, e_sl, e_oN, e_oS, r_opt, r_slc, e_mM0, r_mm0, e_mM1, r_mm1, e_enum, r_enmL, r_enmT, e_zip, r_zpLL, r_zpLT, r_zpTL, r_zpTT, e_rg1, dDiv_int, dMod_int, Int.reduceLT, m_is_step, l0, z0, i0, cut_one, q1, c1, q2, c2, q3, d3, lr, hl, dIsi, D.ty, isiB, String.reduceBEq, Bool.or_false, Bool.false_or, Bool.or_self, Bool.and_false, Bool.false_and, Bool.and_true, Bool.true_and, Bool.or_true, Bool.true_or, Bool.and_self]
        rw [if_neg c3]
        by_cases c4 : w = "keep"
        · rw [if_pos c4]
          have d4 := decide_eq_true c4
          rcases len2 r with ⟨a, b, rfl⟩ | ⟨hl, hx⟩
          · have e1 := hN a (gr a (by simp))
            have e2 := hS b (gr b (by simp))
            have j0 : dIx (.tup [a, b]) (.int 0) = .ok a := rfl
            have j1 : dIx (.tup [a, b]) (.int 1) = .ok b := rfl
            have l2 : dLen (.tup [a, b]) = .ok (.int 2) := rfl
            cases h1 : nameB a <;> rw [h1] at e1 <;> simp only [e_run, e_seq, e_nil, e_brk, e_cnt, e_if, e_ret, e_retN, e_set, e_for, e_test, e_not, e_and, e_or, e_notV, e_andV, e_orV, e_ifE, e_m1, e_m2, e_c, e_var, e_varB, e_evN, e_evC, e_tup, e_lst, e_call, e_items, e_yes, r_seqN, r_seqR, r_seqB, r_seqC, r_seqE, r_seqS, r_bifT, r_bifF, r_bifE, r_ret, r_retE, r_put, r_putE, r_outR, r_outN, r_outE, r_ap2, r_bol, r_neg, r_bl, r_cons, r_getv, r_getb, r_tupl, r_lstl, r_loop, view_val, Res.bind_ok, Res.bind_err, Res.bind_stuck, Res.calm_ok, List.getElem?_cons_zero, List.getElem?_cons_succ, List.set_cons_zero, List.set_cons_succ, List.map_cons, List.map_nil, List.cons_append, List.nil_append, List.append_nil, List.length_cons, List.length_nil, List.replicate_succ, List.replicate_zero, Nat.reduceSub, Nat.reduceAdd, Nat.zero_add, Nat.sub_self, dAdd_int, dSub_int, dLt_int, dLe_int, dGt_int, dGe_int, dNeg_int, dInt_bl, dInt_int, dEq_int, dNe_int, decide_true, decide_false, Bool.not_true, Bool.not_false, if_true, if_false, Bool.false_eq_true, ofS_eq, String.reduceEq, e_chain, r_chn, r_chmT, r_chmF, e_sl, e_oN, e_oS, r_opt, r_slc, e_mM0, r_mm0, e_mM1, r_mm1, e_enum, r_enmL, r_enmT, e_zip, r_zpLL, r_zpLT, r_zpTL, r_zpTT, e_rg1, dDiv_int, dMod_int, Int.reduceLT, m_is_step, l0, z0, i0, cut_one, q1, c1, q2, c2, q3, c3, q4, d4, l2, j0, j1, e1, e2, two, h1, dIsi, D.ty, isiB, String.reduceBEq, Bool.or_false, Bool.false_or, Bool.or_self, Bool.and_false, Bool.false_and, Bool.and_true, Bool.true_and, Bool.or_true, Bool.true_or, Bool.and_self]
          · rw [two_no hx]; simp only [e_run, e_seq, e_nil, e_brk, e_cnt, e_if, e_ret, e_retN, e_set, e_for, e_test, e_not, e_and, e_or, e_notV, e_andV, e_orV, e_ifE, e_m1, e_m2, e_c, e_var, e_varB, e_evN, e_evC, e_tup, e_lst, e_call, e_items, e_yes, r_seqN, r_seqR, r_seqB, r_seqC, r_seqE, r_seqS, r_bifT, r_bifF, r_bifE, r_ret, r_retE, r_put, r_putE, r_outR, r_outN, r_outE, r_ap2, r_bol, r_neg, r_bl, r_cons, r_getv, r_getb, r_tupl, r_lstl, r_loop, view_val, Res.bind_ok, Res.bind_err, Res.bind_stuck, Res.calm_ok, List.getElem?_cons_zero, List.getElem?_cons_succ, List.set_cons_zero, List.set_cons_succ, List.map_cons, List.map_nil, List.cons_append, List.nil_append, List.append_nil, List.length_cons, List.length_nil, List.replicate_succ, List.replicate_zero, Nat.reduceSub, Nat.reduceAdd, Nat.zero_add, Nat.sub_self, dAdd_int, dSub_int, dLt_int, dLe_int, dGt_int, dGe_int, dNeg_int, dInt_bl, dInt_int, dEq_int, dNe_int, decide_true, decide_false, Bool.not_true, Bool.not_false, if_true, if_false, Bool.false_eq_true, ofS_eq, String.reduceEq, e_chain, r_chn, r_chmT, r_chmF, e_sl, e_oN, e_oS, r_opt, r_slc, e_mM0, r_mm0, e_mM1, r_mm1, e_enum, r_enmL, r_enmT, e_zip, r_zpLL, r_zpLT, r_zpTL, r_zpTT, e_rg1, dDiv_int, dMod_int, Int.reduceLT, m_is_step, l0, z0, i0, cut_one, q1, c1, q2, c2, q3, c3, q4, d4, lr, hl, dIsi, D.ty, isiB, String.reduceBEq, Bool.or_false, Bool.false_or, Bool.or_self, Bool.and_false, Bool.false_and, Bool.and_true, Bool.true_and, Bool.or_true, Bool.true_or, Bool.and_self]
        rw [if_neg c4]
        by_cases c5 : w = "pay"
        · rw [if_pos c5]
          have d5 := decide_eq_true c5
          rcases len1 r with ⟨a, rfl⟩ | ⟨hl, hx⟩
          · have e1 := hS a (gr a (by simp))
            have j0 : dIx (.tup [a]) (.int 0) = .ok a := rfl
            have l2 : dLen (.tup [a]) = .ok (.int 1) := rfl
            simp only [e_run, e_seq, e_nil, e_brk, e_cnt, e_if, e_ret, e_retN, e_set, e_for, e_test, e_not, e_and, e_or, e_notV, e_andV, e_orV, e_ifE, e_m1, e_m2, e_c, e_var, e_varB, e_evN, e_evC, e_tup, e_lst, e_call, e_items, e_yes, r_seqN, r_seqR, r_seqB, r_seqC, r_seqE, r_seqS, r_bifT, r_bifF, r_bifE, r_ret, r_retE, r_put, r_putE, r_outR, r_outN, r_outE, r_ap2, r_bol, r_neg, r_bl, r_cons, r_getv, r_getb, r_tupl, r_lstl, r_loop, view_val, Res.bind_ok, Res.bind_err, Res.bind_stuck, Res.calm_ok, List.getElem?_cons_zero, List.getElem?_cons_succ, List.set_cons_zero, List.set_cons_succ, List.map_cons, List.map_nil, List.cons_append, List.nil_append, List.append_nil, List.length_cons, List.length_nil, List.replicate_succ, List.replicate_zero, Nat.reduceSub, Nat.reduceAdd, Nat.zero_add, Nat.sub_self, dAdd_int, dSub_int, dLt_int, dLe_int, dGt_int, dGe_int, dNeg_int, dInt_bl, dInt_int, dEq_int, dNe_int, decide_true, decide_false, Bool.not_true, Bool.not_false, if_true, if_false, Bool.false_eq_true, ofS_eq, String.reduceEq, e_chain, r_chn, r_chmT, r_chmF, e_sl, e_oN, e_oS, r_opt, r_slc, e_mM0, r_mm0, e_mM1, r_mm1, e_enum, r_enmL, r_enmT, e_zip, r_zpLL, r_zpLT, r_zpTL, r_zpTT, e_rg1, dDiv_int, dMod_int, Int.reduceLT, m_is_step, l0, z0, i0, cut_one, q1, c1, q2, c2, q3, c3, q4, c4, q5, d5, l2, j0, e1, one, dIsi, D.ty, isiB, String.reduceBEq, Bool.or_false, Bool.false_or, Bool.or_self, Bool.and_false, Bool.false_and, Bool.and_true, Bool.true_and, Bool.or_true, Bool.true_or, Bool.and_self]
          · rw [one_no hx]; simp only [e_run, e_seq, e_nil, e_brk, e_cnt, e_if, e_ret, e_retN, e_set, e_for, e_test, e_not, e_and, e_or, e_notV, e_andV, e_orV, e_ifE, e_m1, e_m2, e_c, e_var, e_varB, e_evN, e_evC, e_tup, e_lst, e_call, e_items, e_yes, r_seqN, r_seqR, r_seqB, r_seqC, r_seqE, r_seqS, r_bifT, r_bifF, r_bifE, r_ret, r_retE, r_put, r_putE, r_outR, r_outN, r_outE, r_ap2, r_bol, r_neg, r_bl, r_cons, r_getv, r_getb, r_tupl, r_lstl, r_loop, view_val, Res.bind_ok, Res.bind_err, Res.bind_stuck, Res.calm_ok, List.getElem?_cons_zero, List.getElem?_cons_succ, List.set_cons_zero, List.set_cons_succ, List.map_cons, List.map_nil, List.cons_append, List.nil_append, List.append_nil, List.length_cons, List.length_nil, List.replicate_succ, List.replicate_zero, Nat.reduceSub, Nat.reduceAdd, Nat.zero_add, Nat.sub_self, dAdd_int, dSub_int, dLt_int, dLe_int, dGt_int, dGe_int, dNeg_int, dInt_bl, dInt_int, dEq_int, dNe_int, decide_true, decide_false, Bool.not_true, Bool.not_false, if_true, if_false, Bool.false_eq_true, ofS_eq, String.reduceEq, e_chain, r_chn, r_chmT, r_chmF, e_sl, e_oN, e_oS, r_opt, r_slc, e_mM0, r_mm0, e_mM1, r_mm1, e_enum, r_enmL, r_enmT, e_zip, r_zpLL, r_zpLT, r_zpTL, r_zpTT, e_rg1, dDiv_int, dMod_int, Int.reduceLT, m_is_step, l0, z0, i0, cut_one, q1, c1, q2, c2, q3, c3, q4, c4, q5, d5, lr, hl, dIsi, D.ty, isiB, String.reduceBEq, Bool.or_false, Bool.false_or, Bool.or_self, Bool.and_false, Bool.false_and, Bool.and_true, Bool.true_and, Bool.or_true, Bool.true_or, Bool.and_self]
        rw [if_neg c5]
        by_cases c6 : w = "if"
        · rw [if_pos c6]
          have d6 := decide_eq_true c6
          rcases len3 r with ⟨a, b, c, rfl⟩ | ⟨hl, hx⟩
          · have l2 : dLen (.tup [a, b, c]) = .ok (.int 3) := rfl
            have j0 : dIx (.tup [a, b, c]) (.int 0) = .ok a := rfl
            have j1 : dIx (.tup [a, b, c]) (.int 1) = .ok b := rfl
            have j2 : dIx (.tup [a, b, c]) (.int 2) = .ok c := rfl
            cases n with
            | zero => simp only [e_run, e_seq, e_nil, e_brk, e_cnt, e_if, e_ret, e_retN, e_set, e_for, e_test, e_not, e_and, e_or, e_notV, e_andV, e_orV, e_ifE, e_m1, e_m2, e_c, e_var, e_varB, e_evN, e_evC, e_tup, e_lst, e_call, e_items, e_yes, r_seqN, r_seqR, r_seqB, r_seqC, r_seqE, r_seqS, r_bifT, r_bifF, r_bifE, r_ret, r_retE, r_put, r_putE, r_outR, r_outN, r_outE, r_ap2, r_bol, r_neg, r_bl, r_cons, r_getv, r_getb, r_tupl, r_lstl, r_loop, view_val, Res.bind_ok, Res.bind_err, Res.bind_stuck, Res.calm_ok, List.getElem?_cons_zero, List.getElem?_cons_succ, List.set_cons_zero, List.set_cons_succ, List.map_cons, List.map_nil, List.cons_append, List.nil_append, List.append_nil, List.length_cons, List.length_nil, List.replicate_succ, List.replicate_zero, Nat.reduceSub, Nat.reduceAdd, Nat.zero_add, Nat.sub_self, dAdd_int, dSub_int, dLt_int, dLe_int, dGt_int, dGe_int, dNeg_int, dInt_bl, dInt_int, dEq_int, dNe_int, decide_true, decide_false, Bool.not_true, Bool.not_false, if_true, if_false, Bool.false_eq_true, ofS_eq, String.reduceEq, e_chain, r_chn, r_chmT, r_chmF, e_sl, e_oN, e_oS, r_opt, r_slc, e_mM0, r_mm0, e_mM1, r_mm1, e_enum, r_enmL, r_enmT, e_zip, r_zpLL, r_zpLT, r_zpTL, r_zpTT, e_rg1, dDiv_int, dMod_int, Int.reduceLT, m_is_step, l0, z0, i0, cut_one, q1, c1, q2, c2, q3, c3, q4, c4, q5, c5, qn, d6, l2, Int.natCast_zero, ifB, dIsi, D.ty, isiB, String.reduceBEq, Bool.or_false, Bool.false_or, Bool.or_self, Bool.and_false, Bool.false_and, Bool.and_true, Bool.true_and, Bool.or_true, Bool.true_or, Bool.and_self]
            | succ n' =>
              have z1 : ¬ ((n' + 1 : Nat) : Int) = 0 := by omega
              have z2 : ((n' + 1 : Nat) : Int) - 1 = n' := by omega
              have e1 := hS a (gr a (by simp))
              have e2 := hR n' rfl b (gr b (by simp))
              have e3 := hR n' rfl c (gr c (by simp))
              cases h1 : sumB 6 a <;> cases h2 : sheetB (stepB n') b <;> rw [h1] at e1 <;> rw [h2] at e2 <;> simp only [e_run, e_seq, e_nil, e_brk, e_cnt, e_if, e_ret, e_retN, e_set, e_for, e_test, e_not, e_and, e_or, e_notV, e_andV, e_orV, e_ifE, e_m1, e_m2, e_c, e_var, e_varB, e_evN, e_evC, e_tup, e_lst, e_call, e_items, e_yes, r_seqN, r_seqR, r_seqB, r_seqC, r_seqE, r_seqS, r_bifT, r_bifF, r_bifE, r_ret, r_retE, r_put, r_putE, r_outR, r_outN, r_outE, r_ap2, r_bol, r_neg, r_bl, r_cons, r_getv, r_getb, r_tupl, r_lstl, r_loop, view_val, Res.bind_ok, Res.bind_err, Res.bind_stuck, Res.calm_ok, List.getElem?_cons_zero, List.getElem?_cons_succ, List.set_cons_zero, List.set_cons_succ, List.map_cons, List.map_nil, List.cons_append, List.nil_append, List.append_nil, List.length_cons, List.length_nil, List.replicate_succ, List.replicate_zero, Nat.reduceSub, Nat.reduceAdd, Nat.zero_add, Nat.sub_self, dAdd_int, dSub_int, dLt_int, dLe_int, dGt_int, dGe_int, dNeg_int, dInt_bl, dInt_int, dEq_int, dNe_int, decide_true, decide_false, Bool.not_true, Bool.not_false, if_true, if_false, Bool.false_eq_true, ofS_eq, String.reduceEq, e_chain, r_chn, r_chmT, r_chmF, e_sl, e_oN, e_oS, r_opt, r_slc, e_mM0, r_mm0, e_mM1, r_mm1, e_enum, r_enmL, r_enmT, e_zip, r_zpLL, r_zpLT, r_zpTL, r_zpTT, e_rg1, dDiv_int, dMod_int, Int.reduceLT, m_is_step, l0, z0, i0, cut_one, q1, c1, q2, c2, q3, c3, q4, c4, q5, c5, qn, d6, z1, z2, l2, j0, j1, j2, e1, e2, e3, three, ifB, h1, h2, dIsi, D.ty, isiB, String.reduceBEq, Bool.or_false, Bool.false_or, Bool.or_self, Bool.and_false, Bool.false_and, Bool.and_true, Bool.true_and, Bool.or_true, Bool.true_or, Bool.and_self]
          · rw [ifB_no hx]
            simp only [e_run, e_seq, e_nil, e_brk, e_cnt, e_if, e_ret, e_retN, e_set, e_for, e_test, e_not, e_and, e_or, e_notV, e_andV, e_orV, e_ifE, e_m1, e_m2, e_c, e_var, e_varB, e_evN, e_evC, e_tup, e_lst, e_call, e_items, e_yes, r_seqN, r_seqR, r_seqB, r_seqC, r_seqE, r_seqS, r_bifT, r_bifF, r_bifE, r_ret, r_retE, r_put, r_putE, r_outR, r_outN, r_outE, r_ap2, r_bol, r_neg, r_bl, r_cons, r_getv, r_getb, r_tupl, r_lstl, r_loop, view_val, Res.bind_ok, Res.bind_err, Res.bind_stuck, Res.calm_ok, List.getElem?_cons_zero, List.getElem?_cons_succ, List.set_cons_zero, List.set_cons_succ, List.map_cons, List.map_nil, List.cons_append, List.nil_append, List.append_nil, List.length_cons, List.length_nil, List.replicate_succ, List.replicate_zero, Nat.reduceSub, Nat.reduceAdd, Nat.zero_add, Nat.sub_self, dAdd_int, dSub_int, dLt_int, dLe_int, dGt_int, dGe_int, dNeg_int, dInt_bl, dInt_int, dEq_int, dNe_int, decide_true, decide_false, Bool.not_true, Bool.not_false, if_true, if_false, Bool.false_eq_true, ofS_eq, String.reduceEq, e_chain, r_chn, r_chmT, r_chmF, e_sl, e_oN, e_oS, r_opt, r_slc, e_mM0, r_mm0, e_mM1, r_mm1, e_enum, r_enmL, r_enmT, e_zip, r_zpLL, r_zpLT, r_zpTL, r_zpTT, e_rg1, dDiv_int, dMod_int, Int.reduceLT, m_is_step, l0, z0, i0, cut_one, q1, c1, q2, c2, q3, c3, q4, c4, q5, c5, qn, d6, lr, hl, dIsi, D.ty, isiB, String.reduceBEq, Bool.or_false, Bool.false_or, Bool.or_self, Bool.and_false, Bool.false_and, Bool.and_true, Bool.true_and, Bool.or_true, Bool.true_or, Bool.and_self]
        rw [if_neg c6]
        simp only [e_run, e_seq, e_nil, e_brk, e_cnt, e_if, e_ret, e_retN, e_set, e_for, e_test, e_not, e_and, e_or, e_notV, e_andV, e_orV, e_ifE, e_m1, e_m2, e_c, e_var, e_varB, e_evN, e_evC, e_tup, e_lst, e_call, e_items, e_yes, r_seqN, r_seqR, r_seqB, r_seqC, r_seqE, r_seqS, r_bifT, r_bifF, r_bifE, r_ret, r_retE, r_put, r_putE, r_outR, r_outN, r_outE, r_ap2, r_bol, r_neg, r_bl, r_cons, r_getv, r_getb, r_tupl, r_lstl, r_loop, view_val, Res.bind_ok, Res.bind_err, Res.bind_stuck, Res.calm_ok, List.getElem?_cons_zero, List.getElem?_cons_succ, List.set_cons_zero, List.set_cons_succ, List.map_cons, List.map_nil, List.cons_append, List.nil_append, List.append_nil, List.length_cons, List.length_nil, List.replicate_succ, List.replicate_zero, Nat.reduceSub, Nat.reduceAdd, Nat.zero_add, Nat.sub_self, dAdd_int, dSub_int, dLt_int, dLe_int, dGt_int, dGe_int, dNeg_int, dInt_bl, dInt_int, dEq_int, dNe_int, decide_true, decide_false, Bool.not_true, Bool.not_false, if_true, if_false, Bool.false_eq_true, ofS_eq, String.reduceEq, e_chain, r_chn, r_chmT, r_chmF, e_sl, e_oN, e_oS, r_opt, r_slc, e_mM0, r_mm0, e_mM1, r_mm1, e_enum, r_enmL, r_enmT, e_zip, r_zpLL, r_zpLT, r_zpTL, r_zpTT, e_rg1, dDiv_int, dMod_int, Int.reduceLT, m_is_step, l0, z0, i0, cut_one, q1, c1, q2, c2, q3, c3, q4, c4, q5, c5, qn, c6, dIsi, D.ty, isiB, String.reduceBEq, Bool.or_false, Bool.false_or, Bool.or_self, Bool.and_false, Bool.false_and, Bool.and_true, Bool.true_and, Bool.or_true, Bool.true_or, Bool.and_self]
      · rw [stepB_non n _ (by simp)]; simp only [e_run, e_seq, e_nil, e_brk, e_cnt, e_if, e_ret, e_retN, e_set, e_for, e_test, e_not, e_and, e_or, e_notV, e_andV, e_orV, e_ifE, e_m1, e_m2, e_c, e_var, e_varB, e_evN, e_evC, e_tup, e_lst, e_call, e_items, e_yes, r_seqN, r_seqR, r_seqB, r_seqC, r_seqE, r_seqS, r_bifT, r_bifF, r_bifE, r_ret, r_retE, r_put, r_putE, r_outR, r_outN, r_outE, r_ap2, r_bol, r_neg, r_bl, r_cons, r_getv, r_getb, r_tupl, r_lstl, r_loop, view_val, Res.bind_ok, Res.bind_err, Res.bind_stuck, Res.calm_ok, List.getElem?_cons_zero, List.getElem?_cons_succ, List.set_cons_zero, List.set_cons_succ, List.map_cons, List.map_nil, List.cons_append, List.nil_append, List.append_nil, List.length_cons, List.length_nil, List.replicate_succ, List.replicate_zero, Nat.reduceSub, Nat.reduceAdd, Nat.zero_add, Nat.sub_self, dAdd_int, dSub_int, dLt_int, dLe_int, dGt_int, dGe_int, dNeg_int, dInt_bl, dInt_int, dEq_int, dNe_int, decide_true, decide_false, Bool.not_true, Bool.not_false, if_true, if_false, Bool.false_eq_true, ofS_eq, String.reduceEq, e_chain, r_chn, r_chmT, r_chmF, e_sl, e_oN, e_oS, r_opt, r_slc, e_mM0, r_mm0, e_mM1, r_mm1, e_enum, r_enmL, r_enmT, e_zip, r_zpLL, r_zpLT, r_zpTL, r_zpTT, e_rg1, dDiv_int, dMod_int, Int.reduceLT, m_is_step, l0, z0, i0, dIsi, D.ty, isiB, String.reduceBEq, Bool.or_false, Bool.false_or, Bool.or_self, Bool.and_false, Bool.false_and, Bool.and_true, Bool.true_and, Bool.or_true, Bool.true_or, Bool.and_self]
      · rw [stepB_non n _ (by simp)]; simp only [e_run, e_seq, e_nil, e_brk, e_cnt, e_if, e_ret, e_retN, e_set, e_for, e_test, e_not, e_and, e_or, e_notV, e_andV, e_orV, e_ifE, e_m1, e_m2, e_c, e_var, e_varB, e_evN, e_evC, e_tup, e_lst, e_call, e_items, e_yes, r_seqN, r_seqR, r_seqB, r_seqC, r_seqE, r_seqS, r_bifT, r_bifF, r_bifE, r_ret, r_retE, r_put, r_putE, r_outR, r_outN, r_outE, r_ap2, r_bol, r_neg, r_bl, r_cons, r_getv, r_getb, r_tupl, r_lstl, r_loop, view_val, Res.bind_ok, Res.bind_err, Res.bind_stuck, Res.calm_ok, List.getElem?_cons_zero, List.getElem?_cons_succ, List.set_cons_zero, List.set_cons_succ, List.map_cons, List.map_nil, List.cons_append, List.nil_append, List.append_nil, List.length_cons, List.length_nil, List.replicate_succ, List.replicate_zero, Nat.reduceSub, Nat.reduceAdd, Nat.zero_add, Nat.sub_self, dAdd_int, dSub_int, dLt_int, dLe_int, dGt_int, dGe_int, dNeg_int, dInt_bl, dInt_int, dEq_int, dNe_int, decide_true, decide_false, Bool.not_true, Bool.not_false, if_true, if_false, Bool.false_eq_true, ofS_eq, String.reduceEq, e_chain, r_chn, r_chmT, r_chmF, e_sl, e_oN, e_oS, r_opt, r_slc, e_mM0, r_mm0, e_mM1, r_mm1, e_enum, r_enmL, r_enmT, e_zip, r_zpLL, r_zpLT, r_zpTL, r_zpTT, e_rg1, dDiv_int, dMod_int, Int.reduceLT, m_is_step, l0, z0, i0, dIsi, D.ty, isiB, String.reduceBEq, Bool.or_false, Bool.false_or, Bool.or_self, Bool.and_false, Bool.false_and, Bool.and_true, Bool.true_and, Bool.or_true, Bool.true_or, Bool.and_self]
  · rw [stepB_non n _ (by simp)]; simp only [e_run, e_seq, e_nil, e_brk, e_cnt, e_if, e_ret, e_retN, e_set, e_for, e_test, e_not, e_and, e_or, e_notV, e_andV, e_orV, e_ifE, e_m1, e_m2, e_c, e_var, e_varB, e_evN, e_evC, e_tup, e_lst, e_call, e_items, e_yes, r_seqN, r_seqR, r_seqB, r_seqC, r_seqE, r_seqS, r_bifT, r_bifF, r_bifE, r_ret, r_retE, r_put, r_putE, r_outR, r_outN, r_outE, r_ap2, r_bol, r_neg, r_bl, r_cons, r_getv, r_getb, r_tupl, r_lstl, r_loop, view_val, Res.bind_ok, Res.bind_err, Res.bind_stuck, Res.calm_ok, List.getElem?_cons_zero, List.getElem?_cons_succ, List.set_cons_zero, List.set_cons_succ, List.map_cons, List.map_nil, List.cons_append, List.nil_append, List.append_nil, List.length_cons, List.length_nil, List.replicate_succ, List.replicate_zero, Nat.reduceSub, Nat.reduceAdd, Nat.zero_add, Nat.sub_self, dAdd_int, dSub_int, dLt_int, dLe_int, dGt_int, dGe_int, dNeg_int, dInt_bl, dInt_int, dEq_int, dNe_int, decide_true, decide_false, Bool.not_true, Bool.not_false, if_true, if_false, Bool.false_eq_true, ofS_eq, String.reduceEq, e_chain, r_chn, r_chmT, r_chmF, e_sl, e_oN, e_oS, r_opt, r_slc, e_mM0, r_mm0, e_mM1, r_mm1, e_enum, r_enmL, r_enmT, e_zip, r_zpLL, r_zpLT, r_zpTL, r_zpTT, e_rg1, dDiv_int, dMod_int, Int.reduceLT, m_is_step, dIsi, D.ty, isiB, String.reduceBEq, Bool.or_false, Bool.false_or, Bool.or_self, Bool.and_false, Bool.false_and, Bool.and_true, Bool.true_and, Bool.or_true, Bool.true_or, Bool.and_self]
theorem P_sheet_of (C : Fn → List D → Res D) (n m : Nat) (hS : ∀ d, gd m d = true → C .is_step [d, .int n] = .ok (.bl (stepB n d))) (d : D) (h : gd m d = true) : runM 3 (m_is_sheet_at C) [d, .int n] = .ok (.bl (sheetB (stepB n) d)) := by
  rcases gd_ty h with rfl | ⟨b, rfl⟩ | ⟨i, rfl⟩ | ⟨x, rfl, ox, lx⟩ | ⟨xs, rfl⟩ | ⟨xs, rfl⟩
  · simp only [e_run, e_seq, e_nil, e_brk, e_cnt, e_if, e_ret, e_retN, e_set, e_for, e_test, e_not, e_and, e_or, e_notV, e_andV, e_orV, e_ifE, e_m1, e_m2, e_c, e_var, e_varB, e_evN, e_evC, e_tup, e_lst, e_call, e_items, e_yes, r_seqN, r_seqR, r_seqB, r_seqC, r_seqE, r_seqS, r_bifT, r_bifF, r_bifE, r_ret, r_retE, r_put, r_putE, r_outR, r_outN, r_outE, r_ap2, r_bol, r_neg, r_bl, r_cons, r_getv, r_getb, r_tupl, r_lstl, r_loop, view_val, Res.bind_ok, Res.bind_err, Res.bind_stuck, Res.calm_ok, List.getElem?_cons_zero, List.getElem?_cons_succ, List.set_cons_zero, List.set_cons_succ, List.map_cons, List.map_nil, List.cons_append, List.nil_append, List.append_nil, List.length_cons, List.length_nil, List.replicate_succ, List.replicate_zero, Nat.reduceSub, Nat.reduceAdd, Nat.zero_add, Nat.sub_self, dAdd_int, dSub_int, dLt_int, dLe_int, dGt_int, dGe_int, dNeg_int, dInt_bl, dInt_int, dEq_int, dNe_int, decide_true, decide_false, Bool.not_true, Bool.not_false, if_true, if_false, Bool.false_eq_true, ofS_eq, String.reduceEq, e_chain, r_chn, r_chmT, r_chmF, e_sl, e_oN, e_oS, r_opt, r_slc, e_mM0, r_mm0, e_mM1, r_mm1, e_enum, r_enmL, r_enmT, e_zip, r_zpLL, r_zpLT, r_zpTL, r_zpTT, e_rg1, dDiv_int, dMod_int, Int.reduceLT, m_is_sheet_at, sheetB, dIsi, D.ty, isiB, String.reduceBEq, Bool.or_false, Bool.false_or, Bool.or_self, Bool.and_false, Bool.false_and, Bool.and_true, Bool.true_and, Bool.or_true, Bool.true_or, Bool.and_self]
  · simp only [e_run, e_seq, e_nil, e_brk, e_cnt, e_if, e_ret, e_retN, e_set, e_for, e_test, e_not, e_and, e_or, e_notV, e_andV, e_orV, e_ifE, e_m1, e_m2, e_c, e_var, e_varB, e_evN, e_evC, e_tup, e_lst, e_call, e_items, e_yes, r_seqN, r_seqR, r_seqB, r_seqC, r_seqE, r_seqS, r_bifT, r_bifF, r_bifE, r_ret, r_retE, r_put, r_putE, r_outR, r_outN, r_outE, r_ap2, r_bol, r_neg, r_bl, r_cons, r_getv, r_getb, r_tupl, r_lstl, r_loop, view_val, Res.bind_ok, Res.bind_err, Res.bind_stuck, Res.calm_ok, List.getElem?_cons_zero, List.getElem?_cons_succ, List.set_cons_zero, List.set_cons_succ, List.map_cons, List.map_nil, List.cons_append, List.nil_append, List.append_nil, List.length_cons, List.length_nil, List.replicate_succ, List.replicate_zero, Nat.reduceSub, Nat.reduceAdd, Nat.zero_add, Nat.sub_self, dAdd_int, dSub_int, dLt_int, dLe_int, dGt_int, dGe_int, dNeg_int, dInt_bl, dInt_int, dEq_int, dNe_int, decide_true, decide_false, Bool.not_true, Bool.not_false, if_true, if_false, Bool.false_eq_true, ofS_eq, String.reduceEq, e_chain, r_chn, r_chmT, r_chmF, e_sl, e_oN, e_oS, r_opt, r_slc, e_mM0, r_mm0, e_mM1, r_mm1, e_enum, r_enmL, r_enmT, e_zip, r_zpLL, r_zpLT, r_zpTL, r_zpTT, e_rg1, dDiv_int, dMod_int, Int.reduceLT, m_is_sheet_at, sheetB, dIsi, D.ty, isiB, String.reduceBEq, Bool.or_false, Bool.false_or, Bool.or_self, Bool.and_false, Bool.false_and, Bool.and_true, Bool.true_and, Bool.or_true, Bool.true_or, Bool.and_self]
  · simp only [e_run, e_seq, e_nil, e_brk, e_cnt, e_if, e_ret, e_retN, e_set, e_for, e_test, e_not, e_and, e_or, e_notV, e_andV, e_orV, e_ifE, e_m1, e_m2, e_c, e_var, e_varB, e_evN, e_evC, e_tup, e_lst, e_call, e_items, e_yes, r_seqN, r_seqR, r_seqB, r_seqC, r_seqE, r_seqS, r_bifT, r_bifF, r_bifE, r_ret, r_retE, r_put, r_putE, r_outR, r_outN, r_outE, r_ap2, r_bol, r_neg, r_bl, r_cons, r_getv, r_getb, r_tupl, r_lstl, r_loop, view_val, Res.bind_ok, Res.bind_err, Res.bind_stuck, Res.calm_ok, List.getElem?_cons_zero, List.getElem?_cons_succ, List.set_cons_zero, List.set_cons_succ, List.map_cons, List.map_nil, List.cons_append, List.nil_append, List.append_nil, List.length_cons, List.length_nil, List.replicate_succ, List.replicate_zero, Nat.reduceSub, Nat.reduceAdd, Nat.zero_add, Nat.sub_self, dAdd_int, dSub_int, dLt_int, dLe_int, dGt_int, dGe_int, dNeg_int, dInt_bl, dInt_int, dEq_int, dNe_int, decide_true, decide_false, Bool.not_true, Bool.not_false, if_true, if_false, Bool.false_eq_true, ofS_eq, String.reduceEq, e_chain, r_chn, r_chmT, r_chmF, e_sl, e_oN, e_oS, r_opt, r_slc, e_mM0, r_mm0, e_mM1, r_mm1, e_enum, r_enmL, r_enmT, e_zip, r_zpLL, r_zpLT, r_zpTL, r_zpTT, e_rg1, dDiv_int, dMod_int, Int.reduceLT, m_is_sheet_at, sheetB, dIsi, D.ty, isiB, String.reduceBEq, Bool.or_false, Bool.false_or, Bool.or_self, Bool.and_false, Bool.false_and, Bool.and_true, Bool.true_and, Bool.or_true, Bool.true_or, Bool.and_self]
  · simp only [e_run, e_seq, e_nil, e_brk, e_cnt, e_if, e_ret, e_retN, e_set, e_for, e_test, e_not, e_and, e_or, e_notV, e_andV, e_orV, e_ifE, e_m1, e_m2, e_c, e_var, e_varB, e_evN, e_evC, e_tup, e_lst, e_call, e_items, e_yes, r_seqN, r_seqR, r_seqB, r_seqC, r_seqE, r_seqS, r_bifT, r_bifF, r_bifE, r_ret, r_retE, r_put, r_putE, r_outR, r_outN, r_outE, r_ap2, r_bol, r_neg, r_bl, r_cons, r_getv, r_getb, r_tupl, r_lstl, r_loop, view_val, Res.bind_ok, Res.bind_err, Res.bind_stuck, Res.calm_ok, List.getElem?_cons_zero, List.getElem?_cons_succ, List.set_cons_zero, List.set_cons_succ, List.map_cons, List.map_nil, List.cons_append, List.nil_append, List.append_nil, List.length_cons, List.length_nil, List.replicate_succ, List.replicate_zero, Nat.reduceSub, Nat.reduceAdd, Nat.zero_add, Nat.sub_self, dAdd_int, dSub_int, dLt_int, dLe_int, dGt_int, dGe_int, dNeg_int, dInt_bl, dInt_int, dEq_int, dNe_int, decide_true, decide_false, Bool.not_true, Bool.not_false, if_true, if_false, Bool.false_eq_true, ofS_eq, String.reduceEq, e_chain, r_chn, r_chmT, r_chmF, e_sl, e_oN, e_oS, r_opt, r_slc, e_mM0, r_mm0, e_mM1, r_mm1, e_enum, r_enmL, r_enmT, e_zip, r_zpLL, r_zpLT, r_zpTL, r_zpTT, e_rg1, dDiv_int, dMod_int, Int.reduceLT, m_is_sheet_at, sheetB, dIsi, D.ty, isiB, String.reduceBEq, Bool.or_false, Bool.false_or, Bool.or_self, Bool.and_false, Bool.false_and, Bool.and_true, Bool.true_and, Bool.or_true, Bool.true_or, Bool.and_self]
  · have ql : dLen (.tup xs) = .ok (.int xs.length) := rfl
    have qi : dItems (.tup xs) = .ok xs := rfl
    by_cases c : (12 : Int) < xs.length
    · have c' : ¬ xs.length ≤ 12 := by omega
      simp only [e_run, e_seq, e_nil, e_brk, e_cnt, e_if, e_ret, e_retN, e_set, e_for, e_test, e_not, e_and, e_or, e_notV, e_andV, e_orV, e_ifE, e_m1, e_m2, e_c, e_var, e_varB, e_evN, e_evC, e_tup, e_lst, e_call, e_items, e_yes, r_seqN, r_seqR, r_seqB, r_seqC, r_seqE, r_seqS, r_bifT, r_bifF, r_bifE, r_ret, r_retE, r_put, r_putE, r_outR, r_outN, r_outE, r_ap2, r_bol, r_neg, r_bl, r_cons, r_getv, r_getb, r_tupl, r_lstl, r_loop, view_val, Res.bind_ok, Res.bind_err, Res.bind_stuck, Res.calm_ok, List.getElem?_cons_zero, List.getElem?_cons_succ, List.set_cons_zero, List.set_cons_succ, List.map_cons, List.map_nil, List.cons_append, List.nil_append, List.append_nil, List.length_cons, List.length_nil, List.replicate_succ, List.replicate_zero, Nat.reduceSub, Nat.reduceAdd, Nat.zero_add, Nat.sub_self, dAdd_int, dSub_int, dLt_int, dLe_int, dGt_int, dGe_int, dNeg_int, dInt_bl, dInt_int, dEq_int, dNe_int, decide_true, decide_false, Bool.not_true, Bool.not_false, if_true, if_false, Bool.false_eq_true, ofS_eq, String.reduceEq, e_chain, r_chn, r_chmT, r_chmF, e_sl, e_oN, e_oS, r_opt, r_slc, e_mM0, r_mm0, e_mM1, r_mm1, e_enum, r_enmL, r_enmT, e_zip, r_zpLL, r_zpLT, r_zpTL, r_zpTT, e_rg1, dDiv_int, dMod_int, Int.reduceLT, m_is_sheet_at, sheetB, ql, k_LONGEST, c, c', dIsi, D.ty, isiB, String.reduceBEq, Bool.or_false, Bool.false_or, Bool.or_self, Bool.and_false, Bool.false_and, Bool.and_true, Bool.true_and, Bool.or_true, Bool.true_or, Bool.and_self]
    · have c' : xs.length ≤ 12 := by omega
      have e : m_is_sheet_at_c0 C [some (.val (.tup xs)), some (.val (.int n)), none] = .ok (.lst (xs.map fun x => .bl (stepB n x))) :=
        mLc_m (as := xs) (g := id) (by simp only [e_run, e_seq, e_nil, e_brk, e_cnt, e_if, e_ret, e_retN, e_set, e_for, e_test, e_not, e_and, e_or, e_notV, e_andV, e_orV, e_ifE, e_m1, e_m2, e_c, e_var, e_varB, e_evN, e_evC, e_tup, e_lst, e_call, e_items, e_yes, r_seqN, r_seqR, r_seqB, r_seqC, r_seqE, r_seqS, r_bifT, r_bifF, r_bifE, r_ret, r_retE, r_put, r_putE, r_outR, r_outN, r_outE, r_ap2, r_bol, r_neg, r_bl, r_cons, r_getv, r_getb, r_tupl, r_lstl, r_loop, view_val, Res.bind_ok, Res.bind_err, Res.bind_stuck, Res.calm_ok, List.getElem?_cons_zero, List.getElem?_cons_succ, List.set_cons_zero, List.set_cons_succ, List.map_cons, List.map_nil, List.cons_append, List.nil_append, List.append_nil, List.length_cons, List.length_nil, List.replicate_succ, List.replicate_zero, Nat.reduceSub, Nat.reduceAdd, Nat.zero_add, Nat.sub_self, dAdd_int, dSub_int, dLt_int, dLe_int, dGt_int, dGe_int, dNeg_int, dInt_bl, dInt_int, dEq_int, dNe_int, decide_true, decide_false, Bool.not_true, Bool.not_false, if_true, if_false, Bool.false_eq_true, ofS_eq, String.reduceEq, e_chain, r_chn, r_chmT, r_chmF, e_sl, e_oN, e_oS, r_opt, r_slc, e_mM0, r_mm0, e_mM1, r_mm1, e_enum, r_enmL, r_enmT, e_zip, r_zpLL, r_zpLT, r_zpTL, r_zpTT, e_rg1, dDiv_int, dMod_int, Int.reduceLT, qi, List.map_id]) (by omega) fun x hx => ⟨_, rfl, by
          have := hS x (gd_all h x hx)
          simp only [e_run, e_seq, e_nil, e_brk, e_cnt, e_if, e_ret, e_retN, e_set, e_for, e_test, e_not, e_and, e_or, e_notV, e_andV, e_orV, e_ifE, e_m1, e_m2, e_c, e_var, e_varB, e_evN, e_evC, e_tup, e_lst, e_call, e_items, e_yes, r_seqN, r_seqR, r_seqB, r_seqC, r_seqE, r_seqS, r_bifT, r_bifF, r_bifE, r_ret, r_retE, r_put, r_putE, r_outR, r_outN, r_outE, r_ap2, r_bol, r_neg, r_bl, r_cons, r_getv, r_getb, r_tupl, r_lstl, r_loop, view_val, Res.bind_ok, Res.bind_err, Res.bind_stuck, Res.calm_ok, List.getElem?_cons_zero, List.getElem?_cons_succ, List.set_cons_zero, List.set_cons_succ, List.map_cons, List.map_nil, List.cons_append, List.nil_append, List.append_nil, List.length_cons, List.length_nil, List.replicate_succ, List.replicate_zero, Nat.reduceSub, Nat.reduceAdd, Nat.zero_add, Nat.sub_self, dAdd_int, dSub_int, dLt_int, dLe_int, dGt_int, dGe_int, dNeg_int, dInt_bl, dInt_int, dEq_int, dNe_int, decide_true, decide_false, Bool.not_true, Bool.not_false, if_true, if_false, Bool.false_eq_true, ofS_eq, String.reduceEq, e_chain, r_chn, r_chmT, r_chmF, e_sl, e_oN, e_oS, r_opt, r_slc, e_mM0, r_mm0, e_mM1, r_mm1, e_enum, r_enmL, r_enmT, e_zip, r_zpLL, r_zpLT, r_zpTL, r_zpTT, e_rg1, dDiv_int, dMod_int, Int.reduceLT, wipeE, id, this]⟩
      simp only [e_run, e_seq, e_nil, e_brk, e_cnt, e_if, e_ret, e_retN, e_set, e_for, e_test, e_not, e_and, e_or, e_notV, e_andV, e_orV, e_ifE, e_m1, e_m2, e_c, e_var, e_varB, e_evN, e_evC, e_tup, e_lst, e_call, e_items, e_yes, r_seqN, r_seqR, r_seqB, r_seqC, r_seqE, r_seqS, r_bifT, r_bifF, r_bifE, r_ret, r_retE, r_put, r_putE, r_outR, r_outN, r_outE, r_ap2, r_bol, r_neg, r_bl, r_cons, r_getv, r_getb, r_tupl, r_lstl, r_loop, view_val, Res.bind_ok, Res.bind_err, Res.bind_stuck, Res.calm_ok, List.getElem?_cons_zero, List.getElem?_cons_succ, List.set_cons_zero, List.set_cons_succ, List.map_cons, List.map_nil, List.cons_append, List.nil_append, List.append_nil, List.length_cons, List.length_nil, List.replicate_succ, List.replicate_zero, Nat.reduceSub, Nat.reduceAdd, Nat.zero_add, Nat.sub_self, dAdd_int, dSub_int, dLt_int, dLe_int, dGt_int, dGe_int, dNeg_int, dInt_bl, dInt_int, dEq_int, dNe_int, decide_true, decide_false, Bool.not_true, Bool.not_false, if_true, if_false, Bool.false_eq_true, ofS_eq, String.reduceEq, e_chain, r_chn, r_chmT, r_chmF, e_sl, e_oN, e_oS, r_opt, r_slc, e_mM0, r_mm0, e_mM1, r_mm1, e_enum, r_enmL, r_enmT, e_zip, r_zpLL, r_zpLT, r_zpTL, r_zpTT, e_rg1, dDiv_int, dMod_int, Int.reduceLT, m_is_sheet_at, sheetB, ql, k_LONGEST, c, c', e, dAll_map, dIsi, D.ty, isiB, String.reduceBEq, Bool.or_false, Bool.false_or, Bool.or_self, Bool.and_false, Bool.false_and, Bool.and_true, Bool.true_and, Bool.or_true, Bool.true_or, Bool.and_self]
  · simp only [e_run, e_seq, e_nil, e_brk, e_cnt, e_if, e_ret, e_retN, e_set, e_for, e_test, e_not, e_and, e_or, e_notV, e_andV, e_orV, e_ifE, e_m1, e_m2, e_c, e_var, e_varB, e_evN, e_evC, e_tup, e_lst, e_call, e_items, e_yes, r_seqN, r_seqR, r_seqB, r_seqC, r_seqE, r_seqS, r_bifT, r_bifF, r_bifE, r_ret, r_retE, r_put, r_putE, r_outR, r_outN, r_outE, r_ap2, r_bol, r_neg, r_bl, r_cons, r_getv, r_getb, r_tupl, r_lstl, r_loop, view_val, Res.bind_ok, Res.bind_err, Res.bind_stuck, Res.calm_ok, List.getElem?_cons_zero, List.getElem?_cons_succ, List.set_cons_zero, List.set_cons_succ, List.map_cons, List.map_nil, List.cons_append, List.nil_append, List.append_nil, List.length_cons, List.length_nil, List.replicate_succ, List.replicate_zero, Nat.reduceSub, Nat.reduceAdd, Nat.zero_add, Nat.sub_self, dAdd_int, dSub_int, dLt_int, dLe_int, dGt_int, dGe_int, dNeg_int, dInt_bl, dInt_int, dEq_int, dNe_int, decide_true, decide_false, Bool.not_true, Bool.not_false, if_true, if_false, Bool.false_eq_true, ofS_eq, String.reduceEq, e_chain, r_chn, r_chmT, r_chmF, e_sl, e_oN, e_oS, r_opt, r_slc, e_mM0, r_mm0, e_mM1, r_mm1, e_enum, r_enmL, r_enmT, e_zip, r_zpLL, r_zpLT, r_zpTL, r_zpTT, e_rg1, dDiv_int, dMod_int, Int.reduceLT, m_is_sheet_at, sheetB, dIsi, D.ty, isiB, String.reduceBEq, Bool.or_false, Bool.false_or, Bool.or_self, Bool.and_false, Bool.false_and, Bool.and_true, Bool.true_and, Bool.or_true, Bool.true_or, Bool.and_self]
theorem P_sheet_at : ∀ (n k : Nat) {m : Nat} {d : D}, m ≤ 60 → gd m d = true → callF (k + 2 * n + 12) .is_sheet_at [d, .int n] = .ok (.bl (sheetB (stepB n) d)) := by
  intro n
  induction n with
  | zero =>
    intro k m d hm h
    refine P_sheet_of (callF (k + 11)) 0 m (fun d h => ?_) d h
    exact P_step_of (callF (k + 10)) 0 m hm (fun d h => P_name (k + 9) h) (fun d lo hi h => P_number (k + 9) h lo hi) (fun d h => P_lots (k + 7) h) (fun d h => P_opts (k + 7) h) (fun d h => P_isum k h (by omega)) (fun n' e => by omega) d h
  | succ n ih =>
    intro k m d hm h
    refine P_sheet_of (callF (k + 2 * n + 13)) (n + 1) m (fun d h => ?_) d h
    exact P_step_of (callF (k + 2 * n + 12)) (n + 1) m hm (fun d h => P_name (k + 2 * n + 11) h) (fun d lo hi h => P_number (k + 2 * n + 11) h lo hi) (fun d h => P_lots (k + 2 * n + 9) h) (fun d h => P_opts (k + 2 * n + 9) h) (fun d h => P_isum (k + 2 * n + 2) h (by omega))
      (fun n' e d h => by
        obtain rfl : n' = n := by omega
        exact ih k hm h) d h
theorem P_sheet (k : Nat) {m : Nat} {d : D} (hm : m ≤ 60) (h : gd m d = true) : callF (k + 23) .is_sheet [d] = .ok (.bl (sheetB (stepB 5) d)) := by
  show runM 1 (m_is_sheet (callF (k + 22))) _ = _
  have e : callF (k + 22) .is_sheet_at [d, .int 5] = _ := P_sheet_at 5 k hm h
  simp only [e_run, e_seq, e_nil, e_brk, e_cnt, e_if, e_ret, e_retN, e_set, e_for, e_test, e_not, e_and, e_or, e_notV, e_andV, e_orV, e_ifE, e_m1, e_m2, e_c, e_var, e_varB, e_evN, e_evC, e_tup, e_lst, e_call, e_items, e_yes, r_seqN, r_seqR, r_seqB, r_seqC, r_seqE, r_seqS, r_bifT, r_bifF, r_bifE, r_ret, r_retE, r_put, r_putE, r_outR, r_outN, r_outE, r_ap2, r_bol, r_neg, r_bl, r_cons, r_getv, r_getb, r_tupl, r_lstl, r_loop, view_val, Res.bind_ok, Res.bind_err, Res.bind_stuck, Res.calm_ok, List.getElem?_cons_zero, List.getElem?_cons_succ, List.set_cons_zero, List.set_cons_succ, List.map_cons, List.map_nil, List.cons_append, List.nil_append, List.append_nil, List.length_cons, List.length_nil, List.replicate_succ, List.replicate_zero, Nat.reduceSub, Nat.reduceAdd, Nat.zero_add, Nat.sub_self, dAdd_int, dSub_int, dLt_int, dLe_int, dGt_int, dGe_int, dNeg_int, dInt_bl, dInt_int, dEq_int, dNe_int, decide_true, decide_false, Bool.not_true, Bool.not_false, if_true, if_false, Bool.false_eq_true, ofS_eq, String.reduceEq, e_chain, r_chn, r_chmT, r_chmF, e_sl, e_oN, e_oS, r_opt, r_slc, e_mM0, r_mm0, e_mM1, r_mm1, e_enum, r_enmL, r_enmT, e_zip, r_zpLL, r_zpLT, r_zpTL, r_zpTT, e_rg1, dDiv_int, dMod_int, Int.reduceLT, m_is_sheet, k_DEEP_SHEET, e]

theorem L_step_of (C : Fn → List D → Res D) (n m : Nat) (hm : m ≤ 60)
    (hN : ∀ d, gd m d = true → C ._law_is_name [d] = .ok (.bl (nameB d))) (hI : ∀ d lo hi, gd m d = true → C ._law_whole [d, .int lo, .int hi] = .ok (.bl (wholeB lo hi d)))
    (hL : ∀ d, gd m d = true → C ._law_are_lots [d] = .ok (.bl (lotsB d))) (hO : ∀ d, gd m d = true → C ._law_are_options [d, .int 4] = .ok (.bl (optsB 4 d))) (hS : ∀ d, gd m d = true → C ._law_is_sum [d, .int 6] = .ok (.bl (sumB 6 d)))
    (hR : ∀ n', n = n' + 1 → ∀ d, gd m d = true → C ._law_is_sheet [d, .int n'] = .ok (.bl (sheetB (stepB n') d))) (d : D) (h : gd m d = true) : runM 2 (m__law_is_step C) [d, .int n] = .ok (.bl (stepB n d)) := by
  rcases gd_ty h with rfl | ⟨b, rfl⟩ | ⟨i, rfl⟩ | ⟨x, rfl, ox, lx⟩ | ⟨xs, rfl⟩ | ⟨xs, rfl⟩
  · rw [stepB_non n _ (by simp)]; simp only [e_run, e_seq, e_nil, e_brk, e_cnt, e_if, e_ret, e_retN, e_set, e_for, e_test, e_not, e_and, e_or, e_notV, e_andV, e_orV, e_ifE, e_m1, e_m2, e_c, e_var, e_varB, e_evN, e_evC, e_tup, e_lst, e_call, e_items, e_yes, r_seqN, r_seqR, r_seqB, r_seqC, r_seqE, r_seqS, r_bifT, r_bifF, r_bifE, r_ret, r_retE, r_put, r_putE, r_outR, r_outN, r_outE, r_ap2, r_bol, r_neg, r_bl, r_cons, r_getv, r_getb, r_tupl, r_lstl, r_loop, view_val, Res.bind_ok, Res.bind_err, Res.bind_stuck, Res.calm_ok, List.getElem?_cons_zero, List.getElem?_cons_succ, List.set_cons_zero, List.set_cons_succ, List.map_cons, List.map_nil, List.cons_append, List.nil_append, List.append_nil, List.length_cons, List.length_nil, List.replicate_succ, List.replicate_zero, Nat.reduceSub, Nat.reduceAdd, Nat.zero_add, Nat.sub_self, dAdd_int, dSub_int, dLt_int, dLe_int, dGt_int, dGe_int, dNeg_int, dInt_bl, dInt_int, dEq_int, dNe_int, decide_true, decide_false, Bool.not_true, Bool.not_false, if_true, if_false, Bool.false_eq_true, ofS_eq, String.reduceEq, e_chain, r_chn, r_chmT, r_chmF, e_sl, e_oN, e_oS, r_opt, r_slc, e_mM0, r_mm0, e_mM1, r_mm1, e_enum, r_enmL, r_enmT, e_zip, r_zpLL, r_zpLT, r_zpTL, r_zpTT, e_rg1, dDiv_int, dMod_int, Int.reduceLT, m__law_is_step, dIsi, D.ty, isiB, String.reduceBEq, Bool.or_false, Bool.false_or, Bool.or_self, Bool.and_false, Bool.false_and, Bool.and_true, Bool.true_and, Bool.or_true, Bool.true_or, Bool.and_self]
  · rw [stepB_non n _ (by simp)]; simp only [e_run, e_seq, e_nil, e_brk, e_cnt, e_if, e_ret, e_retN, e_set, e_for, e_test, e_not, e_and, e_or, e_notV, e_andV, e_orV, e_ifE, e_m1, e_m2, e_c, e_var, e_varB, e_evN, e_evC, e_tup, e_lst, e_call, e_items, e_yes, r_seqN, r_seqR, r_seqB, r_seqC, r_seqE, r_seqS, r_bifT, r_bifF, r_bifE, r_ret, r_retE, r_put, r_putE, r_outR, r_outN, r_outE, r_ap2, r_bol, r_neg, r_bl, r_cons, r_getv, r_getb, r_tupl, r_lstl, r_loop, view_val, Res.bind_ok, Res.bind_err, Res.bind_stuck, Res.calm_ok, List.getElem?_cons_zero, List.getElem?_cons_succ, List.set_cons_zero, List.set_cons_succ, List.map_cons, List.map_nil, List.cons_append, List.nil_append, List.append_nil, List.length_cons, List.length_nil, List.replicate_succ, List.replicate_zero, Nat.reduceSub, Nat.reduceAdd, Nat.zero_add, Nat.sub_self, dAdd_int, dSub_int, dLt_int, dLe_int, dGt_int, dGe_int, dNeg_int, dInt_bl, dInt_int, dEq_int, dNe_int, decide_true, decide_false, Bool.not_true, Bool.not_false, if_true, if_false, Bool.false_eq_true, ofS_eq, String.reduceEq, e_chain, r_chn, r_chmT, r_chmF, e_sl, e_oN, e_oS, r_opt, r_slc, e_mM0, r_mm0, e_mM1, r_mm1, e_enum, r_enmL, r_enmT, e_zip, r_zpLL, r_zpLT, r_zpTL, r_zpTT, e_rg1, dDiv_int, dMod_int, Int.reduceLT, m__law_is_step, dIsi, D.ty, isiB, String.reduceBEq, Bool.or_false, Bool.false_or, Bool.or_self, Bool.and_false, Bool.false_and, Bool.and_true, Bool.true_and, Bool.or_true, Bool.true_or, Bool.and_self]
  · rw [stepB_non n _ (by simp)]; simp only [e_run, e_seq, e_nil, e_brk, e_cnt, e_if, e_ret, e_retN, e_set, e_for, e_test, e_not, e_and, e_or, e_notV, e_andV, e_orV, e_ifE, e_m1, e_m2, e_c, e_var, e_varB, e_evN, e_evC, e_tup, e_lst, e_call, e_items, e_yes, r_seqN, r_seqR, r_seqB, r_seqC, r_seqE, r_seqS, r_bifT, r_bifF, r_bifE, r_ret, r_retE, r_put, r_putE, r_outR, r_outN, r_outE, r_ap2, r_bol, r_neg, r_bl, r_cons, r_getv, r_getb, r_tupl, r_lstl, r_loop, view_val, Res.bind_ok, Res.bind_err, Res.bind_stuck, Res.calm_ok, List.getElem?_cons_zero, List.getElem?_cons_succ, List.set_cons_zero, List.set_cons_succ, List.map_cons, List.map_nil, List.cons_append, List.nil_append, List.append_nil, List.length_cons, List.length_nil, List.replicate_succ, List.replicate_zero, Nat.reduceSub, Nat.reduceAdd, Nat.zero_add, Nat.sub_self, dAdd_int, dSub_int, dLt_int, dLe_int, dGt_int, dGe_int, dNeg_int, dInt_bl, dInt_int, dEq_int, dNe_int, decide_true, decide_false, Bool.not_true, Bool.not_false, if_true, if_false, Bool.false_eq_true, ofS_eq, String.reduceEq, e_chain, r_chn, r_chmT, r_chmF, e_sl, e_oN, e_oS, r_opt, r_slc, e_mM0, r_mm0, e_mM1, r_mm1, e_enum, r_enmL, r_enmT, e_zip, r_zpLL, r_zpLT, r_zpTL, r_zpTT, e_rg1, dDiv_int, dMod_int, Int.reduceLT, m__law_is_step, dIsi, D.ty, isiB, String.reduceBEq, Bool.or_false, Bool.false_or, Bool.or_self, Bool.and_false, Bool.false_and, Bool.and_true, Bool.true_and, Bool.or_true, Bool.true_or, Bool.and_self]
  · rw [stepB_non n _ (by simp)]; simp only [e_run, e_seq, e_nil, e_brk, e_cnt, e_if, e_ret, e_retN, e_set, e_for, e_test, e_not, e_and, e_or, e_notV, e_andV, e_orV, e_ifE, e_m1, e_m2, e_c, e_var, e_varB, e_evN, e_evC, e_tup, e_lst, e_call, e_items, e_yes, r_seqN, r_seqR, r_seqB, r_seqC, r_seqE, r_seqS, r_bifT, r_bifF, r_bifE, r_ret, r_retE, r_put, r_putE, r_outR, r_outN, r_outE, r_ap2, r_bol, r_neg, r_bl, r_cons, r_getv, r_getb, r_tupl, r_lstl, r_loop, view_val, Res.bind_ok, Res.bind_err, Res.bind_stuck, Res.calm_ok, List.getElem?_cons_zero, List.getElem?_cons_succ, List.set_cons_zero, List.set_cons_succ, List.map_cons, List.map_nil, List.cons_append, List.nil_append, List.append_nil, List.length_cons, List.length_nil, List.replicate_succ, List.replicate_zero, Nat.reduceSub, Nat.reduceAdd, Nat.zero_add, Nat.sub_self, dAdd_int, dSub_int, dLt_int, dLe_int, dGt_int, dGe_int, dNeg_int, dInt_bl, dInt_int, dEq_int, dNe_int, decide_true, decide_false, Bool.not_true, Bool.not_false, if_true, if_false, Bool.false_eq_true, ofS_eq, String.reduceEq, e_chain, r_chn, r_chmT, r_chmF, e_sl, e_oN, e_oS, r_opt, r_slc, e_mM0, r_mm0, e_mM1, r_mm1, e_enum, r_enmL, r_enmT, e_zip, r_zpLL, r_zpLT, r_zpTL, r_zpTT, e_rg1, dDiv_int, dMod_int, Int.reduceLT, m__law_is_step, dIsi, D.ty, isiB, String.reduceBEq, Bool.or_false, Bool.false_or, Bool.or_self, Bool.and_false, Bool.false_and, Bool.and_true, Bool.true_and, Bool.or_true, Bool.true_or, Bool.and_self]
  · cases xs with
    | nil =>
      have l0 : dLen (.tup []) = .ok (.int 0) := rfl
      rw [stepB_non n _ (by simp)]; simp only [e_run, e_seq, e_nil, e_brk, e_cnt, e_if, e_ret, e_retN, e_set, e_for, e_test, e_not, e_and, e_or, e_notV, e_andV, e_orV, e_ifE, e_m1, e_m2, e_c, e_var, e_varB, e_evN, e_evC, e_tup, e_lst, e_call, e_items, e_yes, r_seqN, r_seqR, r_seqB, r_seqC, r_seqE, r_seqS, r_bifT, r_bifF, r_bifE, r_ret, r_retE, r_put, r_putE, r_outR, r_outN, r_outE, r_ap2, r_bol, r_neg, r_bl, r_cons, r_getv, r_getb, r_tupl, r_lstl, r_loop, view_val, Res.bind_ok, Res.bind_err, Res.bind_stuck, Res.calm_ok, List.getElem?_cons_zero, List.getElem?_cons_succ, List.set_cons_zero, List.set_cons_succ, List.map_cons, List.map_nil, List.cons_append, List.nil_append, List.append_nil, List.length_cons, List.length_nil, List.replicate_succ, List.replicate_zero, Nat.reduceSub, Nat.reduceAdd, Nat.zero_add, Nat.sub_self, dAdd_int, dSub_int, dLt_int, dLe_int, dGt_int, dGe_int, dNeg_int, dInt_bl, dInt_int, dEq_int, dNe_int, decide_true, decide_false, Bool.not_true, Bool.not_false, if_true, if_false, Bool.false_eq_true, ofS_eq, String.reduceEq, e_chain, r_chn, r_chmT, r_chmF, e_sl, e_oN, e_oS, r_opt, r_slc, e_mM0, r_mm0, e_mM1, r_mm1, e_enum, r_enmL, r_enmT, e_zip, r_zpLL, r_zpLT, r_zpTL, r_zpTT, e_rg1, dDiv_int, dMod_int, Int.reduceLT, m__law_is_step, l0, dIsi, D.ty, isiB, String.reduceBEq, Bool.or_false, Bool.false_or, Bool.or_self, Bool.and_false, Bool.false_and, Bool.and_true, Bool.true_and, Bool.or_true, Bool.true_or, Bool.and_self]
    | cons a r =>
      obtain ⟨L, z0, l0, eL⟩ : ∃ L : Int, ¬ L = 0 ∧ dLen (.tup (a :: r)) = .ok (.int L) ∧ L = r.length + 1 := ⟨((r.length + 1 : Nat) : Int), by omega, rfl, by omega⟩
      have i0 : dIx (.tup (a :: r)) (.int 0) = .ok a := dIx_tupN (j := 0) rfl
      have ga := gd_all h a (by simp)
      have gr : ∀ x ∈ r, gd m x = true := fun x hx => gd_all h x (by simp [hx])
      have q1 := dEq_w (w := "draw") ga (by omega) (by decide +kernel)
      have q2 := dEq_w (w := "show") ga (by omega) (by decide +kernel)
      have q3 := dEq_w (w := "ask") ga (by omega) (by decide +kernel)
      have q4 := dEq_w (w := "keep") ga (by omega) (by decide +kernel)
      have q5 := dEq_w (w := "pay") ga (by omega) (by decide +kernel)
      have qn := dNe_w (w := "if") ga (by omega) (by decide +kernel)
      rcases gd_ty ga with rfl | ⟨b, rfl⟩ | ⟨i, rfl⟩ | ⟨w, rfl, ow, lw⟩ | ⟨ys, rfl⟩ | ⟨ys, rfl⟩
      · rw [stepB_non n _ (by simp)]; simp only [e_run, e_seq, e_nil, e_brk, e_cnt, e_if, e_ret, e_retN, e_set, e_for, e_test, e_not, e_and, e_or, e_notV, e_andV, e_orV, e_ifE, e_m1, e_m2, e_c, e_var, e_varB, e_evN, e_evC, e_tup, e_lst, e_call, e_items, e_yes, r_seqN, r_seqR, r_seqB, r_seqC, r_seqE, r_seqS, r_bifT, r_bifF, r_bifE, r_ret, r_retE, r_put, r_putE, r_outR, r_outN, r_outE, r_ap2, r_bol, r_neg, r_bl, r_cons, r_getv, r_getb, r_tupl, r_lstl, r_loop, view_val, Res.bind_ok, Res.bind_err, Res.bind_stuck, Res.calm_ok, List.getElem?_cons_zero, List.getElem?_cons_succ, List.set_cons_zero, List.set_cons_succ, List.map_cons, List.map_nil, List.cons_append, List.nil_append, List.append_nil, List.length_cons, List.length_nil, List.replicate_succ, List.replicate_zero, Nat.reduceSub, Nat.reduceAdd, Nat.zero_add, Nat.sub_self, dAdd_int, dSub_int, dLt_int, dLe_int, dGt_int, dGe_int, dNeg_int, dInt_bl, dInt_int, dEq_int, dNe_int, decide_true, decide_false, Bool.not_true, Bool.not_false, if_true, if_false, Bool.false_eq_true, ofS_eq, String.reduceEq, e_chain, r_chn, r_chmT, r_chmF, e_sl, e_oN, e_oS, r_opt, r_slc, e_mM0, r_mm0, e_mM1, r_mm1, e_enum, r_enmL, r_enmT, e_zip, r_zpLL, r_zpLT, r_zpTL, r_zpTT, e_rg1, dDiv_int, dMod_int, Int.reduceLT, m__law_is_step, l0, z0, i0, q1, q2, q3, q4, q5, qn, strIs, dIsi, D.ty, isiB, String.reduceBEq, Bool.or_false, Bool.false_or, Bool.or_self, Bool.and_false, Bool.false_and, Bool.and_true, Bool.true_and, Bool.or_true, Bool.true_or, Bool.and_self]
      · rw [stepB_non n _ (by simp)]; simp only [e_run, e_seq, e_nil, e_brk, e_cnt, e_if, e_ret, e_retN, e_set, e_for, e_test, e_not, e_and, e_or, e_notV, e_andV, e_orV, e_ifE, e_m1, e_m2, e_c, e_var, e_varB, e_evN, e_evC, e_tup, e_lst, e_call, e_items, e_yes, r_seqN, r_seqR, r_seqB, r_seqC, r_seqE, r_seqS, r_bifT, r_bifF, r_bifE, r_ret, r_retE, r_put, r_putE, r_outR, r_outN, r_outE, r_ap2, r_bol, r_neg, r_bl, r_cons, r_getv, r_getb, r_tupl, r_lstl, r_loop, view_val, Res.bind_ok, Res.bind_err, Res.bind_stuck, Res.calm_ok, List.getElem?_cons_zero, List.getElem?_cons_succ, List.set_cons_zero, List.set_cons_succ, List.map_cons, List.map_nil, List.cons_append, List.nil_append, List.append_nil, List.length_cons, List.length_nil, List.replicate_succ, List.replicate_zero, Nat.reduceSub, Nat.reduceAdd, Nat.zero_add, Nat.sub_self, dAdd_int, dSub_int, dLt_int, dLe_int, dGt_int, dGe_int, dNeg_int, dInt_bl, dInt_int, dEq_int, dNe_int, decide_true, decide_false, Bool.not_true, Bool.not_false, if_true, if_false, Bool.false_eq_true, ofS_eq, String.reduceEq, e_chain, r_chn, r_chmT, r_chmF, e_sl, e_oN, e_oS, r_opt, r_slc, e_mM0, r_mm0, e_mM1, r_mm1, e_enum, r_enmL, r_enmT, e_zip, r_zpLL, r_zpLT, r_zpTL, r_zpTT, e_rg1, dDiv_int, dMod_int, Int.reduceLT, m__law_is_step, l0, z0, i0, q1, q2, q3, q4, q5, qn, strIs, dIsi, D.ty, isiB, String.reduceBEq, Bool.or_false, Bool.false_or, Bool.or_self, Bool.and_false, Bool.false_and, Bool.and_true, Bool.true_and, Bool.or_true, Bool.true_or, Bool.and_self]
      · rw [stepB_non n _ (by simp)]; simp only [e_run, e_seq, e_nil, e_brk, e_cnt, e_if, e_ret, e_retN, e_set, e_for, e_test, e_not, e_and, e_or, e_notV, e_andV, e_orV, e_ifE, e_m1, e_m2, e_c, e_var, e_varB, e_evN, e_evC, e_tup, e_lst, e_call, e_items, e_yes, r_seqN, r_seqR, r_seqB, r_seqC, r_seqE, r_seqS, r_bifT, r_bifF, r_bifE, r_ret, r_retE, r_put, r_putE, r_outR, r_outN, r_outE, r_ap2, r_bol, r_neg, r_bl, r_cons, r_getv, r_getb, r_tupl, r_lstl, r_loop, view_val, Res.bind_ok, Res.bind_err, Res.bind_stuck, Res.calm_ok, List.getElem?_cons_zero, List.getElem?_cons_succ, List.set_cons_zero, List.set_cons_succ, List.map_cons, List.map_nil, List.cons_append, List.nil_append, List.append_nil, List.length_cons, List.length_nil, List.replicate_succ, List.replicate_zero, Nat.reduceSub, Nat.reduceAdd, Nat.zero_add, Nat.sub_self, dAdd_int, dSub_int, dLt_int, dLe_int, dGt_int, dGe_int, dNeg_int, dInt_bl, dInt_int, dEq_int, dNe_int, decide_true, decide_false, Bool.not_true, Bool.not_false, if_true, if_false, Bool.false_eq_true, ofS_eq, String.reduceEq, e_chain, r_chn, r_chmT, r_chmF, e_sl, e_oN, e_oS, r_opt, r_slc, e_mM0, r_mm0, e_mM1, r_mm1, e_enum, r_enmL, r_enmT, e_zip, r_zpLL, r_zpLT, r_zpTL, r_zpTT, e_rg1, dDiv_int, dMod_int, Int.reduceLT, m__law_is_step, l0, z0, i0, q1, q2, q3, q4, q5, qn, strIs, dIsi, D.ty, isiB, String.reduceBEq, Bool.or_false, Bool.false_or, Bool.or_self, Bool.and_false, Bool.false_and, Bool.and_true, Bool.true_and, Bool.or_true, Bool.true_or, Bool.and_self]
      · rw [stepB_eq]
        simp only [strIs] at q1 q2 q3 q4 q5 qn
        by_cases c1 : w = "draw"
        · rw [if_pos c1]
          have d1 := decide_eq_true c1
          rcases len2 r with ⟨a, b, rfl⟩ | ⟨hl, hx⟩
          · have e1 := hN a (gr a (by simp))
            have e2 := hL b (gr b (by simp))
            have j1 : dIx (.tup [.str w, a, b]) (.int 1) = .ok a := rfl
            have j2 : dIx (.tup [.str w, a, b]) (.int 2) = .ok b := rfl
            have eL' : L = 3 := by simp at eL; omega
            subst eL'
            cases h1 : nameB a <;> rw [h1] at e1 <;> simp only [e_run, e_seq, e_nil, e_brk, e_cnt, e_if, e_ret, e_retN, e_set, e_for, e_test, e_not, e_and, e_or, e_notV, e_andV, e_orV, e_ifE, e_m1, e_m2, e_c, e_var, e_varB, e_evN, e_evC, e_tup, e_lst, e_call, e_items, e_yes, r_seqN, r_seqR, r_seqB, r_seqC, r_seqE, r_seqS, r_bifT, r_bifF, r_bifE, r_ret, r_retE, r_put, r_putE, r_outR, r_outN, r_outE, r_ap2, r_bol, r_neg, r_bl, r_cons, r_getv, r_getb, r_tupl, r_lstl, r_loop, view_val, Res.bind_ok, Res.bind_err, Res.bind_stuck, Res.calm_ok, List.getElem?_cons_zero, List.getElem?_cons_succ, List.set_cons_zero, List.set_cons_succ, List.map_cons, List.map_nil, List.cons_append, List.nil_append, List.append_nil, List.length_cons, List.length_nil, List.replicate_succ, List.replicate_zero, Nat.reduceSub, Nat.reduceAdd, Nat.zero_add, Nat.sub_self, dAdd_int, dSub_int, dLt_int, dLe_int, dGt_int, dGe_int, dNeg_int, dInt_bl, dInt_int, dEq_int, dNe_int, decide_true, decide_false, Bool.not_true, Bool.not_false, if_true, if_false, Bool.false_eq_true, ofS_eq, String.reduceEq, e_chain, r_chn, r_chmT, r_chmF, e_sl, e_oN, e_oS, r_opt, r_slc, e_mM0, r_mm0, e_mM1, r_mm1, e_enum, r_enmL, r_enmT, e_zip, r_zpLL, r_zpLT, r_zpTL, r_zpTT, e_rg1, dDiv_int, dMod_int, Int.reduceLT, m__law_is_step, l0, z0, i0, q1, d1, Int.reduceEq, j1, j2, e1, e2, two, h1, dIsi, D.ty, isiB, String.reduceBEq, Bool.or_false, Bool.false_or, Bool.or_self, Bool.and_false, Bool.false_and, Bool.and_true, Bool.true_and, Bool.or_true, Bool.true_or, Bool.and_self]
          · have eL' : ¬ L = 3 := by omega
            rw [two_no hx]; simp only [e_run, e_seq, e_nil, e_brk, e_cnt, e_if, e_ret, e_retN, e_set, e_for, e_test, e_not, e_and, e_or, e_notV, e_andV, e_orV, e_ifE, e_m1, e_m2, e_c, e_var, e_varB, e_evN, e_evC, e_tup, e_lst, e_call, e_items, e_yes, r_seqN, r_seqR, r_seqB, r_seqC, r_seqE, r_seqS, r_bifT, r_bifF, r_bifE, r_ret, r_retE, r_put, r_putE, r_outR, r_outN, r_outE, r_ap2, r_bol, r_neg, r_bl, r_cons, r_getv, r_getb, r_tupl, r_lstl, r_loop, view_val, Res.bind_ok, Res.bind_err, Res.bind_stuck, Res.calm_ok, List.getElem?_cons_zero, List.getElem?_cons_succ, List.set_cons_zero, List.set_cons_succ, List.map_cons, List.map_nil, List.cons_append, List.nil_append, List.append_nil, List.length_cons, List.length_nil, List.replicate_succ, List.replicate_zero, Nat.reduceSub, Nat.reduceAdd, Nat.zero_add, Nat.sub_self, dAdd_int, dSub_int, dLt_int, dLe_int, dGt_int, dGe_int, dNeg_int, dInt_bl, dInt_int, dEq_int, dNe_int, decide_true, decide_false, Bool.not_true, Bool.not_false, if_true, if_false, Bool.false_eq_true, ofS_eq, String.reduceEq, e_chain, r_chn, r_chmT, r_chmF, e_sl, e_oN, e_oS, r_opt, r_slc, e_mM0, r_mm0, e_mM1, r_mm1, e_enum, r_enmL, r_enmT, e_zip, r_zpLL, r_zpLT, r_zpTL, r_zpTT, e_rg1, dDiv_int, dMod_int, Int.reduceLT, m__law_is_step, l0, z0, i0, q1, d1, eL', dIsi, D.ty, isiB, String.reduceBEq, Bool.or_false, Bool.false_or, Bool.or_self, Bool.and_false, Bool.false_and, Bool.and_true, Bool.true_and, Bool.or_true, Bool.true_or, Bool.and_self]
        rw [if_neg c1]
        by_cases c2 : w = "show"
        · rw [if_pos c2]
          have d2 := decide_eq_true c2
          rcases len2 r with ⟨a, b, rfl⟩ | ⟨hl, hx⟩
          · have e1 := hN a (gr a (by simp))
            have e2 := hI b 0 1 (gr b (by simp))
            have j1 : dIx (.tup [.str w, a, b]) (.int 1) = .ok a := rfl
            have j2 : dIx (.tup [.str w, a, b]) (.int 2) = .ok b := rfl
            have eL' : L = 3 := by simp at eL; omega
            subst eL'
            cases h1 : nameB a <;> rw [h1] at e1 <;> simp only [e_run, e_seq, e_nil, e_brk, e_cnt, e_if, e_ret, e_retN, e_set, e_for, e_test, e_not, e_and, e_or, e_notV, e_andV, e_orV, e_ifE, e_m1, e_m2, e_c, e_var, e_varB, e_evN, e_evC, e_tup, e_lst, e_call, e_items, e_yes, r_seqN, r_seqR, r_seqB, r_seqC, r_seqE, r_seqS, r_bifT, r_bifF, r_bifE, r_ret, r_retE, r_put, r_putE, r_outR, r_outN, r_outE, r_ap2, r_bol, r_neg, r_bl, r_cons, r_getv, r_getb, r_tupl, r_lstl, r_loop, view_val, Res.bind_ok, Res.bind_err, Res.bind_stuck, Res.calm_ok, List.getElem?_cons_zero, List.getElem?_cons_succ, List.set_cons_zero, List.set_cons_succ, List.map_cons, List.map_nil, List.cons_append, List.nil_append, List.append_nil, List.length_cons, List.length_nil, List.replicate_succ, List.replicate_zero, Nat.reduceSub, Nat.reduceAdd, Nat.zero_add, Nat.sub_self, dAdd_int, dSub_int, dLt_int, dLe_int, dGt_int, dGe_int, dNeg_int, dInt_bl, dInt_int, dEq_int, dNe_int, decide_true, decide_false, Bool.not_true, Bool.not_false, if_true, if_false, Bool.false_eq_true, ofS_eq, String.reduceEq, e_chain, r_chn, r_chmT, r_chmF, e_sl, e_oN, e_oS, r_opt, r_slc, e_mM0, r_mm0, e_mM1, r_mm1, e_enum, r_enmL, r_enmT, e_zip, r_zpLL, r_zpLT, r_zpTL, r_zpTT, e_rg1, dDiv_int, dMod_int, Int.reduceLT, m__law_is_step, l0, z0, i0, q1, c1, q2, d2, Int.reduceEq, j1, j2, e1, e2, two, h1, dIsi, D.ty, isiB, String.reduceBEq, Bool.or_false, Bool.false_or, Bool.or_self, Bool.and_false, Bool.false_and, Bool.and_true, Bool.true_and, Bool.or_true, Bool.true_or, Bool.and_self]
          · have eL' : ¬ L = 3 := by omega
            rw [two_no hx]; simp only [e_run, e_seq, e_nil, e_brk, e_cnt, e_if, e_ret, e_retN, e_set, e_for, e_test, e_not, e_and, e_or, e_notV, e_andV, e_orV, e_ifE, e_m1, e_m2, e_c, e_var, e_varB, e_evN, e_evC, e_tup, e_lst, e_call, e_items, e_yes, r_seqN, r_seqR, r_seqB, r_seqC, r_seqE, r_seqS, r_bifT, r_bifF, r_bifE, r_ret, r_retE, r_put, r_putE, r_outR, r_outN, r_outE, r_ap2, r_bol, r_neg, r_bl, r_cons, r_getv, r_getb, r_tupl, r_lstl, r_loop, view_val, Res.bind_ok, Res.bind_err, Res.bind_stuck, Res.calm_ok, List.getElem?_cons_zero, List.getElem?_cons_succ, List.set_cons_zero, List.set_cons_succ, List.map_cons, List.map_nil, List.cons_append, List.nil_append, List.append_nil, List.length_cons, List.length_nil, List.replicate_succ, List.replicate_zero, Nat.reduceSub, Nat.reduceAdd, Nat.zero_add, Nat.sub_self, dAdd_int, dSub_int, dLt_int, dLe_int, dGt_int, dGe_int, dNeg_int, dInt_bl, dInt_int, dEq_int, dNe_int, decide_true, decide_false, Bool.not_true, Bool.not_false, if_true, if_false, Bool.false_eq_true, ofS_eq, String.reduceEq, e_chain, r_chn, r_chmT, r_chmF, e_sl, e_oN, e_oS, r_opt, r_slc, e_mM0, r_mm0, e_mM1, r_mm1, e_enum, r_enmL, r_enmT, e_zip, r_zpLL, r_zpLT, r_zpTL, r_zpTT, e_rg1, dDiv_int, dMod_int, Int.reduceLT, m__law_is_step, l0, z0, i0, q1, c1, q2, d2, eL', dIsi, D.ty, isiB, String.reduceBEq, Bool.or_false, Bool.false_or, Bool.or_self, Bool.and_false, Bool.false_and, Bool.and_true, Bool.true_and, Bool.or_true, Bool.true_or, Bool.and_self]
        rw [if_neg c2]
        by_cases c3 : w = "ask"
        · rw [if_pos c3]
          have d3 := decide_eq_true c3
          rcases len3 r with ⟨a, b, c, rfl⟩ | ⟨hl, hx⟩
          · have e1 := hI a 0 1 (gr a (by simp))
            have e2 := hN b (gr b (by simp))
            have e3 := hO c (gr c (by simp))
            have j1 : dIx (.tup [.str w, a, b, c]) (.int 1) = .ok a := rfl
            have j2 : dIx (.tup [.str w, a, b, c]) (.int 2) = .ok b := rfl
            have j3 : dIx (.tup [.str w, a, b, c]) (.int 3) = .ok c := rfl
            have eL' : L = 4 := by simp at eL; omega
            subst eL'
            cases h1 : wholeB 0 1 a <;> cases h2 : nameB b <;> rw [h1] at e1 <;> rw [h2] at e2 <;> simp only [e_run, e_seq, e_nil, e_brk, e_cnt, e_if, e_ret, e_retN, e_set, e_for, e_test, e_not, e_and, e_or, e_notV, e_andV, e_orV, e_ifE, e_m1, e_m2, e_c, e_var, e_varB, e_evN, e_evC, e_tup, e_lst, e_call, e_items, e_yes, r_seqN, r_seqR, r_seqB, r_seqC, r_seqE, r_seqS, r_bifT, r_bifF, r_bifE, r_ret, r_retE, r_put, r_putE, r_outR, r_outN, r_outE, r_ap2, r_bol, r_neg, r_bl, r_cons, r_getv, r_getb, r_tupl, r_lstl, r_loop, view_val, Res.bind_ok, Res.bind_err, Res.bind_stuck, Res.calm_ok, List.getElem?_cons_zero, List.getElem?_cons_succ, List.set_cons_zero, List.set_cons_succ, List.map_cons, List.map_nil, List.cons_append, List.nil_append, List.append_nil, List.length_cons, List.length_nil, List.replicate_succ, List.replicate_zero, Nat.reduceSub, Nat.reduceAdd, Nat.zero_add, Nat.sub_self, dAdd_int, dSub_int, dLt_int, dLe_int, dGt_int, dGe_int, dNeg_int, dInt_bl, dInt_int, dEq_int, dNe_int, decide_true, decide_false, Bool.not_true, Bool.not_false, if_true, if_false, Bool.false_eq_true, ofS_eq, String.reduceEq, e_chain, r_chn, r_chmT, r_chmF, e_sl, e_oN, e_oS, r_opt, r_slc, e_mM0, r_mm0, e_mM1, r_mm1, e_enum, r_enmL, r_enmT, e_zip, r_zpLL, r_zpLT, r_zpTL, r_zpTT, e_rg1, dDiv_int, dMod_int, Int.reduceLT, m__law_is_step, l0, z0, i0, q1, c1, q2, c2, q3, d3, j1, j2, j3, e1, e2, e3, three, h1, h2, Int.reduceEq, dIsi, D.ty, isiB, String.reduceBEq, Bool.or_false, Bool.false_or, Bool.or_self, Bool.and_false, Bool.false_and, Bool.and_true, Bool.true_and, Bool.or_true, Bool.true_or, Bool.and_self]
          · have eL' : ¬ L = 4 := by omega
            rw [three_no hx]; simp only [e_run, e_seq, e_nil, e_brk, e_cnt, e_if, e_ret, e_retN, e_set, e_for, e_test, e_not, e_and, e_or, e_notV, e_andV, e_orV, e_ifE, e_m1, e_m2, e_c, e_var, e_varB, e_evN, e_evC, e_tup, e_lst, e_call, e_items, e_yes, r_seqN, r_seqR, r_seqB, r_seqC, r_seqE, r_seqS, r_bifT, r_bifF, r_bifE, r_ret, r_retE, r_put, r_putE, r_outR, r_outN, r_outE, r_ap2, r_bol, r_neg, r_bl, r_cons, r_getv, r_getb, r_tupl, r_lstl, r_loop, view_val, Res.bind_ok, Res.bind_err, Res.bind_stuck, Res.calm_ok, List.getElem?_cons_zero, List.getElem?_cons_succ, List.set_cons_zero, List.set_cons_succ, List.map_cons, List.map_nil, List.cons_append, List.nil_append, List.append_nil, List.length_cons, List.length_nil, List.replicate_succ, List.replicate_zero, Nat.reduceSub, Nat.reduceAdd, Nat.zero_add, Nat.sub_self, dAdd_int, dSub_int, dLt_int, dLe_int, dGt_int, dGe_int, dNeg_int, dInt_bl, dInt_int, dEq_int, dNe_int, decide_true, decide_false, Bool.not_true, Bool.not_false, if_true, if_false, Bool.false_eq_true, ofS_eq, String.reduceEq, e_chain, r_chn, r_chmT, r_chmF, e_sl, e_oN, e_oS, r_opt, r_slc, e_mM0, r_mm0, e_mM1, r_mm1, e_enum, r_enmL, r_enmT, e_zip, r_zpLL, r_zpLT, r_zpTL, r_zpTT, e_rg1, dDiv_int, dMod_int, Int.reduceLT, m__law_is_step, l0, z0, i0, q1, c1, q2, c2, q3, d3, eL', dIsi, D.ty, isiB, String.reduceBEq, Bool.or_false, Bool.false_or, Bool.or_self, Bool.and_false, Bool.false_and, Bool.and_true, Bool.true_and, Bool.or_true, Bool.true_or, Bool.and_self]
        rw [if_neg c3]
        by_cases c4 : w = "keep"
        · rw [if_pos c4]
          have d4 := decide_eq_true c4
          rcases len2 r with ⟨a, b, rfl⟩ | ⟨hl, hx⟩
          · have e1 := hN a (gr a (by simp))
            have e2 := hS b (gr b (by simp))
            have j1 : dIx (.tup [.str w, a, b]) (.int 1) = .ok a := rfl
            have j2 : dIx (.tup [.str w, a, b]) (.int 2) = .ok b := rfl
            have eL' : L = 3 := by simp at eL; omega
            subst eL'
            cases h1 : nameB a <;> rw [h1] at e1 <;> simp only [e_run, e_seq, e_nil, e_brk, e_cnt, e_if, e_ret, e_retN, e_set, e_for, e_test, e_not, e_and, e_or, e_notV, e_andV, e_orV, e_ifE, e_m1, e_m2, e_c, e_var, e_varB, e_evN, e_evC, e_tup, e_lst, e_call, e_items, e_yes, r_seqN, r_seqR, r_seqB, r_seqC, r_seqE, r_seqS, r_bifT, r_bifF, r_bifE, r_ret, r_retE, r_put, r_putE, r_outR, r_outN, r_outE, r_ap2, r_bol, r_neg, r_bl, r_cons, r_getv, r_getb, r_tupl, r_lstl, r_loop, view_val, Res.bind_ok, Res.bind_err, Res.bind_stuck, Res.calm_ok, List.getElem?_cons_zero, List.getElem?_cons_succ, List.set_cons_zero, List.set_cons_succ, List.map_cons, List.map_nil, List.cons_append, List.nil_append, List.append_nil, List.length_cons, List.length_nil, List.replicate_succ, List.replicate_zero, Nat.reduceSub, Nat.reduceAdd, Nat.zero_add, Nat.sub_self, dAdd_int, dSub_int, dLt_int, dLe_int, dGt_int, dGe_int, dNeg_int, dInt_bl, dInt_int, dEq_int, dNe_int, decide_true, decide_false, Bool.not_true, Bool.not_false, if_true, if_false, Bool.false_eq_true, ofS_eq, String.reduceEq, e_chain, r_chn, r_chmT, r_chmF, e_sl, e_oN, e_oS, r_opt, r_slc, e_mM0, r_mm0, e_mM1, r_mm1, e_enum, r_enmL, r_enmT, e_zip, r_zpLL, r_zpLT, r_zpTL, r_zpTT, e_rg1, dDiv_int, dMod_int, Int.reduceLT, m__law_is_step, l0, z0, i0, q1, c1, q2, c2, q3, c3, q4, d4, Int.reduceEq, j1, j2, e1, e2, two, h1, dIsi, D.ty, isiB, String.reduceBEq, Bool.or_false, Bool.false_or, Bool.or_self, Bool.and_false, Bool.false_and, Bool.and_true, Bool.true_and, Bool.or_true, Bool.true_or, Bool.and_self]
          · have eL' : ¬ L = 3 := by omega
            rw [two_no hx]; simp only [e_run, e_seq, e_nil, e_brk, e_cnt, e_if, e_ret, e_retN, e_set, e_for, e_test, e_not, e_and, e_or, e_notV, e_andV, e_orV, e_ifE, e_m1, e_m2, e_c, e_var, e_varB, e_evN, e_evC, e_tup, e_lst, e_call, e_items, e_yes, r_seqN, r_seqR, r_seqB, r_seqC, r_seqE, r_seqS, r_bifT, r_bifF, r_bifE, r_ret, r_retE, r_put, r_putE, r_outR, r_outN, r_outE, r_ap2, r_bol, r_neg, r_bl, r_cons, r_getv, r_getb, r_tupl, r_lstl, r_loop, view_val, Res.bind_ok, Res.bind_err, Res.bind_stuck, Res.calm_ok, List.getElem?_cons_zero, List.getElem?_cons_succ, List.set_cons_zero, List.set_cons_succ, List.map_cons, List.map_nil, List.cons_append, List.nil_append, List.append_nil, List.length_cons, List.length_nil, List.replicate_succ, List.replicate_zero, Nat.reduceSub, Nat.reduceAdd, Nat.zero_add, Nat.sub_self, dAdd_int, dSub_int, dLt_int, dLe_int, dGt_int, dGe_int, dNeg_int, dInt_bl, dInt_int, dEq_int, dNe_int, decide_true, decide_false, Bool.not_true, Bool.not_false, if_true, if_false, Bool.false_eq_true, ofS_eq, String.reduceEq, e_chain, r_chn, r_chmT, r_chmF, e_sl, e_oN, e_oS, r_opt, r_slc, e_mM0, r_mm0, e_mM1, r_mm1, e_enum, r_enmL, r_enmT, e_zip, r_zpLL, r_zpLT, r_zpTL, r_zpTT, e_rg1, dDiv_int, dMod_int, Int.reduceLT, m__law_is_step, l0, z0, i0, q1, c1, q2, c2, q3, c3, q4, d4, eL', dIsi, D.ty, isiB, String.reduceBEq, Bool.or_false, Bool.false_or, Bool.or_self, Bool.and_false, Bool.false_and, Bool.and_true, Bool.true_and, Bool.or_true, Bool.true_or, Bool.and_self]
        rw [if_neg c4]
        by_cases c5 : w = "pay"
        · rw [if_pos c5]
          have d5 := decide_eq_true c5
          rcases len1 r with ⟨a, rfl⟩ | ⟨hl, hx⟩
          · have e1 := hS a (gr a (by simp))
            have j1 : dIx (.tup [.str w, a]) (.int 1) = .ok a := rfl
            have eL' : L = 2 := by simp at eL; omega
            subst eL'
            simp only [e_run, e_seq, e_nil, e_brk, e_cnt, e_if, e_ret, e_retN, e_set, e_for, e_test, e_not, e_and, e_or, e_notV, e_andV, e_orV, e_ifE, e_m1, e_m2, e_c, e_var, e_varB, e_evN, e_evC, e_tup, e_lst, e_call, e_items, e_yes, r_seqN, r_seqR, r_seqB, r_seqC, r_seqE, r_seqS, r_bifT, r_bifF, r_bifE, r_ret, r_retE, r_put, r_putE, r_outR, r_outN, r_outE, r_ap2, r_bol, r_neg, r_bl, r_cons, r_getv, r_getb, r_tupl, r_lstl, r_loop, view_val, Res.bind_ok, Res.bind_err, Res.bind_stuck, Res.calm_ok, List.getElem?_cons_zero, List.getElem?_cons_succ, List.set_cons_zero, List.set_cons_succ, List.map_cons, List.map_nil, List.cons_append, List.nil_append, List.append_nil, List.length_cons, List.length_nil, List.replicate_succ, List.replicate_zero, Nat.reduceSub, Nat.reduceAdd, Nat.zero_add, Nat.sub_self, dAdd_int, dSub_int, dLt_int, dLe_int, dGt_int, dGe_int, dNeg_int, dInt_bl, dInt_int, dEq_int, dNe_int, decide_true, decide_false, Bool.not_true, Bool.not_false, if_true, if_false, Bool.false_eq_true, ofS_eq, String.reduceEq, e_chain, r_chn, r_chmT, r_chmF, e_sl, e_oN, e_oS, r_opt, r_slc, e_mM0, r_mm0, e_mM1, r_mm1, e_enum, r_enmL, r_enmT, e_zip, r_zpLL, r_zpLT, r_zpTL, r_zpTT, e_rg1, dDiv_int, dMod_int, Int.reduceLT, m__law_is_step, l0, z0, i0, q1, c1, q2, c2, q3, c3, q4, c4, q5, d5, j1, e1, one, Int.reduceEq, dIsi, D.ty, isiB, String.reduceBEq, Bool.or_false, Bool.false_or, Bool.or_self, Bool.and_false, Bool.false_and, Bool.and_true, Bool.true_and, Bool.or_true, Bool.true_or, Bool.and_self]
          · have eL' : ¬ L = 2 := by omega
            rw [one_no hx]; simp only [e_run, e_seq, e_nil, e_brk, e_cnt, e_if, e_ret, e_retN, e_set, e_for, e_test, e_not, e_and, e_or, e_notV, e_andV, e_orV, e_ifE, e_m1, e_m2, e_c, e_var, e_varB, e_evN, e_evC, e_tup, e_lst, e_call, e_items, e_yes, r_seqN, r_seqR, r_seqB, r_seqC, r_seqE, r_seqS, r_bifT, r_bifF, r_bifE, r_ret, r_retE, r_put, r_putE, r_outR, r_outN, r_outE, r_ap2, r_bol, r_neg, r_bl, r_cons, r_getv, r_getb, r_tupl, r_lstl, r_loop, view_val, Res.bind_ok, Res.bind_err, Res.bind_stuck, Res.calm_ok, List.getElem?_cons_zero, List.getElem?_cons_succ, List.set_cons_zero, List.set_cons_succ, List.map_cons, List.map_nil, List.cons_append, List.nil_append, List.append_nil, List.length_cons, List.length_nil, List.replicate_succ, List.replicate_zero, Nat.reduceSub, Nat.reduceAdd, Nat.zero_add, Nat.sub_self, dAdd_int, dSub_int, dLt_int, dLe_int, dGt_int, dGe_int, dNeg_int, dInt_bl, dInt_int, dEq_int, dNe_int, decide_true, decide_false, Bool.not_true, Bool.not_false, if_true, if_false, Bool.false_eq_true, ofS_eq, String.reduceEq, e_chain, r_chn, r_chmT, r_chmF, e_sl, e_oN, e_oS, r_opt, r_slc, e_mM0, r_mm0, e_mM1, r_mm1, e_enum, r_enmL, r_enmT, e_zip, r_zpLL, r_zpLT, r_zpTL, r_zpTT, e_rg1, dDiv_int, dMod_int, Int.reduceLT, m__law_is_step, l0, z0, i0, q1, c1, q2, c2, q3, c3, q4, c4, q5, d5, eL', dIsi, D.ty, isiB, String.reduceBEq, Bool.or_false, Bool.false_or, Bool.or_self, Bool.and_false, Bool.false_and, Bool.and_true, Bool.true_and, Bool.or_true, Bool.true_or, Bool.and_self]
        rw [if_neg c5]
        by_cases c6 : w = "if"
        · rw [if_pos c6]
          have d6 := decide_eq_true c6
          rcases len3 r with ⟨a, b, c, rfl⟩ | ⟨hl, hx⟩
          · have j1 : dIx (.tup [.str w, a, b, c]) (.int 1) = .ok a := rfl
            have j2 : dIx (.tup [.str w, a, b, c]) (.int 2) = .ok b := rfl
            have j3 : dIx (.tup [.str w, a, b, c]) (.int 3) = .ok c := rfl
            have eL' : L = 4 := by simp at eL; omega
            subst eL'
            cases n with
            | zero => simp only [e_run, e_seq, e_nil, e_brk, e_cnt, e_if, e_ret, e_retN, e_set, e_for, e_test, e_not, e_and, e_or, e_notV, e_andV, e_orV, e_ifE, e_m1, e_m2, e_c, e_var, e_varB, e_evN, e_evC, e_tup, e_lst, e_call, e_items, e_yes, r_seqN, r_seqR, r_seqB, r_seqC, r_seqE, r_seqS, r_bifT, r_bifF, r_bifE, r_ret, r_retE, r_put, r_putE, r_outR, r_outN, r_outE, r_ap2, r_bol, r_neg, r_bl, r_cons, r_getv, r_getb, r_tupl, r_lstl, r_loop, view_val, Res.bind_ok, Res.bind_err, Res.bind_stuck, Res.calm_ok, List.getElem?_cons_zero, List.getElem?_cons_succ, List.set_cons_zero, List.set_cons_succ, List.map_cons, List.map_nil, List.cons_append, List.nil_append, List.append_nil, List.length_cons, List.length_nil, List.replicate_succ, List.replicate_zero, Nat.reduceSub, Nat.reduceAdd, Nat.zero_add, Nat.sub_self, dAdd_int, dSub_int, dLt_int, dLe_int, dGt_int, dGe_int, dNeg_int, dInt_bl, dInt_int, dEq_int, dNe_int, decide_true, decide_false, Bool.not_true, Bool.not_false, if_true, if_false, Bool.false_eq_true, ofS_eq, String.reduceEq, e_chain, r_chn, r_chmT, r_chmF, e_sl, e_oN, e_oS, r_opt, r_slc, e_mM0, r_mm0, e_mM1, r_mm1, e_enum, r_enmL, r_enmT, e_zip, r_zpLL, r_zpLT, r_zpTL, r_zpTT, e_rg1, dDiv_int, dMod_int, Int.reduceLT, m__law_is_step, l0, z0, i0, q1, c1, q2, c2, q3, c3, q4, c4, q5, c5, qn, d6, Int.natCast_zero, ifB, Int.reduceEq, dIsi, D.ty, isiB, String.reduceBEq, Bool.or_false, Bool.false_or, Bool.or_self, Bool.and_false, Bool.false_and, Bool.and_true, Bool.true_and, Bool.or_true, Bool.true_or, Bool.and_self]
            | succ n' =>
              have z1 : ¬ ((n' + 1 : Nat) : Int) = 0 := by omega
              have z2 : ((n' + 1 : Nat) : Int) - 1 = n' := by omega
              have e1 := hS a (gr a (by simp))
              have e2 := hR n' rfl b (gr b (by simp))
              have e3 := hR n' rfl c (gr c (by simp))
              cases h1 : sumB 6 a <;> cases h2 : sheetB (stepB n') b <;> rw [h1] at e1 <;> rw [h2] at e2 <;> simp only [e_run, e_seq, e_nil, e_brk, e_cnt, e_if, e_ret, e_retN, e_set, e_for, e_test, e_not, e_and, e_or, e_notV, e_andV, e_orV, e_ifE, e_m1, e_m2, e_c, e_var, e_varB, e_evN, e_evC, e_tup, e_lst, e_call, e_items, e_yes, r_seqN, r_seqR, r_seqB, r_seqC, r_seqE, r_seqS, r_bifT, r_bifF, r_bifE, r_ret, r_retE, r_put, r_putE, r_outR, r_outN, r_outE, r_ap2, r_bol, r_neg, r_bl, r_cons, r_getv, r_getb, r_tupl, r_lstl, r_loop, view_val, Res.bind_ok, Res.bind_err, Res.bind_stuck, Res.calm_ok, List.getElem?_cons_zero, List.getElem?_cons_succ, List.set_cons_zero, List.set_cons_succ, List.map_cons, List.map_nil, List.cons_append, List.nil_append, List.append_nil, List.length_cons, List.length_nil, List.replicate_succ, List.replicate_zero, Nat.reduceSub, Nat.reduceAdd, Nat.zero_add, Nat.sub_self, dAdd_int, dSub_int, dLt_int, dLe_int, dGt_int, dGe_int, dNeg_int, dInt_bl, dInt_int, dEq_int, dNe_int, decide_true, decide_false, Bool.not_true, Bool.not_false, if_true, if_false, Bool.false_eq_true, ofS_eq, String.reduceEq, e_chain, r_chn, r_chmT, r_chmF, e_sl, e_oN, e_oS, r_opt, r_slc, e_mM0, r_mm0, e_mM1, r_mm1, e_enum, r_enmL, r_enmT, e_zip, r_zpLL, r_zpLT, r_zpTL, r_zpTT, e_rg1, dDiv_int, dMod_int, Int.reduceLT, m__law_is_step, l0, z0, i0, q1, c1, q2, c2, q3, c3, q4, c4, q5, c5, qn, d6, z1, z2, j1, j2, j3, e1, e2, e3, three, ifB, h1, h2, Int.reduceEq, dIsi, D.ty, isiB, String.reduceBEq, Bool.or_false, Bool.false_or, Bool.or_self, Bool.and_false, Bool.false_and, Bool.and_true, Bool.true_and, Bool.or_true, Bool.true_or, Bool.and_self]
          · have eL' : ¬ L = 4 := by omega
            rw [ifB_no hx]
            simp only [e_run, e_seq, e_nil, e_brk, e_cnt, e_if, e_ret, e_retN, e_set, e_for, e_test, e_not, e_and, e_or, e_notV, e_andV, e_orV, e_ifE, e_m1, e_m2, e_c, e_var, e_varB, e_evN, e_evC, e_tup, e_lst, e_call, e_items, e_yes, r_seqN, r_seqR, r_seqB, r_seqC, r_seqE, r_seqS, r_bifT, r_bifF, r_bifE, r_ret, r_retE, r_put, r_putE, r_outR, r_outN, r_outE, r_ap2, r_bol, r_neg, r_bl, r_cons, r_getv, r_getb, r_tupl, r_lstl, r_loop, view_val, Res.bind_ok, Res.bind_err, Res.bind_stuck, Res.calm_ok, List.getElem?_cons_zero, List.getElem?_cons_succ, List.set_cons_zero, List.set_cons_succ, List.map_cons, List.map_nil, List.cons_append, List.nil_append, List.append_nil, List.length_cons, List.length_nil, List.replicate_succ, List.replicate_zero, Nat.reduceSub, Nat.reduceAdd, Nat.zero_add, Nat.sub_self, dAdd_int, dSub_int, dLt_int, dLe_int, dGt_int, dGe_int, dNeg_int, dInt_bl, dInt_int, dEq_int, dNe_int, decide_true, decide_false, Bool.not_true, Bool.not_false, if_true, if_false, Bool.false_eq_true, ofS_eq, String.reduceEq, e_chain, r_chn, r_chmT, r_chmF, e_sl, e_oN, e_oS, r_opt, r_slc, e_mM0, r_mm0, e_mM1, r_mm1, e_enum, r_enmL, r_enmT, e_zip, r_zpLL, r_zpLT, r_zpTL, r_zpTT, e_rg1, dDiv_int, dMod_int, Int.reduceLT, m__law_is_step, l0, z0, i0, q1, c1, q2, c2, q3, c3, q4, c4, q5, c5, qn, d6, eL', dIsi, D.ty, isiB, String.reduceBEq, Bool.or_false, Bool.false_or, Bool.or_self, Bool.and_false, Bool.false_and, Bool.and_true, Bool.true_and, Bool.or_true, Bool.true_or, Bool.and_self]
        rw [if_neg c6]
        simp only [e_run, e_seq, e_nil, e_brk, e_cnt, e_if, e_ret, e_retN, e_set, e_for, e_test, e_not, e_and, e_or, e_notV, e_andV, e_orV, e_ifE, e_m1, e_m2, e_c, e_var, e_varB, e_evN, e_evC, e_tup, e_lst, e_call, e_items, e_yes, r_seqN, r_seqR, r_seqB, r_seqC, r_seqE, r_seqS, r_bifT, r_bifF, r_bifE, r_ret, r_retE, r_put, r_putE, r_outR, r_outN, r_outE, r_ap2, r_bol, r_neg, r_bl, r_cons, r_getv, r_getb, r_tupl, r_lstl, r_loop, view_val, Res.bind_ok, Res.bind_err, Res.bind_stuck, Res.calm_ok, List.getElem?_cons_zero, List.getElem?_cons_succ, List.set_cons_zero, List.set_cons_succ, List.map_cons, List.map_nil, List.cons_append, List.nil_append, List.append_nil, List.length_cons, List.length_nil, List.replicate_succ, List.replicate_zero, Nat.reduceSub, Nat.reduceAdd, Nat.zero_add, Nat.sub_self, dAdd_int, dSub_int, dLt_int, dLe_int, dGt_int, dGe_int, dNeg_int, dInt_bl, dInt_int, dEq_int, dNe_int, decide_true, decide_false, Bool.not_true, Bool.not_false, if_true, if_false, Bool.false_eq_true, ofS_eq, String.reduceEq, e_chain, r_chn, r_chmT, r_chmF, e_sl, e_oN, e_oS, r_opt, r_slc, e_mM0, r_mm0, e_mM1, r_mm1, e_enum, r_enmL, r_enmT, e_zip, r_zpLL, r_zpLT, r_zpTL, r_zpTT, e_rg1, dDiv_int, dMod_int, Int.reduceLT, m__law_is_step, l0, z0, i0, q1, c1, q2, c2, q3, c3, q4, c4, q5, c5, qn, c6, dIsi, D.ty, isiB, String.reduceBEq, Bool.or_false, Bool.false_or, Bool.or_self, Bool.and_false, Bool.false_and, Bool.and_true, Bool.true_and, Bool.or_true, Bool.true_or, Bool.and_self]
      · rw [stepB_non n _ (by simp)]; simp only [e_run, e_seq, e_nil, e_brk, e_cnt, e_if, e_ret, e_retN, e_set, e_for, e_test, e_not, e_and, e_or, e_notV, e_andV, e_orV, e_ifE, e_m1, e_m2, e_c, e_var, e_varB, e_evN, e_evC, e_tup, e_lst, e_call, e_items, e_yes, r_seqN, r_seqR, r_seqB, r_seqC, r_seqE, r_seqS, r_bifT, r_bifF, r_bifE, r_ret, r_retE, r_put, r_putE, r_outR, r_outN, r_outE, r_ap2, r_bol, r_neg, r_bl, r_cons, r_getv, r_getb, r_tupl, r_lstl, r_loop, view_val, Res.bind_ok, Res.bind_err, Res.bind_stuck, Res.calm_ok, List.getElem?_cons_zero, List.getElem?_cons_succ, List.set_cons_zero, List.set_cons_succ, List.map_cons, List.map_nil, List.cons_append, List.nil_append, List.append_nil, List.length_cons, List.length_nil, List.replicate_succ, List.replicate_zero, Nat.reduceSub, Nat.reduceAdd, Nat.zero_add, Nat.sub_self, dAdd_int, dSub_int, dLt_int, dLe_int, dGt_int, dGe_int, dNeg_int, dInt_bl, dInt_int, dEq_int, dNe_int, decide_true, decide_false, Bool.not_true, Bool.not_false, if_true, if_false, Bool.false_eq_true, ofS_eq, String.reduceEq, e_chain, r_chn, r_chmT, r_chmF, e_sl, e_oN, e_oS, r_opt, r_slc, e_mM0, r_mm0, e_mM1, r_mm1, e_enum, r_enmL, r_enmT, e_zip, r_zpLL, r_zpLT, r_zpTL, r_zpTT, e_rg1, dDiv_int, dMod_int, Int.reduceLT, m__law_is_step, l0, z0, i0, q1, q2, q3, q4, q5, qn, strIs, dIsi, D.ty, isiB, String.reduceBEq, Bool.or_false, Bool.false_or, Bool.or_self, Bool.and_false, Bool.false_and, Bool.and_true, Bool.true_and, Bool.or_true, Bool.true_or, Bool.and_self]
      · rw [stepB_non n _ (by simp)]; simp only [e_run, e_seq, e_nil, e_brk, e_cnt, e_if, e_ret, e_retN, e_set, e_for, e_test, e_not, e_and, e_or, e_notV, e_andV, e_orV, e_ifE, e_m1, e_m2, e_c, e_var, e_varB, e_evN, e_evC, e_tup, e_lst, e_call, e_items, e_yes, r_seqN, r_seqR, r_seqB, r_seqC, r_seqE, r_seqS, r_bifT, r_bifF, r_bifE, r_ret, r_retE, r_put, r_putE, r_outR, r_outN, r_outE, r_ap2, r_bol, r_neg, r_bl, r_cons, r_getv, r_getb, r_tupl, r_lstl, r_loop, view_val, Res.bind_ok, Res.bind_err, Res.bind_stuck, Res.calm_ok, List.getElem?_cons_zero, List.getElem?_cons_succ, List.set_cons_zero, List.set_cons_succ, List.map_cons, List.map_nil, List.cons_append, List.nil_append, List.append_nil, List.length_cons, List.length_nil, List.replicate_succ, List.replicate_zero, Nat.reduceSub, Nat.reduceAdd, Nat.zero_add, Nat.sub_self, dAdd_int, dSub_int, dLt_int, dLe_int, dGt_int, dGe_int, dNeg_int, dInt_bl, dInt_int, dEq_int, dNe_int, decide_true, decide_false, Bool.not_true, Bool.not_false, if_true, if_false, Bool.false_eq_true, ofS_eq, String.reduceEq, e_chain, r_chn, r_chmT, r_chmF, e_sl, e_oN, e_oS, r_opt, r_slc, e_mM0, r_mm0, e_mM1, r_mm1, e_enum, r_enmL, r_enmT, e_zip, r_zpLL, r_zpLT, r_zpTL, r_zpTT, e_rg1, dDiv_int, dMod_int, Int.reduceLT, m__law_is_step, l0, z0, i0, q1, q2, q3, q4, q5, qn, strIs, dIsi, D.ty, isiB, String.reduceBEq, Bool.or_false, Bool.false_or, Bool.or_self, Bool.and_false, Bool.false_and, Bool.and_true, Bool.true_and, Bool.or_true, Bool.true_or, Bool.and_self]
  · rw [stepB_non n _ (by simp)]; simp only [e_run, e_seq, e_nil, e_brk, e_cnt, e_if, e_ret, e_retN, e_set, e_for, e_test, e_not, e_and, e_or, e_notV, e_andV, e_orV, e_ifE, e_m1, e_m2, e_c, e_var, e_varB, e_evN, e_evC, e_tup, e_lst, e_call, e_items, e_yes, r_seqN, r_seqR, r_seqB, r_seqC, r_seqE, r_seqS, r_bifT, r_bifF, r_bifE, r_ret, r_retE, r_put, r_putE, r_outR, r_outN, r_outE, r_ap2, r_bol, r_neg, r_bl, r_cons, r_getv, r_getb, r_tupl, r_lstl, r_loop, view_val, Res.bind_ok, Res.bind_err, Res.bind_stuck, Res.calm_ok, List.getElem?_cons_zero, List.getElem?_cons_succ, List.set_cons_zero, List.set_cons_succ, List.map_cons, List.map_nil, List.cons_append, List.nil_append, List.append_nil, List.length_cons, List.length_nil, List.replicate_succ, List.replicate_zero, Nat.reduceSub, Nat.reduceAdd, Nat.zero_add, Nat.sub_self, dAdd_int, dSub_int, dLt_int, dLe_int, dGt_int, dGe_int, dNeg_int, dInt_bl, dInt_int, dEq_int, dNe_int, decide_true, decide_false, Bool.not_true, Bool.not_false, if_true, if_false, Bool.false_eq_true, ofS_eq, String.reduceEq, e_chain, r_chn, r_chmT, r_chmF, e_sl, e_oN, e_oS, r_opt, r_slc, e_mM0, r_mm0, e_mM1, r_mm1, e_enum, r_enmL, r_enmT, e_zip, r_zpLL, r_zpLT, r_zpTL, r_zpTT, e_rg1, dDiv_int, dMod_int, Int.reduceLT, m__law_is_step, dIsi, D.ty, isiB, String.reduceBEq, Bool.or_false, Bool.false_or, Bool.or_self, Bool.and_false, Bool.false_and, Bool.and_true, Bool.true_and, Bool.or_true, Bool.true_or, Bool.and_self]
theorem L_sheet_of (C : Fn → List D → Res D) (n m : Nat) (hm : m ≤ 60) (hS : ∀ d, gd m d = true → C ._law_is_step [d, .int n] = .ok (.bl (stepB n d))) (d : D) (h : gd m d = true) : runM 3 (m__law_is_sheet C) [d, .int n] = .ok (.bl (sheetB (stepB n) d)) := by
  rcases gd_ty h with rfl | ⟨b, rfl⟩ | ⟨i, rfl⟩ | ⟨x, rfl, ox, lx⟩ | ⟨xs, rfl⟩ | ⟨xs, rfl⟩
  · simp only [e_run, e_seq, e_nil, e_brk, e_cnt, e_if, e_ret, e_retN, e_set, e_for, e_test, e_not, e_and, e_or, e_notV, e_andV, e_orV, e_ifE, e_m1, e_m2, e_c, e_var, e_varB, e_evN, e_evC, e_tup, e_lst, e_call, e_items, e_yes, r_seqN, r_seqR, r_seqB, r_seqC, r_seqE, r_seqS, r_bifT, r_bifF, r_bifE, r_ret, r_retE, r_put, r_putE, r_outR, r_outN, r_outE, r_ap2, r_bol, r_neg, r_bl, r_cons, r_getv, r_getb, r_tupl, r_lstl, r_loop, view_val, Res.bind_ok, Res.bind_err, Res.bind_stuck, Res.calm_ok, List.getElem?_cons_zero, List.getElem?_cons_succ, List.set_cons_zero, List.set_cons_succ, List.map_cons, List.map_nil, List.cons_append, List.nil_append, List.append_nil, List.length_cons, List.length_nil, List.replicate_succ, List.replicate_zero, Nat.reduceSub, Nat.reduceAdd, Nat.zero_add, Nat.sub_self, dAdd_int, dSub_int, dLt_int, dLe_int, dGt_int, dGe_int, dNeg_int, dInt_bl, dInt_int, dEq_int, dNe_int, decide_true, decide_false, Bool.not_true, Bool.not_false, if_true, if_false, Bool.false_eq_true, ofS_eq, String.reduceEq, e_chain, r_chn, r_chmT, r_chmF, e_sl, e_oN, e_oS, r_opt, r_slc, e_mM0, r_mm0, e_mM1, r_mm1, e_enum, r_enmL, r_enmT, e_zip, r_zpLL, r_zpLT, r_zpTL, r_zpTT, e_rg1, dDiv_int, dMod_int, Int.reduceLT, m__law_is_sheet, sheetB, dIsi, D.ty, isiB, String.reduceBEq, Bool.or_false, Bool.false_or, Bool.or_self, Bool.and_false, Bool.false_and, Bool.and_true, Bool.true_and, Bool.or_true, Bool.true_or, Bool.and_self]
  · simp only [e_run, e_seq, e_nil, e_brk, e_cnt, e_if, e_ret, e_retN, e_set, e_for, e_test, e_not, e_and, e_or, e_notV, e_andV, e_orV, e_ifE, e_m1, e_m2, e_c, e_var, e_varB, e_evN, e_evC, e_tup, e_lst, e_call, e_items, e_yes, r_seqN, r_seqR, r_seqB, r_seqC, r_seqE, r_seqS, r_bifT, r_bifF, r_bifE, r_ret, r_retE, r_put, r_putE, r_outR, r_outN, r_outE, r_ap2, r_bol, r_neg, r_bl, r_cons, r_getv, r_getb, r_tupl, r_lstl, r_loop, view_val, Res.bind_ok, Res.bind_err, Res.bind_stuck, Res.calm_ok, List.getElem?_cons_zero, List.getElem?_cons_succ, List.set_cons_zero, List.set_cons_succ, List.map_cons, List.map_nil, List.cons_append, List.nil_append, List.append_nil, List.length_cons, List.length_nil, List.replicate_succ, List.replicate_zero, Nat.reduceSub, Nat.reduceAdd, Nat.zero_add, Nat.sub_self, dAdd_int, dSub_int, dLt_int, dLe_int, dGt_int, dGe_int, dNeg_int, dInt_bl, dInt_int, dEq_int, dNe_int, decide_true, decide_false, Bool.not_true, Bool.not_false, if_true, if_false, Bool.false_eq_true, ofS_eq, String.reduceEq, e_chain, r_chn, r_chmT, r_chmF, e_sl, e_oN, e_oS, r_opt, r_slc, e_mM0, r_mm0, e_mM1, r_mm1, e_enum, r_enmL, r_enmT, e_zip, r_zpLL, r_zpLT, r_zpTL, r_zpTT, e_rg1, dDiv_int, dMod_int, Int.reduceLT, m__law_is_sheet, sheetB, dIsi, D.ty, isiB, String.reduceBEq, Bool.or_false, Bool.false_or, Bool.or_self, Bool.and_false, Bool.false_and, Bool.and_true, Bool.true_and, Bool.or_true, Bool.true_or, Bool.and_self]
  · simp only [e_run, e_seq, e_nil, e_brk, e_cnt, e_if, e_ret, e_retN, e_set, e_for, e_test, e_not, e_and, e_or, e_notV, e_andV, e_orV, e_ifE, e_m1, e_m2, e_c, e_var, e_varB, e_evN, e_evC, e_tup, e_lst, e_call, e_items, e_yes, r_seqN, r_seqR, r_seqB, r_seqC, r_seqE, r_seqS, r_bifT, r_bifF, r_bifE, r_ret, r_retE, r_put, r_putE, r_outR, r_outN, r_outE, r_ap2, r_bol, r_neg, r_bl, r_cons, r_getv, r_getb, r_tupl, r_lstl, r_loop, view_val, Res.bind_ok, Res.bind_err, Res.bind_stuck, Res.calm_ok, List.getElem?_cons_zero, List.getElem?_cons_succ, List.set_cons_zero, List.set_cons_succ, List.map_cons, List.map_nil, List.cons_append, List.nil_append, List.append_nil, List.length_cons, List.length_nil, List.replicate_succ, List.replicate_zero, Nat.reduceSub, Nat.reduceAdd, Nat.zero_add, Nat.sub_self, dAdd_int, dSub_int, dLt_int, dLe_int, dGt_int, dGe_int, dNeg_int, dInt_bl, dInt_int, dEq_int, dNe_int, decide_true, decide_false, Bool.not_true, Bool.not_false, if_true, if_false, Bool.false_eq_true, ofS_eq, String.reduceEq, e_chain, r_chn, r_chmT, r_chmF, e_sl, e_oN, e_oS, r_opt, r_slc, e_mM0, r_mm0, e_mM1, r_mm1, e_enum, r_enmL, r_enmT, e_zip, r_zpLL, r_zpLT, r_zpTL, r_zpTT, e_rg1, dDiv_int, dMod_int, Int.reduceLT, m__law_is_sheet, sheetB, dIsi, D.ty, isiB, String.reduceBEq, Bool.or_false, Bool.false_or, Bool.or_self, Bool.and_false, Bool.false_and, Bool.and_true, Bool.true_and, Bool.or_true, Bool.true_or, Bool.and_self]
  · simp only [e_run, e_seq, e_nil, e_brk, e_cnt, e_if, e_ret, e_retN, e_set, e_for, e_test, e_not, e_and, e_or, e_notV, e_andV, e_orV, e_ifE, e_m1, e_m2, e_c, e_var, e_varB, e_evN, e_evC, e_tup, e_lst, e_call, e_items, e_yes, r_seqN, r_seqR, r_seqB, r_seqC, r_seqE, r_seqS, r_bifT, r_bifF, r_bifE, r_ret, r_retE, r_put, r_putE, r_outR, r_outN, r_outE, r_ap2, r_bol, r_neg, r_bl, r_cons, r_getv, r_getb, r_tupl, r_lstl, r_loop, view_val, Res.bind_ok, Res.bind_err, Res.bind_stuck, Res.calm_ok, List.getElem?_cons_zero, List.getElem?_cons_succ, List.set_cons_zero, List.set_cons_succ, List.map_cons, List.map_nil, List.cons_append, List.nil_append, List.append_nil, List.length_cons, List.length_nil, List.replicate_succ, List.replicate_zero, Nat.reduceSub, Nat.reduceAdd, Nat.zero_add, Nat.sub_self, dAdd_int, dSub_int, dLt_int, dLe_int, dGt_int, dGe_int, dNeg_int, dInt_bl, dInt_int, dEq_int, dNe_int, decide_true, decide_false, Bool.not_true, Bool.not_false, if_true, if_false, Bool.false_eq_true, ofS_eq, String.reduceEq, e_chain, r_chn, r_chmT, r_chmF, e_sl, e_oN, e_oS, r_opt, r_slc, e_mM0, r_mm0, e_mM1, r_mm1, e_enum, r_enmL, r_enmT, e_zip, r_zpLL, r_zpLT, r_zpTL, r_zpTT, e_rg1, dDiv_int, dMod_int, Int.reduceLT, m__law_is_sheet, sheetB, dIsi, D.ty, isiB, String.reduceBEq, Bool.or_false, Bool.false_or, Bool.or_self, Bool.and_false, Bool.false_and, Bool.and_true, Bool.true_and, Bool.or_true, Bool.true_or, Bool.and_self]
  · have ql : dLen (.tup xs) = .ok (.int xs.length) := rfl
    have qi : dItems (.tup xs) = .ok xs := rfl
    by_cases c : (12 : Int) < xs.length
    · have c' : ¬ xs.length ≤ 12 := by omega
      simp only [e_run, e_seq, e_nil, e_brk, e_cnt, e_if, e_ret, e_retN, e_set, e_for, e_test, e_not, e_and, e_or, e_notV, e_andV, e_orV, e_ifE, e_m1, e_m2, e_c, e_var, e_varB, e_evN, e_evC, e_tup, e_lst, e_call, e_items, e_yes, r_seqN, r_seqR, r_seqB, r_seqC, r_seqE, r_seqS, r_bifT, r_bifF, r_bifE, r_ret, r_retE, r_put, r_putE, r_outR, r_outN, r_outE, r_ap2, r_bol, r_neg, r_bl, r_cons, r_getv, r_getb, r_tupl, r_lstl, r_loop, view_val, Res.bind_ok, Res.bind_err, Res.bind_stuck, Res.calm_ok, List.getElem?_cons_zero, List.getElem?_cons_succ, List.set_cons_zero, List.set_cons_succ, List.map_cons, List.map_nil, List.cons_append, List.nil_append, List.append_nil, List.length_cons, List.length_nil, List.replicate_succ, List.replicate_zero, Nat.reduceSub, Nat.reduceAdd, Nat.zero_add, Nat.sub_self, dAdd_int, dSub_int, dLt_int, dLe_int, dGt_int, dGe_int, dNeg_int, dInt_bl, dInt_int, dEq_int, dNe_int, decide_true, decide_false, Bool.not_true, Bool.not_false, if_true, if_false, Bool.false_eq_true, ofS_eq, String.reduceEq, e_chain, r_chn, r_chmT, r_chmF, e_sl, e_oN, e_oS, r_opt, r_slc, e_mM0, r_mm0, e_mM1, r_mm1, e_enum, r_enmL, r_enmT, e_zip, r_zpLL, r_zpLT, r_zpTL, r_zpTT, e_rg1, dDiv_int, dMod_int, Int.reduceLT, m__law_is_sheet, sheetB, ql, c, c', dIsi, D.ty, isiB, String.reduceBEq, Bool.or_false, Bool.false_or, Bool.or_self, Bool.and_false, Bool.false_and, Bool.and_true, Bool.true_and, Bool.or_true, Bool.true_or, Bool.and_self]
    · have c' : xs.length ≤ 12 := by omega
      have e : m__law_is_sheet_c0 C [some (.val (.tup xs)), some (.val (.int n)), none] = .ok (.lst ((xs.filter fun x => !stepB n x).map id)) :=
        mLc_f (as := xs) (g := id) (by simp only [e_run, e_seq, e_nil, e_brk, e_cnt, e_if, e_ret, e_retN, e_set, e_for, e_test, e_not, e_and, e_or, e_notV, e_andV, e_orV, e_ifE, e_m1, e_m2, e_c, e_var, e_varB, e_evN, e_evC, e_tup, e_lst, e_call, e_items, e_yes, r_seqN, r_seqR, r_seqB, r_seqC, r_seqE, r_seqS, r_bifT, r_bifF, r_bifE, r_ret, r_retE, r_put, r_putE, r_outR, r_outN, r_outE, r_ap2, r_bol, r_neg, r_bl, r_cons, r_getv, r_getb, r_tupl, r_lstl, r_loop, view_val, Res.bind_ok, Res.bind_err, Res.bind_stuck, Res.calm_ok, List.getElem?_cons_zero, List.getElem?_cons_succ, List.set_cons_zero, List.set_cons_succ, List.map_cons, List.map_nil, List.cons_append, List.nil_append, List.append_nil, List.length_cons, List.length_nil, List.replicate_succ, List.replicate_zero, Nat.reduceSub, Nat.reduceAdd, Nat.zero_add, Nat.sub_self, dAdd_int, dSub_int, dLt_int, dLe_int, dGt_int, dGe_int, dNeg_int, dInt_bl, dInt_int, dEq_int, dNe_int, decide_true, decide_false, Bool.not_true, Bool.not_false, if_true, if_false, Bool.false_eq_true, ofS_eq, String.reduceEq, e_chain, r_chn, r_chmT, r_chmF, e_sl, e_oN, e_oS, r_opt, r_slc, e_mM0, r_mm0, e_mM1, r_mm1, e_enum, r_enmL, r_enmT, e_zip, r_zpLL, r_zpLT, r_zpTL, r_zpTT, e_rg1, dDiv_int, dMod_int, Int.reduceLT, qi, List.map_id]) (by omega) fun x hx => ⟨_, rfl, by
          have := hS x (gd_all h x hx)
          simp only [e_run, e_seq, e_nil, e_brk, e_cnt, e_if, e_ret, e_retN, e_set, e_for, e_test, e_not, e_and, e_or, e_notV, e_andV, e_orV, e_ifE, e_m1, e_m2, e_c, e_var, e_varB, e_evN, e_evC, e_tup, e_lst, e_call, e_items, e_yes, r_seqN, r_seqR, r_seqB, r_seqC, r_seqE, r_seqS, r_bifT, r_bifF, r_bifE, r_ret, r_retE, r_put, r_putE, r_outR, r_outN, r_outE, r_ap2, r_bol, r_neg, r_bl, r_cons, r_getv, r_getb, r_tupl, r_lstl, r_loop, view_val, Res.bind_ok, Res.bind_err, Res.bind_stuck, Res.calm_ok, List.getElem?_cons_zero, List.getElem?_cons_succ, List.set_cons_zero, List.set_cons_succ, List.map_cons, List.map_nil, List.cons_append, List.nil_append, List.append_nil, List.length_cons, List.length_nil, List.replicate_succ, List.replicate_zero, Nat.reduceSub, Nat.reduceAdd, Nat.zero_add, Nat.sub_self, dAdd_int, dSub_int, dLt_int, dLe_int, dGt_int, dGe_int, dNeg_int, dInt_bl, dInt_int, dEq_int, dNe_int, decide_true, decide_false, Bool.not_true, Bool.not_false, if_true, if_false, Bool.false_eq_true, ofS_eq, String.reduceEq, e_chain, r_chn, r_chmT, r_chmF, e_sl, e_oN, e_oS, r_opt, r_slc, e_mM0, r_mm0, e_mM1, r_mm1, e_enum, r_enmL, r_enmT, e_zip, r_zpLL, r_zpLT, r_zpTL, r_zpTT, e_rg1, dDiv_int, dMod_int, Int.reduceLT, wipeE, id, this], fun _ => by simp only [e_run, e_seq, e_nil, e_brk, e_cnt, e_if, e_ret, e_retN, e_set, e_for, e_test, e_not, e_and, e_or, e_notV, e_andV, e_orV, e_ifE, e_m1, e_m2, e_c, e_var, e_varB, e_evN, e_evC, e_tup, e_lst, e_call, e_items, e_yes, r_seqN, r_seqR, r_seqB, r_seqC, r_seqE, r_seqS, r_bifT, r_bifF, r_bifE, r_ret, r_retE, r_put, r_putE, r_outR, r_outN, r_outE, r_ap2, r_bol, r_neg, r_bl, r_cons, r_getv, r_getb, r_tupl, r_lstl, r_loop, view_val, Res.bind_ok, Res.bind_err, Res.bind_stuck, Res.calm_ok, List.getElem?_cons_zero, List.getElem?_cons_succ, List.set_cons_zero, List.set_cons_succ, List.map_cons, List.map_nil, List.cons_append, List.nil_append, List.append_nil, List.length_cons, List.length_nil, List.replicate_succ, List.replicate_zero, Nat.reduceSub, Nat.reduceAdd, Nat.zero_add, Nat.sub_self, dAdd_int, dSub_int, dLt_int, dLe_int, dGt_int, dGe_int, dNeg_int, dInt_bl, dInt_int, dEq_int, dNe_int, decide_true, decide_false, Bool.not_true, Bool.not_false, if_true, if_false, Bool.false_eq_true, ofS_eq, String.reduceEq, e_chain, r_chn, r_chmT, r_chmF, e_sl, e_oN, e_oS, r_opt, r_slc, e_mM0, r_mm0, e_mM1, r_mm1, e_enum, r_enmL, r_enmT, e_zip, r_zpLL, r_zpLT, r_zpTL, r_zpTT, e_rg1, dDiv_int, dMod_int, Int.reduceLT, wipeE, id]⟩
      rw [List.map_id] at e
      have q : dEq (.lst (xs.filter fun x => !stepB n x)) (.lst []) = .ok (.bl (xs.all (stepB n))) := by
        rw [dEq_nil (n := m) (fun y hy => gd_all h y (List.mem_filter.mp hy).1) (by omega), filter_none]
      simp only [e_run, e_seq, e_nil, e_brk, e_cnt, e_if, e_ret, e_retN, e_set, e_for, e_test, e_not, e_and, e_or, e_notV, e_andV, e_orV, e_ifE, e_m1, e_m2, e_c, e_var, e_varB, e_evN, e_evC, e_tup, e_lst, e_call, e_items, e_yes, r_seqN, r_seqR, r_seqB, r_seqC, r_seqE, r_seqS, r_bifT, r_bifF, r_bifE, r_ret, r_retE, r_put, r_putE, r_outR, r_outN, r_outE, r_ap2, r_bol, r_neg, r_bl, r_cons, r_getv, r_getb, r_tupl, r_lstl, r_loop, view_val, Res.bind_ok, Res.bind_err, Res.bind_stuck, Res.calm_ok, List.getElem?_cons_zero, List.getElem?_cons_succ, List.set_cons_zero, List.set_cons_succ, List.map_cons, List.map_nil, List.cons_append, List.nil_append, List.append_nil, List.length_cons, List.length_nil, List.replicate_succ, List.replicate_zero, Nat.reduceSub, Nat.reduceAdd, Nat.zero_add, Nat.sub_self, dAdd_int, dSub_int, dLt_int, dLe_int, dGt_int, dGe_int, dNeg_int, dInt_bl, dInt_int, dEq_int, dNe_int, decide_true, decide_false, Bool.not_true, Bool.not_false, if_true, if_false, Bool.false_eq_true, ofS_eq, String.reduceEq, e_chain, r_chn, r_chmT, r_chmF, e_sl, e_oN, e_oS, r_opt, r_slc, e_mM0, r_mm0, e_mM1, r_mm1, e_enum, r_enmL, r_enmT, e_zip, r_zpLL, r_zpLT, r_zpTL, r_zpTT, e_rg1, dDiv_int, dMod_int, Int.reduceLT, m__law_is_sheet, sheetB, ql, c, c', e, q, dIsi, D.ty, isiB, String.reduceBEq, Bool.or_false, Bool.false_or, Bool.or_self, Bool.and_false, Bool.false_and, Bool.and_true, Bool.true_and, Bool.or_true, Bool.true_or, Bool.and_self]
  · simp only [e_run, e_seq, e_nil, e_brk, e_cnt, e_if, e_ret, e_retN, e_set, e_for, e_test, e_not, e_and, e_or, e_notV, e_andV, e_orV, e_ifE, e_m1, e_m2, e_c, e_var, e_varB, e_evN, e_evC, e_tup, e_lst, e_call, e_items, e_yes, r_seqN, r_seqR, r_seqB, r_seqC, r_seqE, r_seqS, r_bifT, r_bifF, r_bifE, r_ret, r_retE, r_put, r_putE, r_outR, r_outN, r_outE, r_ap2, r_bol, r_neg, r_bl, r_cons, r_getv, r_getb, r_tupl, r_lstl, r_loop, view_val, Res.bind_ok, Res.bind_err, Res.bind_stuck, Res.calm_ok, List.getElem?_cons_zero, List.getElem?_cons_succ, List.set_cons_zero, List.set_cons_succ, List.map_cons, List.map_nil, List.cons_append, List.nil_append, List.append_nil, List.length_cons, List.length_nil, List.replicate_succ, List.replicate_zero, Nat.reduceSub, Nat.reduceAdd, Nat.zero_add, Nat.sub_self, dAdd_int, dSub_int, dLt_int, dLe_int, dGt_int, dGe_int, dNeg_int, dInt_bl, dInt_int, dEq_int, dNe_int, decide_true, decide_false, Bool.not_true, Bool.not_false, if_true, if_false, Bool.false_eq_true, ofS_eq, String.reduceEq, e_chain, r_chn, r_chmT, r_chmF, e_sl, e_oN, e_oS, r_opt, r_slc, e_mM0, r_mm0, e_mM1, r_mm1, e_enum, r_enmL, r_enmT, e_zip, r_zpLL, r_zpLT, r_zpTL, r_zpTT, e_rg1, dDiv_int, dMod_int, Int.reduceLT, m__law_is_sheet, sheetB, dIsi, D.ty, isiB, String.reduceBEq, Bool.or_false, Bool.false_or, Bool.or_self, Bool.and_false, Bool.false_and, Bool.and_true, Bool.true_and, Bool.or_true, Bool.true_or, Bool.and_self]
theorem L_sheet : ∀ (n k : Nat) {m : Nat} {d : D}, m ≤ 59 → gd m d = true → callF (k + 2 * n + 12) ._law_is_sheet [d, .int n] = .ok (.bl (sheetB (stepB n) d)) := by
  intro n
  induction n with
  | zero =>
    intro k m d hm h
    refine L_sheet_of (callF (k + 11)) 0 m (by omega) (fun d h => ?_) d h
    exact L_step_of (callF (k + 10)) 0 m (by omega) (fun d h => L_name (k + 9) h) (fun d lo hi h => L_whole (k + 9) h lo hi) (fun d h => L_lots (k + 7) h (by omega)) (fun d h => L_opts (k + 8) h (by omega) 4 (by decide)) (fun d h => L_sum 6 (k + 2) h (by omega)) (fun n' e => by omega) d h
  | succ n ih =>
    intro k m d hm h
    refine L_sheet_of (callF (k + 2 * n + 13)) (n + 1) m (by omega) (fun d h => ?_) d h
    exact L_step_of (callF (k + 2 * n + 12)) (n + 1) m (by omega) (fun d h => L_name (k + 2 * n + 11) h) (fun d lo hi h => L_whole (k + 2 * n + 11) h lo hi) (fun d h => L_lots (k + 2 * n + 9) h (by omega)) (fun d h => L_opts (k + 2 * n + 10) h (by omega) 4 (by decide)) (fun d h => L_sum 6 (k + 2 * n + 4) h (by omega))
      (fun n' e d h => by
        obtain rfl : n' = n := by omega
        exact ih k hm h) d h

def oddL : List D := [.int (-1), .int 0, .int 1, .int 50, .int 51, .int (-51), .bl true, .bl false, .non, .str "", .str "a", .str "abcd", .str "if", .str "plus", .str "A", .tup [], .lst [], .tup [.str "pay", .int 0],
  .tup [.str "show", .str "a", .int 2], .tup [.str "plus", .int 1, .int 2], .tup [.str "less", .str "a", .bl true], .tup [.tup [.int 0, .int 1]], .tup [.tup [.int 0, .int 0]], .tup [.tup [.int 0, .int 10]], .tup [.int 1, .int 0],
  .tup [.tup [.int 0, .int 1], .tup [.int 0, .int 2]], .tup [.int 2, .int 3], .tup [.str "if", .int 1, .tup [], .tup []], .tup [.str "ask", .int 0, .str "a", .tup []], .tup [.str "keep", .str "ask", .int 1], .tup [.tup [.str "pay", .str "a"]]]
theorem odd_gd : oddL.all (gd 3) = true := by decide +kernel
theorem c_odd (k : Nat) (n : Int) : ∃ d, gd 3 d = true ∧ callF (k + 1) ._law_odd [.int n] = .ok d := by
  have hj : (n % 31).toNat < oddL.length := by show (n % 31).toNat < 31; omega
  refine ⟨oddL[(n % 31).toNat], List.all_eq_true.mp odd_gd _ (List.getElem_mem hj), ?_⟩
  have e : (((n % 31).toNat : Nat) : Int) = n % 31 := by omega
  have q : dIx (.lst oddL) (.int (n % 31)) = .ok oddL[(n % 31).toNat] := by
    have := dIx_lstN (List.getElem?_eq_getElem hj)
    rw [e] at this
    exact this
  simp only [oddL] at q ⊢
  show runM 2 (m__law_odd (callF k)) _ = _
  have add : ∀ xs ys : List D, Nat.ble (xs.length + ys.length) 1000000 = true → dAdd (.lst xs) (.lst ys) = .ok (.lst (xs ++ ys)) := fun xs ys h => dAdd_lst (Nat.le_of_ble_eq_true h)
  simp only [e_run, e_seq, e_nil, e_brk, e_cnt, e_if, e_ret, e_retN, e_set, e_for, e_test, e_not, e_and, e_or, e_notV, e_andV, e_orV, e_ifE, e_m1, e_m2, e_c, e_var, e_varB, e_evN, e_evC, e_tup, e_lst, e_call, e_items, e_yes, r_seqN, r_seqR, r_seqB, r_seqC, r_seqE, r_seqS, r_bifT, r_bifF, r_bifE, r_ret, r_retE, r_put, r_putE, r_outR, r_outN, r_outE, r_ap2, r_bol, r_neg, r_bl, r_cons, r_getv, r_getb, r_tupl, r_lstl, r_loop, view_val, Res.bind_ok, Res.bind_err, Res.bind_stuck, Res.calm_ok, List.getElem?_cons_zero, List.getElem?_cons_succ, List.set_cons_zero, List.set_cons_succ, List.map_cons, List.map_nil, List.cons_append, List.nil_append, List.append_nil, List.length_cons, List.length_nil, List.replicate_succ, List.replicate_zero, Nat.reduceSub, Nat.reduceAdd, Nat.zero_add, Nat.sub_self, dAdd_int, dSub_int, dLt_int, dLe_int, dGt_int, dGe_int, dNeg_int, dInt_bl, dInt_int, dEq_int, dNe_int, decide_true, decide_false, Bool.not_true, Bool.not_false, if_true, if_false, Bool.false_eq_true, ofS_eq, String.reduceEq, e_chain, r_chn, r_chmT, r_chmF, e_sl, e_oN, e_oS, r_opt, r_slc, e_mM0, r_mm0, e_mM1, r_mm1, e_enum, r_enmL, r_enmT, e_zip, r_zpLL, r_zpLT, r_zpTL, r_zpTT, e_rg1, dDiv_int, dMod_int, Int.reduceLT, m__law_odd]
  rw [add _ _ rfl]
  simp only [e_run, e_seq, e_nil, e_brk, e_cnt, e_if, e_ret, e_retN, e_set, e_for, e_test, e_not, e_and, e_or, e_notV, e_andV, e_orV, e_ifE, e_m1, e_m2, e_c, e_var, e_varB, e_evN, e_evC, e_tup, e_lst, e_call, e_items, e_yes, r_seqN, r_seqR, r_seqB, r_seqC, r_seqE, r_seqS, r_bifT, r_bifF, r_bifE, r_ret, r_retE, r_put, r_putE, r_outR, r_outN, r_outE, r_ap2, r_bol, r_neg, r_bl, r_cons, r_getv, r_getb, r_tupl, r_lstl, r_loop, view_val, Res.bind_ok, Res.bind_err, Res.bind_stuck, Res.calm_ok, List.getElem?_cons_zero, List.getElem?_cons_succ, List.set_cons_zero, List.set_cons_succ, List.map_cons, List.map_nil, List.cons_append, List.nil_append, List.append_nil, List.length_cons, List.length_nil, List.replicate_succ, List.replicate_zero, Nat.reduceSub, Nat.reduceAdd, Nat.zero_add, Nat.sub_self, dAdd_int, dSub_int, dLt_int, dLe_int, dGt_int, dGe_int, dNeg_int, dInt_bl, dInt_int, dEq_int, dNe_int, decide_true, decide_false, Bool.not_true, Bool.not_false, if_true, if_false, Bool.false_eq_true, ofS_eq, String.reduceEq, e_chain, r_chn, r_chmT, r_chmF, e_sl, e_oN, e_oS, r_opt, r_slc, e_mM0, r_mm0, e_mM1, r_mm1, e_enum, r_enmL, r_enmT, e_zip, r_zpLL, r_zpLT, r_zpTL, r_zpTT, e_rg1, dDiv_int, dMod_int, Int.reduceLT]
  rw [add _ _ rfl]
  simp only [e_run, e_seq, e_nil, e_brk, e_cnt, e_if, e_ret, e_retN, e_set, e_for, e_test, e_not, e_and, e_or, e_notV, e_andV, e_orV, e_ifE, e_m1, e_m2, e_c, e_var, e_varB, e_evN, e_evC, e_tup, e_lst, e_call, e_items, e_yes, r_seqN, r_seqR, r_seqB, r_seqC, r_seqE, r_seqS, r_bifT, r_bifF, r_bifE, r_ret, r_retE, r_put, r_putE, r_outR, r_outN, r_outE, r_ap2, r_bol, r_neg, r_bl, r_cons, r_getv, r_getb, r_tupl, r_lstl, r_loop, view_val, Res.bind_ok, Res.bind_err, Res.bind_stuck, Res.calm_ok, List.getElem?_cons_zero, List.getElem?_cons_succ, List.set_cons_zero, List.set_cons_succ, List.map_cons, List.map_nil, List.cons_append, List.nil_append, List.append_nil, List.length_cons, List.length_nil, List.replicate_succ, List.replicate_zero, Nat.reduceSub, Nat.reduceAdd, Nat.zero_add, Nat.sub_self, dAdd_int, dSub_int, dLt_int, dLe_int, dGt_int, dGe_int, dNeg_int, dInt_bl, dInt_int, dEq_int, dNe_int, decide_true, decide_false, Bool.not_true, Bool.not_false, if_true, if_false, Bool.false_eq_true, ofS_eq, String.reduceEq, e_chain, r_chn, r_chmT, r_chmF, e_sl, e_oN, e_oS, r_opt, r_slc, e_mM0, r_mm0, e_mM1, r_mm1, e_enum, r_enmL, r_enmT, e_zip, r_zpLL, r_zpLT, r_zpTL, r_zpTT, e_rg1, dDiv_int, dMod_int, Int.reduceLT]
  rw [add _ _ rfl]
  simp only [e_run, e_seq, e_nil, e_brk, e_cnt, e_if, e_ret, e_retN, e_set, e_for, e_test, e_not, e_and, e_or, e_notV, e_andV, e_orV, e_ifE, e_m1, e_m2, e_c, e_var, e_varB, e_evN, e_evC, e_tup, e_lst, e_call, e_items, e_yes, r_seqN, r_seqR, r_seqB, r_seqC, r_seqE, r_seqS, r_bifT, r_bifF, r_bifE, r_ret, r_retE, r_put, r_putE, r_outR, r_outN, r_outE, r_ap2, r_bol, r_neg, r_bl, r_cons, r_getv, r_getb, r_tupl, r_lstl, r_loop, view_val, Res.bind_ok, Res.bind_err, Res.bind_stuck, Res.calm_ok, List.getElem?_cons_zero, List.getElem?_cons_succ, List.set_cons_zero, List.set_cons_succ, List.map_cons, List.map_nil, List.cons_append, List.nil_append, List.append_nil, List.length_cons, List.length_nil, List.replicate_succ, List.replicate_zero, Nat.reduceSub, Nat.reduceAdd, Nat.zero_add, Nat.sub_self, dAdd_int, dSub_int, dLt_int, dLe_int, dGt_int, dGe_int, dNeg_int, dInt_bl, dInt_int, dEq_int, dNe_int, decide_true, decide_false, Bool.not_true, Bool.not_false, if_true, if_false, Bool.false_eq_true, ofS_eq, String.reduceEq, e_chain, r_chn, r_chmT, r_chmF, e_sl, e_oN, e_oS, r_opt, r_slc, e_mM0, r_mm0, e_mM1, r_mm1, e_enum, r_enmL, r_enmT, e_zip, r_zpLL, r_zpLT, r_zpTL, r_zpTT, e_rg1, dDiv_int, dMod_int, Int.reduceLT, q]
theorem gd_take {m : Nat} {xs : List D} (h : ∀ x ∈ xs, gd m x = true) (j : Nat) : ∀ x ∈ xs.take j, gd m x = true := fun x hx => h x (List.mem_of_mem_take hx)
theorem seven (i : Int) (h0 : 0 ≤ i) (h1 : i < 7) : i = 0 ∨ i = 1 ∨ i = 2 ∨ i = 3 ∨ i = 4 ∨ i = 5 ∨ i = 6 := by omega
theorem dIx_cases {xs : List D} {i : Int} {m : Nat} (h0 : 0 ≤ i) (h1 : i < xs.length) (h : ∀ x ∈ xs, gd m x = true) : ∃ d, gd m d = true ∧ dIx (.lst xs) (.int i) = .ok d := by
  have hj : i.toNat < xs.length := by omega
  refine ⟨xs[i.toNat], h _ (List.getElem_mem hj), ?_⟩
  have := dIx_lstN (List.getElem?_eq_getElem hj)
  have e : ((i.toNat : Nat) : Int) = i := by omega
  rw [e] at this
  exact this
theorem c_spoilt_of (C : Fn → List D → Res D) (dp : Nat) (hO : ∀ n : Int, ∃ d, gd 3 d = true ∧ C ._law_odd [.int n] = .ok d)
    (hR : ∀ dq, dp = dq + 1 → ∀ (m : Nat) (d : D) (n : Int), 0 ≤ n → clean m d = true → ∃ d', gd (m + 3) d' = true ∧ C ._law_spoilt [d, .int n, .int dq] = .ok d')
    (m : Nat) (d : D) (n : Int) (hn : 0 ≤ n) (hc : clean m d = true) : ∃ d', gd (m + 3) d' = true ∧ runM 6 (m__law_spoilt C) [d, .int n, .int dp] = .ok d' := by
  obtain ⟨od, god, eo⟩ := hO (n / 6)
  have god' : gd (m + 3) od = true := gd_le god (by omega)
  have tl : dLen (.tup []) = .ok (.int 0) := rfl
  rcases clean_cases hc with ⟨i, rfl, i1, i2⟩ | ⟨x, rfl, hx⟩ | ⟨xs, m', rfl, rfl, hl, hx⟩
  · by_cases c : n / 6 % 2 = 0
    · have q1 : dStr (.int i) = .ok (.str (toString i : String)) := by simp only [dStr, if_pos (log_small (i := i) (by omega) (by omega))]
      obtain ⟨r, gr, er⟩ := dIx_cases (xs := [.str (toString i : String), .int (-i), .int (i + 1), .bl (decide (i = 1)), .int (i + 50), .int (i - 50)]) (i := n / 12 % 6) (m := m + 3) (by omega) (by simp; omega) (by
        intro y hy
        simp only [List.mem_cons, List.not_mem_nil, or_false] at hy
        rcases hy with rfl | rfl | rfl | rfl | rfl | rfl
        · exact toString_gd i1 i2
        all_goals rfl)
      refine ⟨r, gr, ?_⟩
      by_cases c1 : (0 : Int) < dp <;> simp only [e_run, e_seq, e_nil, e_brk, e_cnt, e_if, e_ret, e_retN, e_set, e_for, e_test, e_not, e_and, e_or, e_notV, e_andV, e_orV, e_ifE, e_m1, e_m2, e_c, e_var, e_varB, e_evN, e_evC, e_tup, e_lst, e_call, e_items, e_yes, r_seqN, r_seqR, r_seqB, r_seqC, r_seqE, r_seqS, r_bifT, r_bifF, r_bifE, r_ret, r_retE, r_put, r_putE, r_outR, r_outN, r_outE, r_ap2, r_bol, r_neg, r_bl, r_cons, r_getv, r_getb, r_tupl, r_lstl, r_loop, view_val, Res.bind_ok, Res.bind_err, Res.bind_stuck, Res.calm_ok, List.getElem?_cons_zero, List.getElem?_cons_succ, List.set_cons_zero, List.set_cons_succ, List.map_cons, List.map_nil, List.cons_append, List.nil_append, List.append_nil, List.length_cons, List.length_nil, List.replicate_succ, List.replicate_zero, Nat.reduceSub, Nat.reduceAdd, Nat.zero_add, Nat.sub_self, dAdd_int, dSub_int, dLt_int, dLe_int, dGt_int, dGe_int, dNeg_int, dInt_bl, dInt_int, dEq_int, dNe_int, decide_true, decide_false, Bool.not_true, Bool.not_false, if_true, if_false, Bool.false_eq_true, ofS_eq, String.reduceEq, e_chain, r_chn, r_chmT, r_chmF, e_sl, e_oN, e_oS, r_opt, r_slc, e_mM0, r_mm0, e_mM1, r_mm1, e_enum, r_enmL, r_enmT, e_zip, r_zpLL, r_zpLT, r_zpTL, r_zpTT, e_rg1, dDiv_int, dMod_int, Int.reduceLT, m__law_spoilt, c1, c, q1, er, dIsi, D.ty, isiB, String.reduceBEq, Bool.or_false, Bool.false_or, Bool.or_self, Bool.and_false, Bool.false_and, Bool.and_true, Bool.true_and, Bool.or_true, Bool.true_or, Bool.and_self]
    · refine ⟨od, god', ?_⟩
      by_cases c1 : (0 : Int) < dp <;> simp only [e_run, e_seq, e_nil, e_brk, e_cnt, e_if, e_ret, e_retN, e_set, e_for, e_test, e_not, e_and, e_or, e_notV, e_andV, e_orV, e_ifE, e_m1, e_m2, e_c, e_var, e_varB, e_evN, e_evC, e_tup, e_lst, e_call, e_items, e_yes, r_seqN, r_seqR, r_seqB, r_seqC, r_seqE, r_seqS, r_bifT, r_bifF, r_bifE, r_ret, r_retE, r_put, r_putE, r_outR, r_outN, r_outE, r_ap2, r_bol, r_neg, r_bl, r_cons, r_getv, r_getb, r_tupl, r_lstl, r_loop, view_val, Res.bind_ok, Res.bind_err, Res.bind_stuck, Res.calm_ok, List.getElem?_cons_zero, List.getElem?_cons_succ, List.set_cons_zero, List.set_cons_succ, List.map_cons, List.map_nil, List.cons_append, List.nil_append, List.append_nil, List.length_cons, List.length_nil, List.replicate_succ, List.replicate_zero, Nat.reduceSub, Nat.reduceAdd, Nat.zero_add, Nat.sub_self, dAdd_int, dSub_int, dLt_int, dLe_int, dGt_int, dGe_int, dNeg_int, dInt_bl, dInt_int, dEq_int, dNe_int, decide_true, decide_false, Bool.not_true, Bool.not_false, if_true, if_false, Bool.false_eq_true, ofS_eq, String.reduceEq, e_chain, r_chn, r_chmT, r_chmF, e_sl, e_oN, e_oS, r_opt, r_slc, e_mM0, r_mm0, e_mM1, r_mm1, e_enum, r_enmL, r_enmT, e_zip, r_zpLL, r_zpLT, r_zpTL, r_zpTT, e_rg1, dDiv_int, dMod_int, Int.reduceLT, m__law_spoilt, c1, c, eo, dIsi, D.ty, isiB, String.reduceBEq, Bool.or_false, Bool.false_or, Bool.or_self, Bool.and_false, Bool.false_and, Bool.and_true, Bool.true_and, Bool.or_true, Bool.true_or, Bool.and_self]
  · by_cases c : n / 6 % 2 = 0
    · have w := List.all_eq_true.mp words_more x hx
      simp only [Bool.and_eq_true, decide_eq_true_eq] at w
      obtain ⟨⟨⟨⟨w1, w2⟩, w3⟩, w4⟩, w5⟩ := w
      have z1 : ∀ y : Str, y.length ≤ 1 → dAdd (.str x) (.str y) = .ok (.str (x ++ y)) := fun y hy => by
        have : x.length + y.length ≤ sizeLine := by rw [sizeLine_eq]; omega
        simp only [dAdd, if_pos this]
      have q1 := z1 "a" (by decide)
      have q2 := z1 "1" (by decide)
      have q3 : dSl (.str x) none (some (-1)) = .ok (.str (cutS x none (some (-1)))) := by
        have : x.length ≤ sizeLine := by rw [sizeLine_eq]; omega
        simp only [dSl, if_pos this]
      have q4 : dUpper x = .ok (.str (Txt.upper x)) := by
        have : x.length ≤ 5592405 := by omega
        simp only [dUpper, if_pos this]
      obtain ⟨r, gr, er⟩ := dIx_cases (xs := [.str (x ++ "a"), .str (cutS x none (some (-1))), .str (Txt.upper x), .str (x ++ "1"), .str "times", .str "alike", .str "draw"]) (i := n / 12 % 7) (m := m + 3) (by omega) (by simp; omega) (by
        intro y hy
        simp only [List.mem_cons, List.not_mem_nil, or_false] at hy
        rcases hy with rfl | rfl | rfl | rfl | rfl | rfl | rfl
        · exact gd_le w1 (by omega)
        · exact gd_le w2 (by omega)
        · exact gd_le w3 (by omega)
        · exact gd_le w4 (by omega)
        · exact word_gd (by simp)
        · exact word_gd (by simp)
        · exact word_gd (by simp))
      refine ⟨r, gr, ?_⟩
      by_cases c1 : (0 : Int) < dp <;> simp only [e_run, e_seq, e_nil, e_brk, e_cnt, e_if, e_ret, e_retN, e_set, e_for, e_test, e_not, e_and, e_or, e_notV, e_andV, e_orV, e_ifE, e_m1, e_m2, e_c, e_var, e_varB, e_evN, e_evC, e_tup, e_lst, e_call, e_items, e_yes, r_seqN, r_seqR, r_seqB, r_seqC, r_seqE, r_seqS, r_bifT, r_bifF, r_bifE, r_ret, r_retE, r_put, r_putE, r_outR, r_outN, r_outE, r_ap2, r_bol, r_neg, r_bl, r_cons, r_getv, r_getb, r_tupl, r_lstl, r_loop, view_val, Res.bind_ok, Res.bind_err, Res.bind_stuck, Res.calm_ok, List.getElem?_cons_zero, List.getElem?_cons_succ, List.set_cons_zero, List.set_cons_succ, List.map_cons, List.map_nil, List.cons_append, List.nil_append, List.append_nil, List.length_cons, List.length_nil, List.replicate_succ, List.replicate_zero, Nat.reduceSub, Nat.reduceAdd, Nat.zero_add, Nat.sub_self, dAdd_int, dSub_int, dLt_int, dLe_int, dGt_int, dGe_int, dNeg_int, dInt_bl, dInt_int, dEq_int, dNe_int, decide_true, decide_false, Bool.not_true, Bool.not_false, if_true, if_false, Bool.false_eq_true, ofS_eq, String.reduceEq, e_chain, r_chn, r_chmT, r_chmF, e_sl, e_oN, e_oS, r_opt, r_slc, e_mM0, r_mm0, e_mM1, r_mm1, e_enum, r_enmL, r_enmT, e_zip, r_zpLL, r_zpLT, r_zpTL, r_zpTT, e_rg1, dDiv_int, dMod_int, Int.reduceLT, m__law_spoilt, c1, c, q1, q2, q3, q4, er, dIsi, D.ty, isiB, String.reduceBEq, Bool.or_false, Bool.false_or, Bool.or_self, Bool.and_false, Bool.false_and, Bool.and_true, Bool.true_and, Bool.or_true, Bool.true_or, Bool.and_self]
    · refine ⟨od, god', ?_⟩
      by_cases c1 : (0 : Int) < dp <;> simp only [e_run, e_seq, e_nil, e_brk, e_cnt, e_if, e_ret, e_retN, e_set, e_for, e_test, e_not, e_and, e_or, e_notV, e_andV, e_orV, e_ifE, e_m1, e_m2, e_c, e_var, e_varB, e_evN, e_evC, e_tup, e_lst, e_call, e_items, e_yes, r_seqN, r_seqR, r_seqB, r_seqC, r_seqE, r_seqS, r_bifT, r_bifF, r_bifE, r_ret, r_retE, r_put, r_putE, r_outR, r_outN, r_outE, r_ap2, r_bol, r_neg, r_bl, r_cons, r_getv, r_getb, r_tupl, r_lstl, r_loop, view_val, Res.bind_ok, Res.bind_err, Res.bind_stuck, Res.calm_ok, List.getElem?_cons_zero, List.getElem?_cons_succ, List.set_cons_zero, List.set_cons_succ, List.map_cons, List.map_nil, List.cons_append, List.nil_append, List.append_nil, List.length_cons, List.length_nil, List.replicate_succ, List.replicate_zero, Nat.reduceSub, Nat.reduceAdd, Nat.zero_add, Nat.sub_self, dAdd_int, dSub_int, dLt_int, dLe_int, dGt_int, dGe_int, dNeg_int, dInt_bl, dInt_int, dEq_int, dNe_int, decide_true, decide_false, Bool.not_true, Bool.not_false, if_true, if_false, Bool.false_eq_true, ofS_eq, String.reduceEq, e_chain, r_chn, r_chmT, r_chmF, e_sl, e_oN, e_oS, r_opt, r_slc, e_mM0, r_mm0, e_mM1, r_mm1, e_enum, r_enmL, r_enmT, e_zip, r_zpLL, r_zpLT, r_zpTL, r_zpTT, e_rg1, dDiv_int, dMod_int, Int.reduceLT, m__law_spoilt, c1, c, eo, dIsi, D.ty, isiB, String.reduceBEq, Bool.or_false, Bool.false_or, Bool.or_self, Bool.and_false, Bool.false_and, Bool.and_true, Bool.true_and, Bool.or_true, Bool.true_or, Bool.and_self]
  · by_cases hxs : xs = []
    · subst hxs
      refine ⟨od, god', ?_⟩
      have z : ¬ (0 : Int) < 0 := by decide
      by_cases c1 : (0 : Int) < dp <;> simp only [e_run, e_seq, e_nil, e_brk, e_cnt, e_if, e_ret, e_retN, e_set, e_for, e_test, e_not, e_and, e_or, e_notV, e_andV, e_orV, e_ifE, e_m1, e_m2, e_c, e_var, e_varB, e_evN, e_evC, e_tup, e_lst, e_call, e_items, e_yes, r_seqN, r_seqR, r_seqB, r_seqC, r_seqE, r_seqS, r_bifT, r_bifF, r_bifE, r_ret, r_retE, r_put, r_putE, r_outR, r_outN, r_outE, r_ap2, r_bol, r_neg, r_bl, r_cons, r_getv, r_getb, r_tupl, r_lstl, r_loop, view_val, Res.bind_ok, Res.bind_err, Res.bind_stuck, Res.calm_ok, List.getElem?_cons_zero, List.getElem?_cons_succ, List.set_cons_zero, List.set_cons_succ, List.map_cons, List.map_nil, List.cons_append, List.nil_append, List.append_nil, List.length_cons, List.length_nil, List.replicate_succ, List.replicate_zero, Nat.reduceSub, Nat.reduceAdd, Nat.zero_add, Nat.sub_self, dAdd_int, dSub_int, dLt_int, dLe_int, dGt_int, dGe_int, dNeg_int, dInt_bl, dInt_int, dEq_int, dNe_int, decide_true, decide_false, Bool.not_true, Bool.not_false, if_true, if_false, Bool.false_eq_true, ofS_eq, String.reduceEq, e_chain, r_chn, r_chmT, r_chmF, e_sl, e_oN, e_oS, r_opt, r_slc, e_mM0, r_mm0, e_mM1, r_mm1, e_enum, r_enmL, r_enmT, e_zip, r_zpLL, r_zpLT, r_zpTL, r_zpTT, e_rg1, dDiv_int, dMod_int, Int.reduceLT, m__law_spoilt, c1, tl, z, eo, dIsi, D.ty, isiB, String.reduceBEq, Bool.or_false, Bool.false_or, Bool.or_self, Bool.and_false, Bool.false_and, Bool.and_true, Bool.true_and, Bool.or_true, Bool.true_or, Bool.and_self]
    · have lp : 0 < xs.length := List.length_pos_iff.mpr hxs
      have ql : dLen (.tup xs) = .ok (.int xs.length) := rfl
      have lp' : (0 : Int) < xs.length := by omega
      have gx : ∀ x ∈ xs, gd (m' + 3) x = true := fun x h => gd_le (clean_gd (hx x h)) (by omega)
      by_cases A : (0 : Int) < dp ∧ 0 < n % 6
      · obtain ⟨dq, rfl⟩ : ∃ dq, dp = dq + 1 := ⟨dp - 1, by omega⟩
        have at0 : 0 ≤ n / 6 % (xs.length : Int) := Int.emod_nonneg _ (by omega)
        have at1 : n / 6 % (xs.length : Int) < xs.length := Int.emod_lt_of_pos _ (by omega)
        obtain ⟨j, ej⟩ : ∃ j : Nat, n / 6 % (xs.length : Int) = j := ⟨(n / 6 % (xs.length : Int)).toNat, by omega⟩
        have hj : j < xs.length := by omega
        obtain ⟨p, gp, ep⟩ := hR dq rfl m' xs[j] (n / 42) (by omega) (hx _ (List.getElem_mem hj))
        have q0 : dMod (.int (n / 6)) (.int xs.length) = .ok (.int j) := by rw [dMod_int lp', ej]
        have q1 : dIx (.tup xs) (.int (j : Nat)) = .ok xs[j] := dIx_tupN (List.getElem?_eq_getElem hj)
        have q2 : dSl (.tup xs) none (some (j : Int)) = .ok (.tup (xs.take j)) := by simp only [dSl, cut_to xs j (by omega)]
        have q3 : dSl (.tup xs) (some ((j : Int) + 1)) none = .ok (.tup (xs.drop (j + 1))) := by
          have e : (j : Int) + 1 = ((j + 1 : Nat) : Int) := by omega
          rw [e]
          simp only [dSl, cut_from xs (j + 1) (by omega)]
        have q4 : dAdd (.tup (xs.take j)) (.tup [p]) = .ok (.tup (xs.take j ++ [p])) := dAdd_tup (by simp; omega)
        have q5 : dAdd (.tup (xs.take j ++ [p])) (.tup (xs.drop (j + 1))) = .ok (.tup (xs.take j ++ [p] ++ xs.drop (j + 1))) := dAdd_tup (by simp; omega)
        have z2 : ((dq + 1 : Nat) : Int) - 1 = dq := by omega
        refine ⟨.tup (xs.take j ++ [p] ++ xs.drop (j + 1)), gd_mk (n := m' + 3) (by simp; omega) fun y hy => ?_, ?_⟩
        · simp only [List.mem_append, List.mem_singleton] at hy
          rcases hy with (hy | rfl) | hy
          · exact gx y (List.mem_of_mem_take hy)
          · exact gp
          · exact gx y (List.mem_of_mem_drop hy)
        · simp only [e_run, e_seq, e_nil, e_brk, e_cnt, e_if, e_ret, e_retN, e_set, e_for, e_test, e_not, e_and, e_or, e_notV, e_andV, e_orV, e_ifE, e_m1, e_m2, e_c, e_var, e_varB, e_evN, e_evC, e_tup, e_lst, e_call, e_items, e_yes, r_seqN, r_seqR, r_seqB, r_seqC, r_seqE, r_seqS, r_bifT, r_bifF, r_bifE, r_ret, r_retE, r_put, r_putE, r_outR, r_outN, r_outE, r_ap2, r_bol, r_neg, r_bl, r_cons, r_getv, r_getb, r_tupl, r_lstl, r_loop, view_val, Res.bind_ok, Res.bind_err, Res.bind_stuck, Res.calm_ok, List.getElem?_cons_zero, List.getElem?_cons_succ, List.set_cons_zero, List.set_cons_succ, List.map_cons, List.map_nil, List.cons_append, List.nil_append, List.append_nil, List.length_cons, List.length_nil, List.replicate_succ, List.replicate_zero, Nat.reduceSub, Nat.reduceAdd, Nat.zero_add, Nat.sub_self, dAdd_int, dSub_int, dLt_int, dLe_int, dGt_int, dGe_int, dNeg_int, dInt_bl, dInt_int, dEq_int, dNe_int, decide_true, decide_false, Bool.not_true, Bool.not_false, if_true, if_false, Bool.false_eq_true, ofS_eq, String.reduceEq, e_chain, r_chn, r_chmT, r_chmF, e_sl, e_oN, e_oS, r_opt, r_slc, e_mM0, r_mm0, e_mM1, r_mm1, e_enum, r_enmL, r_enmT, e_zip, r_zpLL, r_zpLT, r_zpTL, r_zpTT, e_rg1, dDiv_int, dMod_int, Int.reduceLT, m__law_spoilt, A.1, A.2, ql, lp', q0, q1, z2, ep, q2, q3, q4, q5, dIsi, D.ty, isiB, String.reduceBEq, Bool.or_false, Bool.false_or, Bool.or_self, Bool.and_false, Bool.false_and, Bool.and_true, Bool.true_and, Bool.or_true, Bool.true_or, Bool.and_self]
      · by_cases c : n / 6 % 2 = 0
        · have q1 : dList (.tup xs) = .ok (.lst xs) := rfl
          have q2 : ∀ lo hi, dSl (.tup xs) lo hi = .ok (.tup (cutD xs lo hi)) := fun _ _ => rfl
          have q3 : dAdd (.tup xs) (.tup (cutD xs (some (-1)) none)) = .ok (.tup (xs ++ cutD xs (some (-1)) none)) := dAdd_tup (by have := cut_len xs (some (-1)) none; omega)
          have q4 : dRevA (.tup xs) = .ok (.tup xs.reverse) := rfl
          obtain ⟨x4, g4, q5⟩ : ∃ y, gd (m' + 1 + 3) y = true ∧ dMulA (.tup xs) (.int 4) = .ok y := ⟨_, gd_mk (n := m' + 3) (by rw [rep_len]; exact Nat.le_trans (Nat.mul_le_mul_left _ hl) (by decide)) fun y hy => gx y (rep_mem hy), dMul_tup hxs (by decide) (by decide) (by omega)⟩
          obtain ⟨x13, g13, q6⟩ : ∃ y, gd (m' + 1 + 3) y = true ∧ dMulA (.tup xs) (.int 13) = .ok y := ⟨_, gd_mk (n := m' + 3) (by rw [rep_len]; exact Nat.le_trans (Nat.mul_le_mul_left _ hl) (by decide)) fun y hy => gx y (rep_mem hy), dMul_tup hxs (by decide) (by decide) (by omega)⟩
          obtain ⟨r, gr, er⟩ := dIx_cases (xs := [.lst xs, .tup (cutD xs none (some (-1))), .tup (xs ++ cutD xs (some (-1)) none), .tup (cutD xs (some 1) none), .tup xs.reverse, x4, x13]) (i := n / 12 % 7) (m := m' + 1 + 3) (by omega) (by simp; omega) (by
            intro y hy
            simp only [List.mem_cons, List.not_mem_nil, or_false] at hy
            rcases hy with rfl | rfl | rfl | rfl | rfl | rfl | rfl
            · exact gd_mkL (n := m' + 3) (by omega) gx
            · exact gd_mk (n := m' + 3) (by have := cut_len xs none (some (-1)); omega) fun y hy => gx y (cut_mem hy)
            · refine gd_mk (n := m' + 3) (by have := cut_len xs (some (-1)) none; simp; omega) fun y hy => ?_
              rcases List.mem_append.mp hy with hy | hy
              · exact gx y hy
              · exact gx y (cut_mem hy)
            · exact gd_mk (n := m' + 3) (by have := cut_len xs (some 1) none; omega) fun y hy => gx y (cut_mem hy)
            · exact gd_mk (n := m' + 3) (by simp; omega) fun y hy => gx y (List.mem_reverse.mp hy)
            · exact g4
            · exact g13)
          refine ⟨r, gr, ?_⟩
          by_cases c1 : (0 : Int) < dp
          · have c2 : ¬ 0 < n % 6 := fun h => A ⟨c1, h⟩
            simp only [e_run, e_seq, e_nil, e_brk, e_cnt, e_if, e_ret, e_retN, e_set, e_for, e_test, e_not, e_and, e_or, e_notV, e_andV, e_orV, e_ifE, e_m1, e_m2, e_c, e_var, e_varB, e_evN, e_evC, e_tup, e_lst, e_call, e_items, e_yes, r_seqN, r_seqR, r_seqB, r_seqC, r_seqE, r_seqS, r_bifT, r_bifF, r_bifE, r_ret, r_retE, r_put, r_putE, r_outR, r_outN, r_outE, r_ap2, r_bol, r_neg, r_bl, r_cons, r_getv, r_getb, r_tupl, r_lstl, r_loop, view_val, Res.bind_ok, Res.bind_err, Res.bind_stuck, Res.calm_ok, List.getElem?_cons_zero, List.getElem?_cons_succ, List.set_cons_zero, List.set_cons_succ, List.map_cons, List.map_nil, List.cons_append, List.nil_append, List.append_nil, List.length_cons, List.length_nil, List.replicate_succ, List.replicate_zero, Nat.reduceSub, Nat.reduceAdd, Nat.zero_add, Nat.sub_self, dAdd_int, dSub_int, dLt_int, dLe_int, dGt_int, dGe_int, dNeg_int, dInt_bl, dInt_int, dEq_int, dNe_int, decide_true, decide_false, Bool.not_true, Bool.not_false, if_true, if_false, Bool.false_eq_true, ofS_eq, String.reduceEq, e_chain, r_chn, r_chmT, r_chmF, e_sl, e_oN, e_oS, r_opt, r_slc, e_mM0, r_mm0, e_mM1, r_mm1, e_enum, r_enmL, r_enmT, e_zip, r_zpLL, r_zpLT, r_zpTL, r_zpTT, e_rg1, dDiv_int, dMod_int, Int.reduceLT, m__law_spoilt, c1, c2, c, ql, lp', q1, q2, q3, q4, q5, q6, er, dIsi, D.ty, isiB, String.reduceBEq, Bool.or_false, Bool.false_or, Bool.or_self, Bool.and_false, Bool.false_and, Bool.and_true, Bool.true_and, Bool.or_true, Bool.true_or, Bool.and_self]
          · simp only [e_run, e_seq, e_nil, e_brk, e_cnt, e_if, e_ret, e_retN, e_set, e_for, e_test, e_not, e_and, e_or, e_notV, e_andV, e_orV, e_ifE, e_m1, e_m2, e_c, e_var, e_varB, e_evN, e_evC, e_tup, e_lst, e_call, e_items, e_yes, r_seqN, r_seqR, r_seqB, r_seqC, r_seqE, r_seqS, r_bifT, r_bifF, r_bifE, r_ret, r_retE, r_put, r_putE, r_outR, r_outN, r_outE, r_ap2, r_bol, r_neg, r_bl, r_cons, r_getv, r_getb, r_tupl, r_lstl, r_loop, view_val, Res.bind_ok, Res.bind_err, Res.bind_stuck, Res.calm_ok, List.getElem?_cons_zero, List.getElem?_cons_succ, List.set_cons_zero, List.set_cons_succ, List.map_cons, List.map_nil, List.cons_append, List.nil_append, List.append_nil, List.length_cons, List.length_nil, List.replicate_succ, List.replicate_zero, Nat.reduceSub, Nat.reduceAdd, Nat.zero_add, Nat.sub_self, dAdd_int, dSub_int, dLt_int, dLe_int, dGt_int, dGe_int, dNeg_int, dInt_bl, dInt_int, dEq_int, dNe_int, decide_true, decide_false, Bool.not_true, Bool.not_false, if_true, if_false, Bool.false_eq_true, ofS_eq, String.reduceEq, e_chain, r_chn, r_chmT, r_chmF, e_sl, e_oN, e_oS, r_opt, r_slc, e_mM0, r_mm0, e_mM1, r_mm1, e_enum, r_enmL, r_enmT, e_zip, r_zpLL, r_zpLT, r_zpTL, r_zpTT, e_rg1, dDiv_int, dMod_int, Int.reduceLT, m__law_spoilt, c1, c, ql, lp', q1, q2, q3, q4, q5, q6, er, dIsi, D.ty, isiB, String.reduceBEq, Bool.or_false, Bool.false_or, Bool.or_self, Bool.and_false, Bool.false_and, Bool.and_true, Bool.true_and, Bool.or_true, Bool.true_or, Bool.and_self]
        · refine ⟨od, god', ?_⟩
          by_cases c1 : (0 : Int) < dp
          · have c2 : ¬ 0 < n % 6 := fun h => A ⟨c1, h⟩
            simp only [e_run, e_seq, e_nil, e_brk, e_cnt, e_if, e_ret, e_retN, e_set, e_for, e_test, e_not, e_and, e_or, e_notV, e_andV, e_orV, e_ifE, e_m1, e_m2, e_c, e_var, e_varB, e_evN, e_evC, e_tup, e_lst, e_call, e_items, e_yes, r_seqN, r_seqR, r_seqB, r_seqC, r_seqE, r_seqS, r_bifT, r_bifF, r_bifE, r_ret, r_retE, r_put, r_putE, r_outR, r_outN, r_outE, r_ap2, r_bol, r_neg, r_bl, r_cons, r_getv, r_getb, r_tupl, r_lstl, r_loop, view_val, Res.bind_ok, Res.bind_err, Res.bind_stuck, Res.calm_ok, List.getElem?_cons_zero, List.getElem?_cons_succ, List.set_cons_zero, List.set_cons_succ, List.map_cons, List.map_nil, List.cons_append, List.nil_append, List.append_nil, List.length_cons, List.length_nil, List.replicate_succ, List.replicate_zero, Nat.reduceSub, Nat.reduceAdd, Nat.zero_add, Nat.sub_self, dAdd_int, dSub_int, dLt_int, dLe_int, dGt_int, dGe_int, dNeg_int, dInt_bl, dInt_int, dEq_int, dNe_int, decide_true, decide_false, Bool.not_true, Bool.not_false, if_true, if_false, Bool.false_eq_true, ofS_eq, String.reduceEq, e_chain, r_chn, r_chmT, r_chmF, e_sl, e_oN, e_oS, r_opt, r_slc, e_mM0, r_mm0, e_mM1, r_mm1, e_enum, r_enmL, r_enmT, e_zip, r_zpLL, r_zpLT, r_zpTL, r_zpTT, e_rg1, dDiv_int, dMod_int, Int.reduceLT, m__law_spoilt, c1, c2, c, ql, lp', eo, dIsi, D.ty, isiB, String.reduceBEq, Bool.or_false, Bool.false_or, Bool.or_self, Bool.and_false, Bool.false_and, Bool.and_true, Bool.true_and, Bool.or_true, Bool.true_or, Bool.and_self]
          · simp only [e_run, e_seq, e_nil, e_brk, e_cnt, e_if, e_ret, e_retN, e_set, e_for, e_test, e_not, e_and, e_or, e_notV, e_andV, e_orV, e_ifE, e_m1, e_m2, e_c, e_var, e_varB, e_evN, e_evC, e_tup, e_lst, e_call, e_items, e_yes, r_seqN, r_seqR, r_seqB, r_seqC, r_seqE, r_seqS, r_bifT, r_bifF, r_bifE, r_ret, r_retE, r_put, r_putE, r_outR, r_outN, r_outE, r_ap2, r_bol, r_neg, r_bl, r_cons, r_getv, r_getb, r_tupl, r_lstl, r_loop, view_val, Res.bind_ok, Res.bind_err, Res.bind_stuck, Res.calm_ok, List.getElem?_cons_zero, List.getElem?_cons_succ, List.set_cons_zero, List.set_cons_succ, List.map_cons, List.map_nil, List.cons_append, List.nil_append, List.append_nil, List.length_cons, List.length_nil, List.replicate_succ, List.replicate_zero, Nat.reduceSub, Nat.reduceAdd, Nat.zero_add, Nat.sub_self, dAdd_int, dSub_int, dLt_int, dLe_int, dGt_int, dGe_int, dNeg_int, dInt_bl, dInt_int, dEq_int, dNe_int, decide_true, decide_false, Bool.not_true, Bool.not_false, if_true, if_false, Bool.false_eq_true, ofS_eq, String.reduceEq, e_chain, r_chn, r_chmT, r_chmF, e_sl, e_oN, e_oS, r_opt, r_slc, e_mM0, r_mm0, e_mM1, r_mm1, e_enum, r_enmL, r_enmT, e_zip, r_zpLL, r_zpLT, r_zpTL, r_zpTT, e_rg1, dDiv_int, dMod_int, Int.reduceLT, m__law_spoilt, c1, c, ql, lp', eo, dIsi, D.ty, isiB, String.reduceBEq, Bool.or_false, Bool.false_or, Bool.or_self, Bool.and_false, Bool.false_and, Bool.and_true, Bool.true_and, Bool.or_true, Bool.true_or, Bool.and_self]
theorem c_spoilt : ∀ (dp k : Nat) (m : Nat) (d : D) (n : Int), 0 ≤ n → clean m d = true → ∃ d', gd (m + 3) d' = true ∧ callF (k + dp + 2) ._law_spoilt [d, .int n, .int dp] = .ok d' := by
  intro dp
  induction dp with
  | zero => intro k m d n hn hc; exact c_spoilt_of (callF (k + 1)) 0 (fun n => c_odd k n) (fun dq e => by omega) m d n hn hc
  | succ dp ih =>
    intro k m d n hn hc
    exact c_spoilt_of (callF (k + dp + 2)) (dp + 1) (fun n => c_odd (k + dp + 1) n) (fun dq e m d n hn hc => by
      obtain rfl : dq = dp := by omega
      exact ih k m d n hn hc) m d n hn hc

theorem c_same (k : Nat) (a : Bool) : callF (k + 1) ._law_same [.bl a, .bl a] = .ok (.bl true) := by
  show runM 2 (m__law_same (callF k)) _ = _
  simp only [e_run, e_seq, e_nil, e_brk, e_cnt, e_if, e_ret, e_retN, e_set, e_for, e_test, e_not, e_and, e_or, e_notV, e_andV, e_orV, e_ifE, e_m1, e_m2, e_c, e_var, e_varB, e_evN, e_evC, e_tup, e_lst, e_call, e_items, e_yes, r_seqN, r_seqR, r_seqB, r_seqC, r_seqE, r_seqS, r_bifT, r_bifF, r_bifE, r_ret, r_retE, r_put, r_putE, r_outR, r_outN, r_outE, r_ap2, r_bol, r_neg, r_bl, r_cons, r_getv, r_getb, r_tupl, r_lstl, r_loop, view_val, Res.bind_ok, Res.bind_err, Res.bind_stuck, Res.calm_ok, List.getElem?_cons_zero, List.getElem?_cons_succ, List.set_cons_zero, List.set_cons_succ, List.map_cons, List.map_nil, List.cons_append, List.nil_append, List.append_nil, List.length_cons, List.length_nil, List.replicate_succ, List.replicate_zero, Nat.reduceSub, Nat.reduceAdd, Nat.zero_add, Nat.sub_self, dAdd_int, dSub_int, dLt_int, dLe_int, dGt_int, dGe_int, dNeg_int, dInt_bl, dInt_int, dEq_int, dNe_int, decide_true, decide_false, Bool.not_true, Bool.not_false, if_true, if_false, Bool.false_eq_true, ofS_eq, String.reduceEq, e_chain, r_chn, r_chmT, r_chmF, e_sl, e_oN, e_oS, r_opt, r_slc, e_mM0, r_mm0, e_mM1, r_mm1, e_enum, r_enmL, r_enmT, e_zip, r_zpLL, r_zpLT, r_zpTL, r_zpTT, e_rg1, dDiv_int, dMod_int, Int.reduceLT, m__law_same, dEq_bl, dIsi, D.ty, isiB, String.reduceBEq, Bool.or_false, Bool.false_or, Bool.or_self, Bool.and_false, Bool.false_and, Bool.and_true, Bool.true_and, Bool.or_true, Bool.true_or, Bool.and_self]
/-- a sheet within so many ifs -/
theorem law_loop (C : Fn → List D → Res D) (v0 v1 : D) (s4 s5 : Option O) : ∀ (cnt : Nat) (i : Int) (m : Nat) (d : D) (s3 : Option O), 1 ≤ m → gd m d = true → ∃ d' s3', gd (m + 2 * cnt) d' = true ∧ forM (bName 3) (m_law_b0 C) (rangeD i cnt) [some (.val v0), some (.val v1), some (.val d), s3, s4, s5] = .ok (.nx [some (.val v0), some (.val v1), some (.val d'), s3', s4, s5]) := by
  intro cnt
  induction cnt with
  | zero => intro i m d s3 _ h; exact ⟨d, s3, h, rfl⟩
  | succ cnt ih =>
    intro i m d s3 hm h
    have g : gd (m + 2) (.tup [.tup [.str "if", .str "a", d, .tup []]]) = true := by
      refine gd_mk (n := m + 1) (by simp) fun x hx => ?_
      simp only [List.mem_singleton] at hx
      subst hx
      refine gd_mk (n := m) (by simp) fun x hx => ?_
      simp only [List.mem_cons, List.not_mem_nil, or_false] at hx
      rcases hx with rfl | rfl | rfl | rfl
      · exact word_gd (by simp)
      · exact word_gd (by simp)
      · exact h
      · obtain ⟨m', rfl⟩ : ∃ m', m = m' + 1 := ⟨m - 1, by omega⟩
        rfl
    obtain ⟨d', s3', g', e⟩ := ih (i + 1) (m + 2) _ (some (.val (.int i))) (by omega) g
    refine ⟨d', s3', by have : m + 2 * (cnt + 1) = m + 2 + 2 * cnt := by omega
                        rw [this]; exact g', ?_⟩
    rw [rangeD_succ, for_name (ρ2 := [some (.val v0), some (.val v1), some (.val (.tup [.tup [.str "if", .str "a", d, .tup []]])), some (.val (.int i)), s4, s5]) (by simp only [e_run, e_seq, e_nil, e_brk, e_cnt, e_if, e_ret, e_retN, e_set, e_for, e_test, e_not, e_and, e_or, e_notV, e_andV, e_orV, e_ifE, e_m1, e_m2, e_c, e_var, e_varB, e_evN, e_evC, e_tup, e_lst, e_call, e_items, e_yes, r_seqN, r_seqR, r_seqB, r_seqC, r_seqE, r_seqS, r_bifT, r_bifF, r_bifE, r_ret, r_retE, r_put, r_putE, r_outR, r_outN, r_outE, r_ap2, r_bol, r_neg, r_bl, r_cons, r_getv, r_getb, r_tupl, r_lstl, r_loop, view_val, Res.bind_ok, Res.bind_err, Res.bind_stuck, Res.calm_ok, List.getElem?_cons_zero, List.getElem?_cons_succ, List.set_cons_zero, List.set_cons_succ, List.map_cons, List.map_nil, List.cons_append, List.nil_append, List.append_nil, List.length_cons, List.length_nil, List.replicate_succ, List.replicate_zero, Nat.reduceSub, Nat.reduceAdd, Nat.zero_add, Nat.sub_self, dAdd_int, dSub_int, dLt_int, dLe_int, dGt_int, dGe_int, dNeg_int, dInt_bl, dInt_int, dEq_int, dNe_int, decide_true, decide_false, Bool.not_true, Bool.not_false, if_true, if_false, Bool.false_eq_true, ofS_eq, String.reduceEq, e_chain, r_chn, r_chmT, r_chmF, e_sl, e_oN, e_oS, r_opt, r_slc, e_mM0, r_mm0, e_mM1, r_mm1, e_enum, r_enmL, r_enmT, e_zip, r_zpLL, r_zpLT, r_zpTL, r_zpTT, e_rg1, dDiv_int, dMod_int, Int.reduceLT, m_law_b0]), e]
theorem sp_at (dp : Int) (h0 : 0 ≤ dp) (h1 : dp ≤ 20) (m : Nat) (d : D) (n : Int) (hn : 0 ≤ n) (hc : clean m d = true) : ∃ d', gd (m + 3) d' = true ∧ callF 23 ._law_spoilt [d, .int n, .int dp] = .ok d' := by
  obtain ⟨d', g, e⟩ := c_spoilt dp.toNat (21 - dp.toNat) m d n hn hc
  have z : 21 - dp.toNat + dp.toNat + 2 = 23 := by omega
  have z2 : ((dp.toNat : Nat) : Int) = dp := by omega
  rw [z, z2] at e
  exact ⟨d', g, e⟩
theorem law_true (ns : List Int) (hns : ns.length ≤ 63) : callF 24 .law [.lst (ns.map D.int)] = .ok (.bl true) := by
  show runM 6 (m_law (callF 23)) _ = _
  have m0 : callF 23 ._law_mixed [.lst (ns.map D.int), .int 0] = .ok (.int (mixed ns 0)) := c_mixed 21 ns 0
  have m1 : callF 23 ._law_mixed [.lst (ns.map D.int), .int 1] = .ok (.int (mixed ns 1)) := c_mixed 21 ns 1
  have m2 : callF 23 ._law_mixed [.lst (ns.map D.int), .int 2] = .ok (.int (mixed ns 2)) := c_mixed 21 ns 2
  have m3 : callF 23 ._law_mixed [.lst (ns.map D.int), .int 3] = .ok (.int (mixed ns 3)) := c_mixed 21 ns 3
  have m4 : callF 23 ._law_mixed [.lst (ns.map D.int), .int 4] = .ok (.int (mixed ns 4)) := c_mixed 21 ns 4
  obtain ⟨sh, hsh, _, hlen, es⟩ := c_sheet 11 (mixed ns 0) (mixed_bd ns 0).1
  have es' : callF 23 ._law_sheet [.int (mixed ns 0)] = .ok (.tup (stepsD sh)) := es
  have cs := sheet_clean hsh
  have n0 := (mixed_bd ns 1).1
  generalize mixed ns 1 = n at m1 n0
  obtain ⟨d1, g1, t1⟩ : ∃ d1, gd 18 d1 = true ∧ ((n % 2 = 1 ∧ callF 23 ._law_spoilt [.tup (stepsD sh), .int (mixed ns 2), .int (n / 2 % 8)] = .ok d1) ∨ (¬ n % 2 = 1 ∧ d1 = .tup (stepsD sh))) := by
    by_cases c : n % 2 = 1
    · obtain ⟨d, g, e⟩ := sp_at (n / 2 % 8) (by omega) (by omega) 15 (.tup (stepsD sh)) (mixed ns 2) (mixed_bd ns 2).1 cs
      exact ⟨d, g, .inl ⟨c, e⟩⟩
    · exact ⟨_, gd_le (clean_gd cs) (by decide), .inr ⟨c, rfl⟩⟩
  obtain ⟨c, hc0, hc1, ec, ecb⟩ : ∃ c : Int, 0 ≤ c ∧ c ≤ 7 ∧ n / 16 % 8 * (if decide (n / 128 % 8 = 1) = true then (1 : Int) else 0) = c ∧ dMulA (.int (n / 16 % 8)) (.int (if decide (n / 128 % 8 = 1) = true then (1 : Int) else 0)) = .ok (.int c) := by
    refine ⟨_, ?_, ?_, rfl, dMul_int (mulOk_left (by omega) (by omega))⟩
    · by_cases h : n / 128 % 8 = 1 <;> simp [h] <;> omega
    · by_cases h : n / 128 % 8 = 1 <;> simp [h] <;> omega
  have qr : Res.rg1 (.ok (.int c)) = .ok (rangeD 0 c.toNat) := r_rg1 (by omega) (by omega)
  obtain ⟨d2, s3, g2, el⟩ := law_loop (callF 23) (.lst (ns.map D.int)) (.int n) none none c.toNat 0 18 d1 none (by decide) g1
  have p2 : callF 23 .is_sheet [d2] = _ := P_sheet 0 (by omega) g2
  have l2 : callF 23 ._law_is_sheet [d2, .int 5] = _ := L_sheet 5 1 (by omega) g2
  have w1 : dSl (.tup (stepsD sh)) none (some 1) = .ok (.tup ((stepsD sh).take 1)) := by
    have := cut_to (stepsD sh) 1 (by rw [stepsD_length]; exact hlen)
    simp only [dSl]
    exact congrArg (fun x => Res.ok (D.tup x)) this
  obtain ⟨d3, g3, w2⟩ : ∃ d3, gd 16 d3 = true ∧ dMulA (.tup ((stepsD sh).take 1)) (.int (11 + n / 256 % 3)) = .ok d3 := by
    have hl : ((stepsD sh).take 1).length ≤ 1 := by simp; omega
    refine ⟨_, gd_mk (n := 15) ?_ fun y hy => ?_, dMul_tup (fun e => ?_) (by omega) (by omega) (by omega)⟩
    · rw [rep_len]
      exact Nat.le_trans (Nat.mul_le_mul_left _ hl) (by omega)
    · have hy2 := List.mem_of_mem_take (rep_mem hy)
      obtain ⟨m, e, _, hx⟩ := clean_tup cs
      exact gd_le (clean_gd (hx y hy2)) (by omega)
    · have : ((stepsD sh).take 1).length = 1 := by rw [List.length_take, stepsD_length]; omega
      rw [e] at this; cases this
  have p3 : callF 23 .is_sheet [d3] = _ := P_sheet 0 (by decide) g3
  have l3 : callF 23 ._law_is_sheet [d3, .int 5] = _ := L_sheet 5 1 (by decide) g3
  obtain ⟨sm, hsm, em⟩ : ∃ sm : Sm, sm.Ok 8 ∧ callF 23 ._law_sum [.int (mixed ns 3), .int (n / 1024 % 9)] = .ok sm.d := by
    obtain ⟨s, h, e⟩ := c_sum (n / 1024 % 9).toNat (21 - (n / 1024 % 9).toNat) (mixed ns 3) (mixed_bd ns 3).1
    have z : 21 - (n / 1024 % 9).toNat + (n / 1024 % 9).toNat + 2 = 23 := by omega
    have z2 : (((n / 1024 % 9).toNat : Nat) : Int) = n / 1024 % 9 := by omega
    rw [z, z2] at e
    exact ⟨s, h.mono (by omega), e⟩
  obtain ⟨d4, g4, t4⟩ : ∃ d4, gd 11 d4 = true ∧ ((n / 9216 % 2 = 1 ∧ callF 23 ._law_spoilt [sm.d, .int (mixed ns 4), .int (n / 18432 % 6)] = .ok d4) ∨ (¬ n / 9216 % 2 = 1 ∧ d4 = sm.d)) := by
    by_cases c : n / 9216 % 2 = 1
    · obtain ⟨d, g, e⟩ := sp_at (n / 18432 % 6) (by omega) (by omega) 8 sm.d (mixed ns 4) (mixed_bd ns 4).1 (sm_clean hsm)
      exact ⟨d, g, .inl ⟨c, e⟩⟩
    · exact ⟨_, gd_le (clean_gd (sm_clean hsm)) (by decide), .inr ⟨c, rfl⟩⟩
  have p4 : callF 23 .is_sum [d4] = _ := P_isum 13 g4 (by decide)
  have l4 : callF 23 ._law_is_sum [d4, .int 6] = _ := L_sum 6 15 g4 (by decide)
  have sm' : ∀ a : Bool, callF 23 ._law_same [.bl a, .bl a] = .ok (.bl true) := fun a => c_same 22 a
  rcases t1 with ⟨c1, e1⟩ | ⟨c1, rfl⟩ <;> rcases t4 with ⟨c4, e4⟩ | ⟨c4, rfl⟩
  · simp only [e_run, e_seq, e_nil, e_brk, e_cnt, e_if, e_ret, e_retN, e_set, e_for, e_test, e_not, e_and, e_or, e_notV, e_andV, e_orV, e_ifE, e_m1, e_m2, e_c, e_var, e_varB, e_evN, e_evC, e_tup, e_lst, e_call, e_items, e_yes, r_seqN, r_seqR, r_seqB, r_seqC, r_seqE, r_seqS, r_bifT, r_bifF, r_bifE, r_ret, r_retE, r_put, r_putE, r_outR, r_outN, r_outE, r_ap2, r_bol, r_neg, r_bl, r_cons, r_getv, r_getb, r_tupl, r_lstl, r_loop, view_val, Res.bind_ok, Res.bind_err, Res.bind_stuck, Res.calm_ok, List.getElem?_cons_zero, List.getElem?_cons_succ, List.set_cons_zero, List.set_cons_succ, List.map_cons, List.map_nil, List.cons_append, List.nil_append, List.append_nil, List.length_cons, List.length_nil, List.replicate_succ, List.replicate_zero, Nat.reduceSub, Nat.reduceAdd, Nat.zero_add, Nat.sub_self, dAdd_int, dSub_int, dLt_int, dLe_int, dGt_int, dGe_int, dNeg_int, dInt_bl, dInt_int, dEq_int, dNe_int, decide_true, decide_false, Bool.not_true, Bool.not_false, if_true, if_false, Bool.false_eq_true, ofS_eq, String.reduceEq, e_chain, r_chn, r_chmT, r_chmF, e_sl, e_oN, e_oS, r_opt, r_slc, e_mM0, r_mm0, e_mM1, r_mm1, e_enum, r_enmL, r_enmT, e_zip, r_zpLL, r_zpLT, r_zpTL, r_zpTT, e_rg1, dDiv_int, dMod_int, Int.reduceLT, m_law, m0, m1, m2, m3, m4, es', c1, e1, ecb, qr, el, p2, l2, sm', w1, w2, p3, l3, em, c4, e4, p4, l4]
  · simp only [e_run, e_seq, e_nil, e_brk, e_cnt, e_if, e_ret, e_retN, e_set, e_for, e_test, e_not, e_and, e_or, e_notV, e_andV, e_orV, e_ifE, e_m1, e_m2, e_c, e_var, e_varB, e_evN, e_evC, e_tup, e_lst, e_call, e_items, e_yes, r_seqN, r_seqR, r_seqB, r_seqC, r_seqE, r_seqS, r_bifT, r_bifF, r_bifE, r_ret, r_retE, r_put, r_putE, r_outR, r_outN, r_outE, r_ap2, r_bol, r_neg, r_bl, r_cons, r_getv, r_getb, r_tupl, r_lstl, r_loop, view_val, Res.bind_ok, Res.bind_err, Res.bind_stuck, Res.calm_ok, List.getElem?_cons_zero, List.getElem?_cons_succ, List.set_cons_zero, List.set_cons_succ, List.map_cons, List.map_nil, List.cons_append, List.nil_append, List.append_nil, List.length_cons, List.length_nil, List.replicate_succ, List.replicate_zero, Nat.reduceSub, Nat.reduceAdd, Nat.zero_add, Nat.sub_self, dAdd_int, dSub_int, dLt_int, dLe_int, dGt_int, dGe_int, dNeg_int, dInt_bl, dInt_int, dEq_int, dNe_int, decide_true, decide_false, Bool.not_true, Bool.not_false, if_true, if_false, Bool.false_eq_true, ofS_eq, String.reduceEq, e_chain, r_chn, r_chmT, r_chmF, e_sl, e_oN, e_oS, r_opt, r_slc, e_mM0, r_mm0, e_mM1, r_mm1, e_enum, r_enmL, r_enmT, e_zip, r_zpLL, r_zpLT, r_zpTL, r_zpTT, e_rg1, dDiv_int, dMod_int, Int.reduceLT, m_law, m0, m1, m2, m3, m4, es', c1, e1, ecb, qr, el, p2, l2, sm', w1, w2, p3, l3, em, c4, p4, l4]
  · simp only [e_run, e_seq, e_nil, e_brk, e_cnt, e_if, e_ret, e_retN, e_set, e_for, e_test, e_not, e_and, e_or, e_notV, e_andV, e_orV, e_ifE, e_m1, e_m2, e_c, e_var, e_varB, e_evN, e_evC, e_tup, e_lst, e_call, e_items, e_yes, r_seqN, r_seqR, r_seqB, r_seqC, r_seqE, r_seqS, r_bifT, r_bifF, r_bifE, r_ret, r_retE, r_put, r_putE, r_outR, r_outN, r_outE, r_ap2, r_bol, r_neg, r_bl, r_cons, r_getv, r_getb, r_tupl, r_lstl, r_loop, view_val, Res.bind_ok, Res.bind_err, Res.bind_stuck, Res.calm_ok, List.getElem?_cons_zero, List.getElem?_cons_succ, List.set_cons_zero, List.set_cons_succ, List.map_cons, List.map_nil, List.cons_append, List.nil_append, List.append_nil, List.length_cons, List.length_nil, List.replicate_succ, List.replicate_zero, Nat.reduceSub, Nat.reduceAdd, Nat.zero_add, Nat.sub_self, dAdd_int, dSub_int, dLt_int, dLe_int, dGt_int, dGe_int, dNeg_int, dInt_bl, dInt_int, dEq_int, dNe_int, decide_true, decide_false, Bool.not_true, Bool.not_false, if_true, if_false, Bool.false_eq_true, ofS_eq, String.reduceEq, e_chain, r_chn, r_chmT, r_chmF, e_sl, e_oN, e_oS, r_opt, r_slc, e_mM0, r_mm0, e_mM1, r_mm1, e_enum, r_enmL, r_enmT, e_zip, r_zpLL, r_zpLT, r_zpTL, r_zpTT, e_rg1, dDiv_int, dMod_int, Int.reduceLT, m_law, m0, m1, m2, m3, m4, es', c1, ecb, qr, el, p2, l2, sm', w1, w2, p3, l3, em, c4, e4, p4, l4]
  · simp only [e_run, e_seq, e_nil, e_brk, e_cnt, e_if, e_ret, e_retN, e_set, e_for, e_test, e_not, e_and, e_or, e_notV, e_andV, e_orV, e_ifE, e_m1, e_m2, e_c, e_var, e_varB, e_evN, e_evC, e_tup, e_lst, e_call, e_items, e_yes, r_seqN, r_seqR, r_seqB, r_seqC, r_seqE, r_seqS, r_bifT, r_bifF, r_bifE, r_ret, r_retE, r_put, r_putE, r_outR, r_outN, r_outE, r_ap2, r_bol, r_neg, r_bl, r_cons, r_getv, r_getb, r_tupl, r_lstl, r_loop, view_val, Res.bind_ok, Res.bind_err, Res.bind_stuck, Res.calm_ok, List.getElem?_cons_zero, List.getElem?_cons_succ, List.set_cons_zero, List.set_cons_succ, List.map_cons, List.map_nil, List.cons_append, List.nil_append, List.append_nil, List.length_cons, List.length_nil, List.replicate_succ, List.replicate_zero, Nat.reduceSub, Nat.reduceAdd, Nat.zero_add, Nat.sub_self, dAdd_int, dSub_int, dLt_int, dLe_int, dGt_int, dGe_int, dNeg_int, dInt_bl, dInt_int, dEq_int, dNe_int, decide_true, decide_false, Bool.not_true, Bool.not_false, if_true, if_false, Bool.false_eq_true, ofS_eq, String.reduceEq, e_chain, r_chn, r_chmT, r_chmF, e_sl, e_oN, e_oS, r_opt, r_slc, e_mM0, r_mm0, e_mM1, r_mm1, e_enum, r_enmL, r_enmT, e_zip, r_zpLL, r_zpLT, r_zpTL, r_zpTT, e_rg1, dDiv_int, dMod_int, Int.reduceLT, m_law, m0, m1, m2, m3, m4, es', c1, ecb, qr, el, p2, l2, sm', w1, w2, p3, l3, em, c4, p4, l4]
abbrev kk : Nat := 24
/-- the law's promise, from what it computes -/
theorem law_end {K : PySem.W.Frag} (cl : Nat → Addr) (kk : Nat) (h : ∀ ns : List Int, ns.length ≤ 63 → callF kk .law [.lst (ns.map D.int)] = .ok (.bl true)) (H : Hp) (a : Addr) (ns : List Int) (hl : ns.length ≤ 63) (hO : Only H) (hS : SqL K H a (ns.map V.int)) :
    spF K cl 1 (callF kk .law) [.ref a] H (fun v _ => v = .bl true) fun _ _ _ => False := by
  refine ⟨rfl, H, [.lst (ns.map D.int)], Same.refl H, fun a u e _ => e, .cons (.lst hS (reps_int ns)) .nil, ?_⟩
  rw [h ns hl]
  intro F' H' v g r
  cases r
  rfl
end K01
open PySem PySem.W PyProof.Rows
set_option maxHeartbeats 0 in
theorem PySem.Challenge.cw_closedhand_k01_sheets_holds : PySem.Challenge.rw_closedhand_k01_sheets.Holds := by
  w_on; o_law; k_head; (case hw => w_witness2)
  k_fill
  refine L2.walk_ofK (l := PySem.Challenge.rw_closedhand_k01_sheets) (n := 63) (k := K01.kk) (x := "script") (CX := L2.CX0) (sp := fun K => CH.spF K (fun _ => 0) 1 (K01.callF K01.kk .law)) rfl (by decide) rfl ⟨rfl, by decide, by decide⟩ (fun w h Y => PySem.W.kIn_of Y) ?F (fun K H a ns hl hO hS => K01.law_end (fun _ => 0) K01.kk K01.law_true H a ns hl hO hS) (fun _ _ _ _ h => h)
  case F =>
    intro w mg fa h KX G hmg
    refine K01.all_mk (h := h) (fun _ => 0) K01.kk hmg ?E
    refine' K01.top_mk KX G ?a0 ?l0 ?c0 ?k0 ?a1 ?l1 ?c1 ?k1 ?a2 ?l2 ?c2 ?k2 ?a3 ?l3 ?c3 ?k3 ?a4 ?l4 ?c4 ?k4 ?a5 ?l5 ?c5 ?k5 ?a6 ?l6 ?c6 ?k6 ?a7 ?l7 ?c7 ?k7 ?a8 ?l8 ?c8 ?k8 ?a9 ?l9 ?c9 ?k9 ?a10 ?l10 ?c10 ?k10 ?a11 ?l11 ?c11 ?k11 ?a12 ?l12 ?c12 ?k12 ?a13 ?l13 ?c13 ?k13 ?a14 ?l14 ?c14 ?k14 ?a15 ?l15 ?c15 ?k15 ?a16 ?l16 ?c16 ?k16 ?a17 ?l17 ?c17 ?k17 ?a18 ?l18 ?c18 ?k18 ?a19 ?l19 ?c19 ?k19 ?a20 ?l20 ?c20 ?k20 ?a21 ?l21 ?c21 ?k21 ?a22 ?l22 ?c22 ?k22 ?a23 ?l23 ?c23 ?k23 ?a24 ?l24 ?c24 ?k24 ?a25 ?l25 ?c25 ?k25 ?a26 ?l26 ?c26 ?k26 ?a27 ?l27 ?c27 ?k27 ?a28 ?l28 ?c28 ?k28 ?a29 ?l29 ?c29 ?k29 ?a30 ?l30 ?c30 ?k30 ?a31 ?l31 ?c31 ?k31 ?ca_DEEP_SHEET ?ca_DEEP_SUM ?ca_GREATEST ?ca_LETTERS ?ca_LONGEST ?ca_STEPS ?cb_STEPS ?ca_SUMS ?cb_SUMS ?z_all ?z_bool ?z_enumerate ?z_int ?z_isinstance ?z_len ?z_list ?z_range ?z_str ?z_tuple ?z_zip
    (case a0 => k_is); (case l0 => k_is); (case c0 => k_is); (case k0 => k_is); (case a1 => k_is); (case l1 => k_is); (case c1 => k_is); (case k1 => k_is); (case a2 => k_is); (case l2 => k_is); (case c2 => k_is); (case k2 => k_is); (case a3 => k_is); (case l3 => k_is); (case c3 => k_is); (case k3 => k_is); (case a4 => k_is); (case l4 => k_is); (case c4 => k_is); (case k4 => k_is); (case a5 => k_is); (case l5 => k_is); (case c5 => k_is); (case k5 => k_is); (case a6 => k_is); (case l6 => k_is); (case c6 => k_is); (case k6 => k_is); (case a7 => k_is); (case l7 => k_is); (case c7 => k_is); (case k7 => k_is); (case a8 => k_is); (case l8 => k_is); (case c8 => k_is); (case k8 => k_is); (case a9 => k_is); (case l9 => k_is); (case c9 => k_is); (case k9 => k_is); (case a10 => k_is); (case l10 => k_is); (case c10 => k_is); (case k10 => k_is); (case a11 => k_is); (case l11 => k_is); (case c11 => k_is); (case k11 => k_is); (case a12 => k_is); (case l12 => k_is); (case c12 => k_is); (case k12 => k_is); (case a13 => k_is); (case l13 => k_is); (case c13 => k_is); (case k13 => k_is); (case a14 => k_is); (case l14 => k_is); (case c14 => k_is); (case k14 => k_is); (case a15 => k_is); (case l15 => k_is); (case c15 => k_is); (case k15 => k_is); (case a16 => k_is); (case l16 => k_is); (case c16 => k_is); (case k16 => k_is); (case a17 => k_is); (case l17 => k_is); (case c17 => k_is); (case k17 => k_is); (case a18 => k_is); (case l18 => k_is); (case c18 => k_is); (case k18 => k_is); (case a19 => k_is); (case l19 => k_is); (case c19 => k_is); (case k19 => k_is); (case a20 => k_is); (case l20 => k_is); (case c20 => k_is); (case k20 => k_is); (case a21 => k_is); (case l21 => k_is); (case c21 => k_is); (case k21 => k_is); (case a22 => k_is); (case l22 => k_is); (case c22 => k_is); (case k22 => k_is); (case a23 => k_is); (case l23 => k_is); (case c23 => k_is); (case k23 => k_is); (case a24 => k_is); (case l24 => k_is); (case c24 => k_is); (case k24 => k_is); (case a25 => k_is); (case l25 => k_is); (case c25 => k_is); (case k25 => k_is); (case a26 => k_is); (case l26 => k_is); (case c26 => k_is); (case k26 => k_is); (case a27 => k_is); (case l27 => k_is); (case c27 => k_is); (case k27 => k_is); (case a28 => k_is); (case l28 => k_is); (case c28 => k_is); (case k28 => k_is); (case a29 => k_is); (case l29 => k_is); (case c29 => k_is); (case k29 => k_is); (case a30 => k_is); (case l30 => k_is); (case c30 => k_is); (case k30 => k_is); (case a31 => k_is); (case l31 => k_is); (case c31 => k_is); (case k31 => k_is); (case ca_DEEP_SHEET => k_is); (case ca_DEEP_SUM => k_is); (case ca_GREATEST => k_is); (case ca_LETTERS => k_is); (case ca_LONGEST => k_is); (case ca_STEPS => k_is); (case cb_STEPS => k_is); (case ca_SUMS => k_is); (case cb_SUMS => k_is); (case z_all => k_is); (case z_bool => k_is); (case z_enumerate => k_is); (case z_int => k_is); (case z_isinstance => k_is); (case z_len => k_is); (case z_list => k_is); (case z_range => k_is); (case z_str => k_is); (case z_tuple => k_is); (case z_zip => k_is)

