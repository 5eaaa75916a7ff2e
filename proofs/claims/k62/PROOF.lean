import PyProof.Rows.All
import Wide.All
import OpenK.AllK
import Wide.FinOn
import HandS.ForExc
import HandS.CallSlots
import HandS.Defaults
import HandS.ForMost
import HandS.Style
import HandS.IsInst
import HandS.TupAny
import HandS.StrMore
import HandS.StrSplit
import HandS.RaiseMore
import HandS.Deep
import KE.DataEq
import HandS.Codes
import HandS.HeadEnd
import HandS.EndBits
import HandS.ExcInit
import HandS.ExcField
import HandS.TryOnly
import HandS.HeadHook1
import HandS.HeadHook2
import HandS.HeadHook3
import HandS.HeadHook4
import HandS.ExcOwn
import KE.GoesMore
import PyProof.EnumMake
import PyProof.Draws
import PyProof.EnumFor
import HandS.Iter
import OpenK.KMore
import HandS.Head0
import HandS.Head1
import HandS.Head2
import HandS.HeadWalk
import KE.KStateDown
import HandS.Ends
import PyProof.RulesMatch
import KE.KIsAll
import KE.KTryMore
import HandS.ExcIs
import PyProof.ReprLen
import PyProof.StrLawsChain
import PySem.Challenge.RW_pageskips_k62_whole_words_that_cannot_st
set_option Elab.async false
set_option linter.all false
set_option maxRecDepth 100000
/-! Mi1: data, owned things, what they stand for in the heap. -/
namespace Mi
open PySem PySem.Spec PyProof.Rows L2

/-- shared data: never changes any more -/
inductive D where
  | non | bl (b : Bool) | int (i : Int) | str (x : Str)
  | tup (ds : List D) | lst (ds : List D) | ins (c : Nat) (ds : List D) | exc (id : Nat) (arg : Option Int)
/-- what a slot holds: nothing known; shared data; a list, an instance .. of which no one else knows -/
inductive W where
  | gone | sh (d : D) | ol (ds : List D) | on (ws : List W) | ot (ws : List W) | oi (c : Nat) (ws : List W)
abbrev En := List W
/-- the program's classes: name, attributes in the order in which __init__ stores them -/
def lay : Nat → Str × List Str
  | 0 => ("WordReader", ["words_held", "place"])
  | 1 => ("Column", ["kept_rule", "page_size", "held", "page_ends", "page_notes", "pages_read", "deeds", "blocks"])
  | 2 => ("CappedColumn", ["kept_rule", "page_size", "held", "page_ends", "page_notes", "pages_read", "deeds", "blocks", "kept_cap"])
  | 3 => ("SortedColumn", ["kept_rule", "page_size", "held", "page_ends", "page_notes", "pages_read", "deeds", "blocks"])
  | 4 => ("SortedCappedColumn", ["kept_rule", "page_size", "held", "page_ends", "page_notes", "pages_read", "deeds", "blocks", "kept_cap"])
  | 5 => ("Console", ["column"])
  | _ => ("Wish", ["held_query", "held_lacking", "held_span", "parts"])
/-- its exceptions -/
def exNm : Nat → Str
  | 0 => "SkipError" | 1 => "InvalidText" | 2 => "InvalidValue" | 3 => "InvalidSpan" | 4 => "InvalidFilter" | 5 => "InvalidRule" | 6 => "InvalidPage" | 7 => "InvalidNote"
  | 8 => "InvalidColumn" | 9 => "InvalidIndex" | 10 => "InvalidNumber" | 11 => "InvalidCode" | 12 => "NoBlock" | 13 => "NothingToUndo" | 14 => "Full" | 15 => "InvalidCommand" | _ => "InvalidWords"
/-- an exception: its class, its field place -/
structure Ex where
  id : Nat
  arg : Option Int
inductive Out (α : Type) where
  | ok (a : α) (env : En) | err (x : Ex) (env : En) | stuck
def Out.bind {α β : Type} (o : Out α) (k : α → En → Out β) : Out β := match o with
  | .ok a e => k a e
  | .err x e => .err x e
  | .stuck => .stuck
/-- an operand: a value, or the slot in which it lies -/
inductive O where
  | val (w : W) | slot (i : Nat)
abbrev EM := En → Out O
abbrev AM := En → Out (List O)
abbrev BM := En → Out Bool

/-- a place in memory -/
abbrev Fp := Addr → Prop
/-- an exception's object, caught: its class, its dict -/
def HX (cls : Value) (d : Option Addr) (a : Addr) : HO := .ext fun h => ∃ (oe : Obj) (vs : Array Value), h.get? a = some oe ∧ Zc cls d oe ∧ oe.data = .fields vs
/-- there is a thing, and no exception's dict -/
def Lv (H : Hp) (b : Addr) : Prop := ∃ o, H b = some o ∧ ∀ fs, o ≠ .xd fs
theorem Lv.keep {H H' : Hp} {b : Addr} (h : Lv H b) (k : ∀ o, H b = some o → H' b = some o) : Lv H' b := let ⟨o, e, n⟩ := h; ⟨o, k o e, n⟩
theorem Lv.no {H : Hp} {b : Addr} (h : Lv H b) (e : H b = none) : False := by
  obtain ⟨o, q, _⟩ := h
  rw [e] at q
  cases q
abbrev Le (B H : Hp) : Prop := ∀ a o, B a = some o → H a = some o
theorem Le.refl (H : Hp) : Le H H := fun _ _ h => h
theorem Le.trans {A B C : Hp} (x : Le A B) (y : Le B C) : Le A C := fun a o h => y a o (x a o h)
theorem Le.rd {B H : Hp} {a : Addr} {u : HO} (l : Le B H) (h : Rd B a u) : Rd H a u := by
  rcases h with h | ⟨o, h⟩
  · exact .inl (l _ _ h)
  · exact .inr ⟨o, l _ _ h⟩
theorem Le.sqT {K : PySem.W.Frag} {B H : Hp} {a : Addr} {xs : List V} (l : Le B H) (h : SqT K B a xs) : SqT K H a xs := by
  rcases h with h | h
  · exact .inl (l.rd h)
  · exact .inr h
theorem Le.sqL {K : PySem.W.Frag} {B H : Hp} {a : Addr} {xs : List V} (l : Le B H) (h : SqL K B a xs) : SqL K H a xs := by
  rcases h with h | h
  · exact .inl (l.rd h)
  · exact .inr h

/-- a list that is read: tracked, frozen, or the written part's -/
def SqX (K : PySem.W.Frag) (H : Hp) (a : Addr) (xs : List V) : Prop :=
  Rd H a (.lst xs) ∨ ∃ (its : Array Value) (n : Nat), K.lookup a = some ({ cls := .type "list", data := .seq its n } : Obj) ∧ its.size ≤ sizeLine ∧ Vals xs its.toList
theorem SqX.sq {K : PySem.W.Frag} {H : Hp} {a : Addr} {xs : List V} (h : SqX K H a xs) : SqL K H a xs := by
  rcases h with h | ⟨its, n, hk, hz, r⟩
  · exact .inl h
  · exact .inr ⟨_, its, n, hk, rfl, rfl, rfl, hz, r⟩
theorem Le.sqX {K : PySem.W.Frag} {B H : Hp} {a : Addr} {xs : List V} (l : Le B H) (h : SqX K B a xs) : SqX K H a xs := by
  rcases h with h | h
  · exact .inl (l.rd h)
  · exact .inr h
section
variable (K : PySem.W.Frag) (mg : Str → Option Value)
/-- the shared datum d is the value v, over the shared heap B -/
inductive Rep (B : Hp) : D → V → Prop where
  | non : Rep B .non .non
  | bl (b : Bool) : Rep B (.bl b) (.bl b)
  | int (i : Int) : Rep B (.int i) (.int i)
  | str (x : Str) : Rep B (.str x) (.str x)
  | tup {a : Addr} {ds : List D} {vs : List V} (h : SqT K B a vs) (l : ds.length = vs.length) (r : ∀ (i : Nat) (d : D) (v : V), ds[i]? = some d → vs[i]? = some v → Rep B d v) : Rep B (.tup ds) (.ref a)
  | lst {a : Addr} {ds : List D} {vs : List V} (h : SqX K B a vs) (l : ds.length = vs.length) (r : ∀ (i : Nat) (d : D) (v : V), ds[i]? = some d → vs[i]? = some v → Rep B d v) : Rep B (.lst ds) (.ref a)
  | ins {a C dx : Addr} {c : Nat} {ds : List D} {fv : List (Str × V)} (h : B a = some (.ins C dx fv)) (hm : mg (lay c).1 = some (.ref C)) (l : ds.length = fv.length) (n : fv.map (·.1) = (lay c).2.take fv.length)
      (r : ∀ (i : Nat) (d : D) (q : Str × V), ds[i]? = some d → fv[i]? = some q → Rep B d q.2) : Rep B (.ins c ds) (.ref a)
  | exc {a : Addr} {cls : Value} {d : Option Addr} {id : Nat} {arg : Option Int} (h : B a = some (HX cls d a)) (hm : mg (exNm id) = some cls)
      (hd : match arg with | none => d = none | some n => ∃ dd, d = some dd ∧ B dd = some (.xd [("place", .int n)])) : Rep B (.exc id arg) (.ref a)
/-- a row of them -/
def Reps (B : Hp) (ds : List D) (vs : List V) : Prop := ds.length = vs.length ∧ ∀ (i : Nat) (d : D) (v : V), ds[i]? = some d → vs[i]? = some v → Rep K mg B d v
/-- the slot's content w is the value v; it owns the places F -/
inductive RepW (B H : Hp) : W → V → Fp → Prop where
  | gone {v : V} {F : Fp} (e : ∀ b, ¬ F b) : RepW B H .gone v F
  | sh {d : D} {v : V} {F : Fp} (h : Rep K mg B d v) (e : ∀ b, ¬ F b) : RepW B H (.sh d) v F
  | ol {a : Addr} {ds : List D} {vs : List V} {F : Fp} (h : H a = some (.lst vs)) (r : Reps K mg B ds vs) (e : ∀ b, F b ↔ b = a) : RepW B H (.ol ds) (.ref a) F
  | on {a : Addr} {ws : List W} {vs : List V} {fp : Nat → Fp} {F : Fp} (h : H a = some (.lst vs)) (l : ws.length = vs.length) (r : ∀ (i : Nat) (w : W) (v : V), ws[i]? = some w → vs[i]? = some v → RepW B H w v (fp i))
      (dj : ∀ i j b, fp i b → fp j b → i = j) (na : ∀ i, ¬ fp i a) (e : ∀ b, F b ↔ b = a ∨ ∃ i, i < ws.length ∧ fp i b) : RepW B H (.on ws) (.ref a) F
  | ot {a : Addr} {ws : List W} {vs : List V} {fp : Nat → Fp} {F : Fp} (h : H a = some (.tup vs)) (l : ws.length = vs.length) (r : ∀ (i : Nat) (w : W) (v : V), ws[i]? = some w → vs[i]? = some v → RepW B H w v (fp i))
      (dj : ∀ i j b, fp i b → fp j b → i = j) (na : ∀ i, ¬ fp i a) (e : ∀ b, F b ↔ b = a ∨ ∃ i, i < ws.length ∧ fp i b) : RepW B H (.ot ws) (.ref a) F
  | oi {a C dx : Addr} {c : Nat} {ws : List W} {fv : List (Str × V)} {fp : Nat → Fp} {F : Fp} (h : H a = some (.ins C dx fv)) (hd : H dx = some (.own a)) (hm : mg (lay c).1 = some (.ref C)) (l : ws.length = fv.length)
      (n : fv.map (·.1) = (lay c).2.take fv.length) (r : ∀ (i : Nat) (w : W) (q : Str × V), ws[i]? = some w → fv[i]? = some q → RepW B H w q.2 (fp i))
      (dj : ∀ i j b, fp i b → fp j b → i = j) (na : ∀ i, ¬ fp i a ∧ ¬ fp i dx) (e : ∀ b, F b ↔ b = a ∨ b = dx ∨ ∃ i, i < ws.length ∧ fp i b) : RepW B H (.oi c ws) (.ref a) F
end

section
variable {K : PySem.W.Frag} {mg : Str → Option Value} {B B' H H' : Hp}
theorem Rep.mono {d : D} {v : V} (h : Rep K mg B d v) (l : Le B B') : Rep K mg B' d v := by
  induction h with
  | non => exact .non
  | bl b => exact .bl b
  | int i => exact .int i
  | str x => exact .str x
  | tup h e r ih => exact .tup (l.sqT h) e ih
  | lst h e r ih => exact .lst (l.sqX h) e ih
  | ins h hm e n r ih => exact .ins (l _ _ h) hm e n ih
  | @exc a cls d id arg h hm hd =>
    refine .exc (l _ _ h) hm ?_
    cases arg with
    | none => exact hd
    | some n => exact let ⟨dd, e1, e2⟩ := hd; ⟨dd, e1, l _ _ e2⟩
theorem Reps.mono {ds : List D} {vs : List V} (h : Reps K mg B ds vs) (l : Le B B') : Reps K mg B' ds vs := ⟨h.1, fun i d v a b => (h.2 i d v a b).mono l⟩
theorem Reps.nil : Reps K mg B [] [] := ⟨rfl, fun i d v a => by simp at a⟩
theorem Reps.cons {d : D} {v : V} {ds : List D} {vs : List V} (h : Rep K mg B d v) (t : Reps K mg B ds vs) : Reps K mg B (d :: ds) (v :: vs) := by
  refine ⟨by simp [t.1], fun i e u a b => ?_⟩
  cases i with
  | zero =>
    simp at a b
    subst a b
    exact h
  | succ i =>
    simp at a b
    exact t.2 i e u a b
theorem Reps.uncons {d : D} {v : V} {ds : List D} {vs : List V} (h : Reps K mg B (d :: ds) (v :: vs)) : Rep K mg B d v ∧ Reps K mg B ds vs :=
  ⟨h.2 0 d v rfl rfl, by simpa using h.1, fun i e u a b => h.2 (i + 1) e u (by simpa using a) (by simpa using b)⟩
theorem Reps.get {ds : List D} {vs : List V} (h : Reps K mg B ds vs) {i : Nat} {d : D} (e : ds[i]? = some d) : ∃ v, vs[i]? = some v ∧ Rep K mg B d v := by
  obtain ⟨hi, _⟩ := List.getElem?_eq_some_iff.mp e
  have hv : i < vs.length := by rw [← h.1]; exact hi
  exact ⟨vs[i], List.getElem?_eq_getElem hv, h.2 i d _ e (List.getElem?_eq_getElem hv)⟩
theorem Reps.get' {ds : List D} {vs : List V} (h : Reps K mg B ds vs) {i : Nat} {v : V} (e : vs[i]? = some v) : ∃ d, ds[i]? = some d ∧ Rep K mg B d v := by
  obtain ⟨hi, _⟩ := List.getElem?_eq_some_iff.mp e
  have hv : i < ds.length := by rw [h.1]; exact hi
  exact ⟨ds[i], List.getElem?_eq_getElem hv, h.2 i _ v (List.getElem?_eq_getElem hv) e⟩
theorem Reps.append {ds es : List D} {vs us : List V} (h : Reps K mg B ds vs) (t : Reps K mg B es us) : Reps K mg B (ds ++ es) (vs ++ us) := by
  refine ⟨by simp [h.1, t.1], fun i d v a b => ?_⟩
  by_cases hi : i < ds.length
  · rw [List.getElem?_append_left hi] at a
    rw [List.getElem?_append_left (by rw [← h.1]; exact hi)] at b
    exact h.2 i d v a b
  · rw [List.getElem?_append_right (by omega)] at a
    rw [List.getElem?_append_right (by rw [← h.1]; omega), ← h.1] at b
    exact t.2 _ d v a b
theorem Reps.snoc {ds : List D} {vs : List V} {d : D} {v : V} (h : Reps K mg B ds vs) (r : Rep K mg B d v) : Reps K mg B (ds ++ [d]) (vs ++ [v]) := h.append (.cons r .nil)
theorem Reps.set {ds : List D} {vs : List V} {d : D} {v : V} (j : Nat) (h : Reps K mg B ds vs) (r : Rep K mg B d v) : Reps K mg B (ds.set j d) (vs.set j v) := by
  refine ⟨by simp [h.1], fun i e u a b => ?_⟩
  by_cases hij : j = i
  · subst hij
    rw [List.getElem?_set] at a b
    simp only [if_true] at a b
    split at a
    · split at b
      · cases a
        cases b
        exact r
      · cases b
    · cases a
  · rw [List.getElem?_set_ne hij] at a b
    exact h.2 i e u a b
theorem Reps.drop {ds : List D} {vs : List V} (n : Nat) (h : Reps K mg B ds vs) : Reps K mg B (ds.drop n) (vs.drop n) :=
  ⟨by simp [h.1], fun i d v a b => h.2 (n + i) d v (by rw [List.getElem?_drop] at a; exact a) (by rw [List.getElem?_drop] at b; exact b)⟩
theorem Reps.take {ds : List D} {vs : List V} (n : Nat) (h : Reps K mg B ds vs) : Reps K mg B (ds.take n) (vs.take n) := by
  refine ⟨by simp [h.1], fun i d v a b => ?_⟩
  rw [List.getElem?_take] at a b
  split at a
  · rename_i hi
    rw [if_pos hi] at b
    exact h.2 i d v a b
  · cases a
theorem Reps.reverse {ds : List D} {vs : List V} (h : Reps K mg B ds vs) : Reps K mg B ds.reverse vs.reverse := by
  refine ⟨by simp [h.1], fun i d v a b => ?_⟩
  obtain ⟨hi, _⟩ := List.getElem?_eq_some_iff.mp a
  have hi : i < ds.length := by simpa using hi
  rw [List.getElem?_reverse hi] at a
  rw [List.getElem?_reverse (by rw [← h.1]; exact hi), ← h.1] at b
  exact h.2 _ d v a b

/-- what a slot owns is there -/
theorem RepW.there {w : W} {v : V} {F : Fp} (h : RepW K mg B H w v F) : ∀ b, F b → Lv H b := by
  induction h with
  | gone e => exact fun b hb => absurd hb (e b)
  | sh h e => exact fun b hb => absurd hb (e b)
  | ol h r e =>
    intro b hb
    rw [(e b).mp hb]
    exact ⟨_, h, fun _ z => nomatch z⟩
  | on h l r dj na e ih =>
    intro b hb
    rcases (e b).mp hb with rfl | ⟨i, hi, hb⟩
    · exact ⟨_, h, fun _ z => nomatch z⟩
    · exact ih i _ _ (List.getElem?_eq_getElem hi) (List.getElem?_eq_getElem (by rw [← l]; exact hi)) b hb
  | ot h l r dj na e ih =>
    intro b hb
    rcases (e b).mp hb with rfl | ⟨i, hi, hb⟩
    · exact ⟨_, h, fun _ z => nomatch z⟩
    · exact ih i _ _ (List.getElem?_eq_getElem hi) (List.getElem?_eq_getElem (by rw [← l]; exact hi)) b hb
  | oi h hd hm l n r dj na e ih =>
    intro b hb
    rcases (e b).mp hb with rfl | rfl | ⟨i, hi, hb⟩
    · exact ⟨_, h, fun _ z => nomatch z⟩
    · exact ⟨_, hd, fun _ z => nomatch z⟩
    · exact ih i _ _ (List.getElem?_eq_getElem hi) (List.getElem?_eq_getElem (by rw [← l]; exact hi)) b hb
/-- the rest of the heap may change, more may be shared -/
theorem RepW.ext {w : W} {v : V} {F : Fp} (h : RepW K mg B H w v F) (l : Le B B') (k : ∀ b o, F b → H b = some o → H' b = some o) : RepW K mg B' H' w v F := by
  induction h with
  | gone e => exact .gone e
  | sh h e => exact .sh (h.mono l) e
  | ol h r e => exact .ol (k _ _ ((e _).mpr rfl) h) (r.mono l) e
  | on h l' r dj na e ih =>
    refine .on (k _ _ ((e _).mpr (.inl rfl)) h) l' (fun i w v a b => ih i w v a b fun c o hc => k c o ((e c).mpr (.inr ⟨i, ?_, hc⟩))) dj na e
    exact (List.getElem?_eq_some_iff.mp a).1
  | ot h l' r dj na e ih =>
    refine .ot (k _ _ ((e _).mpr (.inl rfl)) h) l' (fun i w v a b => ih i w v a b fun c o hc => k c o ((e c).mpr (.inr ⟨i, ?_, hc⟩))) dj na e
    exact (List.getElem?_eq_some_iff.mp a).1
  | oi h hd hm l' n r dj na e ih =>
    refine .oi (k _ _ ((e _).mpr (.inl rfl)) h) (k _ _ ((e _).mpr (.inr (.inl rfl))) hd) hm l' n (fun i w v a b => ih i w v a b fun c o hc => k c o ((e c).mpr (.inr (.inr ⟨i, ?_, hc⟩)))) dj na e
    exact (List.getElem?_eq_some_iff.mp a).1
/-- the places may be told otherwise -/
theorem RepW.fp {w : W} {v : V} {F G : Fp} (h : RepW K mg B H w v F) (e : ∀ b, F b ↔ G b) : RepW K mg B H w v G := by
  have : F = G := funext fun b => propext (e b)
  rw [← this]
  exact h
end

/-! ### frozen: an owned thing becomes shared -/
def shF : List W → Option (List D)
  | [] => some []
  | .sh d :: r => (shF r).map fun l => d :: l
  | _ :: _ => none
/-- what it is as data, if it may be shared -/
def W.fz : W → Option D
  | .sh d => some d
  | .ol ds => some (.lst ds)
  | .oi c ws => (shF ws).map (.ins c)
  | _ => none
theorem shF_eq : ∀ {ws : List W} {ds : List D}, shF ws = some ds → ws = ds.map .sh
  | [], ds, h => by cases h; rfl
  | w :: r, ds, h => by
    cases w with
    | sh d =>
      cases e : shF r with
      | none =>
        rw [shF, e] at h
        cases h
      | some l =>
        rw [shF, e] at h
        cases h
        rw [List.map_cons, ← shF_eq e]
    | _ => cases h
theorem shF_map (ds : List D) : shF (ds.map .sh) = some ds := by
  induction ds with
  | nil => rfl
  | cons d r ih => rw [List.map_cons, shF, ih] <;> rfl
section
variable {K : PySem.W.Frag} {mg : Str → Option Value} {B B' H H' : Hp}
theorem RepW.fz {w : W} {v : V} {F : Fp} {d : D} (h : RepW K mg B H w v F) (e : w.fz = some d) (l : Le B B') (k : ∀ b o, F b → H b = some o → B' b = some o) : Rep K mg B' d v := by
  cases h with
  | gone _ => cases e
  | sh h _ =>
    cases e
    exact h.mono l
  | ol h r ef =>
    cases e
    exact .lst (.inl (.inl (k _ _ ((ef _).mpr rfl) h))) (r.mono l).1 (r.mono l).2
  | on _ _ _ _ _ _ => cases e
  | ot _ _ _ _ _ _ => cases e
  | @oi a C dx c ws fv fp F h hd hm l' n r dj na ef =>
    have e1 : (shF ws).map (D.ins c) = some d := e
    cases q : shF ws with
    | none =>
      rw [q] at e1
      cases e1
    | some gs =>
      rw [q] at e1
      cases e1
      have ew := shF_eq q
      subst ew
      refine .ins (k _ _ ((ef _).mpr (.inl rfl)) h) hm (by simpa using l') n fun i d z hp hz => ?_
      have rr := r i (.sh d) z (by rw [List.getElem?_map, hp]; rfl) hz
      cases rr with
      | sh rr _ => exact rr.mono l
end

/-! ### the slots -/
section
variable (K : PySem.W.Frag) (mg : Str → Option Value)
/-- the slots' contents env are the values σ; each owns fp i -/
structure Sim (B H : Hp) (env : En) (σ : L2.St) (fp : Nat → Fp) : Prop where
  len : env.length = σ.length
  le : Le B H
  rep : ∀ (i : Nat) (w : W), env[i]? = some w → ∃ v, (w ≠ .gone → σ[i]? = some (some v)) ∧ RepW K mg B H w v (fp i)
  out : ∀ i, env.length ≤ i → ∀ b, ¬ fp i b
  dj : ∀ i j b, fp i b → fp j b → i = j
  nb : ∀ i b, fp i b → B b = none
end
/-- all that the slots own -/
def All (fp : Nat → Fp) : Fp := fun b => ∃ i, fp i b
/-- slot i owns F, the others what they owned -/
def fpS (fp : Nat → Fp) (i : Nat) (F : Fp) : Nat → Fp := fun j => if j = i then F else fp j
theorem fpS_same {fp : Nat → Fp} {i : Nat} {F : Fp} : fpS fp i F i = F := if_pos rfl
theorem fpS_ne {fp : Nat → Fp} {i j : Nat} {F : Fp} (h : j ≠ i) : fpS fp i F j = fp j := if_neg h
def Or2 (F G : Fp) : Fp := fun b => F b ∨ G b
def Nil : Fp := fun _ => False
theorem nil_no (b : Addr) : ¬ Nil b := fun h => h
/-- nothing is there, or an exception's dict -/
def Nw (H : Hp) (a : Addr) : Prop := ∀ u, H a = some u → ∃ fs, u = .xd fs
theorem Nw.of {H : Hp} {a : Addr} (h : H a = none) : Nw H a := fun u e => by
  rw [h] at e
  cases e
theorem Lv.nw {H : Hp} {a : Addr} (l : Lv H a) (h : Nw H a) : False :=
  let ⟨o, e, n⟩ := l
  let ⟨fs, z⟩ := h o e
  n fs z
/-- from a heap to a later one: what was not owned stays; what is new was owned or is new -/
structure Grow (B B' H H' : Hp) (F F' : Fp) : Prop where
  keep : ∀ a o, ¬ F a → H a = some o → H' a = some o
  bk : Le B B'
  nw : ∀ a o, B' a = some o → B a = some o ∨ F a ∨ Nw H a
  fw : ∀ a, F' a → F a ∨ H a = none
section
variable {B B1 B2 H H1 H2 : Hp} {F F1 F2 G : Fp}
theorem Grow.refl (B H : Hp) (F : Fp) : Grow B B H H F F := ⟨fun _ _ _ h => h, Le.refl B, fun _ _ h => .inl h, fun _ h => .inl h⟩
theorem Grow.trans (x : Grow B B1 H H1 F F1) (y : Grow B1 B2 H1 H2 F1 F2) : Grow B B2 H H2 F F2 := by
  have nf : ∀ a o, ¬ F a → H a = some o → ¬ F1 a := fun a o n h f => by
    rcases x.fw a f with z | z
    · exact n z
    · rw [h] at z; cases z
  have hn : ∀ a, F1 a ∨ H1 a = none → F a ∨ H a = none := fun a h => by
    rcases h with h | h
    · exact x.fw a h
    · by_cases f : F a
      · exact .inl f
      · right
        cases q : H a with
        | none => rfl
        | some o =>
          rw [x.keep a o f q] at h
          cases h
  refine ⟨fun a o n h => y.keep a o (nf a o n h) (x.keep a o n h), x.bk.trans y.bk, fun a o h => ?_, fun a h => hn a (y.fw a h)⟩
  rcases y.nw a o h with h | h | h
  · exact x.nw a o h
  · exact .inr ((hn a (.inl h)).imp id Nw.of)
  · by_cases f : F a
    · exact .inr (.inl f)
    · exact .inr (.inr fun u e => h u (x.keep a u f e))
theorem Grow.less (x : Grow B B1 H H1 F F1) (h : ∀ a, F2 a → F1 a) : Grow B B1 H H1 F F2 := ⟨x.keep, x.bk, x.nw, fun a f => x.fw a (h a f)⟩
theorem Grow.more (x : Grow B B1 H H1 F F1) (h : ∀ a, F a → F2 a) : Grow B B1 H H1 F2 F1 :=
  ⟨fun a o n e => x.keep a o (fun f => n (h a f)) e, x.bk, fun a o e => (x.nw a o e).imp id fun z => z.imp (h a) id, fun a f => (x.fw a f).imp (h a) id⟩
/-- beside what else is owned -/
theorem Grow.frame (x : Grow B B1 H H1 F F1) (G : Fp) : Grow B B1 H H1 (Or2 F G) (Or2 F1 G) :=
  ⟨fun a o n e => x.keep a o (fun f => n (.inl f)) e, x.bk, fun a o e => (x.nw a o e).imp id fun z => z.imp .inl id, fun a f => f.elim (fun f => (x.fw a f).imp .inl id) fun f => .inl (.inr f)⟩
/-- what is owned beside stays, stays unshared and apart -/
theorem Grow.beside (x : Grow B B1 H H1 F F1) (hG : ∀ a, G a → ¬ F a) (hB : ∀ a, G a → B a = none) (ht : ∀ a, G a → Lv H a) : (∀ a o, G a → H a = some o → H1 a = some o) ∧ (∀ a, G a → B1 a = none) ∧ ∀ a, G a → ¬ F1 a := by
  refine ⟨fun a o g h => x.keep a o (hG a g) h, fun a g => ?_, fun a g f => ?_⟩
  · cases q : B1 a with
    | none => rfl
    | some o =>
      rcases x.nw a o q with h | h | h
      · rw [hB a g] at h; cases h
      · exact absurd h (hG a g)
      · exact ((ht a g).nw h).elim
  · rcases x.fw a f with h | h
    · exact hG a g h
    · exact ((ht a g).no h).elim
end
section
variable {K : PySem.W.Frag} {mg : Str → Option Value} {B B' H H' : Hp} {env : En} {σ : L2.St} {fp : Nat → Fp}
theorem Sim.there (S : Sim K mg B H env σ fp) : ∀ b, All fp b → Lv H b := fun b ⟨i, hb⟩ => by
  by_cases hi : i < env.length
  · obtain ⟨v, _, r⟩ := S.rep i _ (List.getElem?_eq_getElem hi)
    exact r.there b hb
  · exact absurd hb (S.out i (by omega) b)
theorem Sim.nball (S : Sim K mg B H env σ fp) : ∀ b, All fp b → B b = none := fun b ⟨i, h⟩ => S.nb i b h
theorem Sim.lt (S : Sim K mg B H env σ fp) {i : Nat} {w : W} (e : env[i]? = some w) : i < σ.length := by
  rw [← S.len]
  exact (List.getElem?_eq_some_iff.mp e).1
/-- what lies beside the slots changes -/
theorem Sim.ext (S : Sim K mg B H env σ fp) (l : Le B B') (l' : Le B' H') (k : ∀ b o, All fp b → H b = some o → H' b = some o) (nb : ∀ b, All fp b → B' b = none) : Sim K mg B' H' env σ fp :=
  ⟨S.len, l', fun i w e => let ⟨v, h, r⟩ := S.rep i w e; ⟨v, h, r.ext l fun b o f => k b o ⟨i, f⟩⟩, S.out, S.dj, fun i b f => nb b ⟨i, f⟩⟩
/-- slot i is given a new content -/
theorem Sim.set (S : Sim K mg B H env σ fp) {i : Nat} {w : W} {v : V} {F : Fp} (hi : i < env.length) (r : RepW K mg B H w v F) (nb : ∀ b, F b → B b = none) (dj : ∀ b, F b → ∀ j, j ≠ i → ¬ fp j b) :
    Sim K mg B H (env.set i w) (σ.set i (some v)) (fpS fp i F) := by
  have hiσ : i < σ.length := by rw [← S.len]; exact hi
  refine ⟨by simp [S.len], S.le, fun j u e => ?_, fun j hj b => ?_, fun j k b hj hk => ?_, fun j b hj => ?_⟩
  · by_cases hji : j = i
    · subst hji
      rw [List.getElem?_set_self hi] at e
      cases e
      exact ⟨v, fun _ => by rw [List.getElem?_set_self hiσ], by rw [fpS_same]; exact r⟩
    · rw [List.getElem?_set_ne (Ne.symm hji)] at e
      obtain ⟨v', h, r'⟩ := S.rep j u e
      exact ⟨v', fun n => by rw [List.getElem?_set_ne (Ne.symm hji)]; exact h n, by rw [fpS_ne hji]; exact r'⟩
  · rw [List.length_set] at hj
    rw [fpS_ne (by omega)]
    exact S.out j hj b
  · by_cases a : j = i
    · by_cases c : k = i
      · rw [a, c]
      · rw [a, fpS_same] at hj
        rw [fpS_ne c] at hk
        exact absurd hk (dj b hj k c)
    · by_cases c : k = i
      · rw [fpS_ne a] at hj
        rw [c, fpS_same] at hk
        exact absurd hj (dj b hk j a)
      · rw [fpS_ne a] at hj
        rw [fpS_ne c] at hk
        exact S.dj j k b hj hk
  · by_cases a : j = i
    · rw [a, fpS_same] at hj
      exact nb b hj
    · rw [fpS_ne a] at hj
      exact S.nb j b hj
/-- slot i's content is told otherwise, its value stays -/
theorem Sim.turn (S : Sim K mg B H env σ fp) {i : Nat} {w : W} {v : V} {F : Fp} (hi : i < env.length) (hv : w ≠ .gone → σ[i]? = some (some v)) (r : RepW K mg B H w v F) (nb : ∀ b, F b → B b = none) (dj : ∀ b, F b → ∀ j, j ≠ i → ¬ fp j b) :
    Sim K mg B H (env.set i w) σ (fpS fp i F) := by
  refine ⟨by simp [S.len], S.le, fun j u e => ?_, fun j hj b => ?_, fun j k b hj hk => ?_, fun j b hj => ?_⟩
  · by_cases hji : j = i
    · subst hji
      rw [List.getElem?_set_self hi] at e
      cases e
      exact ⟨v, hv, by rw [fpS_same]; exact r⟩
    · rw [List.getElem?_set_ne (Ne.symm hji)] at e
      obtain ⟨v', h, r'⟩ := S.rep j u e
      exact ⟨v', h, by rw [fpS_ne hji]; exact r'⟩
  · rw [List.length_set] at hj
    rw [fpS_ne (by omega)]
    exact S.out j hj b
  · by_cases a : j = i
    · by_cases c : k = i
      · rw [a, c]
      · rw [a, fpS_same] at hj
        rw [fpS_ne c] at hk
        exact absurd hk (dj b hj k c)
    · by_cases c : k = i
      · rw [fpS_ne a] at hj
        rw [c, fpS_same] at hk
        exact absurd hj (dj b hk j a)
      · rw [fpS_ne a] at hj
        rw [fpS_ne c] at hk
        exact S.dj j k b hj hk
  · by_cases a : j = i
    · rw [a, fpS_same] at hj
      exact nb b hj
    · rw [fpS_ne a] at hj
      exact S.nb j b hj
theorem all_set {fp : Nat → Fp} {i : Nat} {F : Fp} {b : Addr} : All (fpS fp i F) b → All fp b ∨ F b := fun ⟨j, h⟩ => by
  by_cases e : j = i
  · rw [e, fpS_same] at h
    exact .inr h
  · rw [fpS_ne e] at h
    exact .inl ⟨j, h⟩
end
end Mi
set_option maxRecDepth 100000
/-! Mi2: the readings that a mirror gives, how they are put together. -/
namespace Mi
open PySem PySem.Spec PyProof.Rows L2

section
variable (K : PySem.W.Frag) (mg : Str → Option Value)
/-- an operand is the value v -/
def OpRep (B H : Hp) (σ : L2.St) (o : O) (v : V) (F : Fp) : Prop := match o with
  | .val w => RepW K mg B H w v F
  | .slot i => σ[i]? = some (some v) ∧ ∀ b, ¬ F b
inductive OpsRep (B H : Hp) (σ : L2.St) : List O → List V → Fp → Prop where
  | nil {F : Fp} (e : ∀ b, ¬ F b) : OpsRep B H σ [] [] F
  | cons {o : O} {os : List O} {v : V} {vs : List V} {F1 F2 F : Fp} (h : OpRep K mg B H σ o v F1) (t : OpsRep B H σ os vs F2) (dj : ∀ b, F1 b → ¬ F2 b) (e : ∀ b, F b ↔ F1 b ∨ F2 b) : OpsRep B H σ (o :: os) (v :: vs) F
/-- behind a step: the slots, what has grown, what is owned beside them -/
structure Aft (B H : Hp) (fp : Nat → Fp) (env' : En) (σ : L2.St) (B' H' : Hp) (fp' : Nat → Fp) (F : Fp) : Prop where
  sim : Sim K mg B' H' env' σ fp'
  gr : Grow B B' H H' (All fp) (Or2 (All fp') F)
  apart : ∀ b, F b → ¬ All fp' b
  nb : ∀ b, F b → B' b = none
/-- how an exception stands -/
def ExRep (H : Hp) (x : Ex) (cls : Value) (d : Option Addr) : Prop := mg (exNm x.id) = some cls ∧ match x.arg with
  | none => d = none
  | some n => ∃ dd, d = some dd ∧ H dd = some (.xd [("place", .int n)])
def Res {α β : Type} (rel : Hp → Hp → L2.St → α → β → Fp → Prop) (Wd : WX) (σ : L2.St) (B H : Hp) (fp : Nat → Fp) (out : Out α) (Q : β → Hp → Prop) : Prop := match out with
  | .stuck => False
  | .ok a env' => ∀ v B' H' fp' F, Aft K mg B H fp env' σ B' H' fp' F → rel B' H' σ a v F → Q v H'
  | .err x env' => ∀ cls d B' H' fp', Aft K mg B H fp env' σ B' H' fp' Nil → ExRep mg H' x cls d → Wd cls d σ H'
def relB : Hp → Hp → L2.St → Bool → Bool → Fp → Prop := fun _ _ _ a b F => a = b ∧ ∀ c, ¬ F c
def tE (Wd : WX) (m : EM) : TE := fun σ H Q => ∃ B env fp, Sim K mg B H env σ fp ∧ Res K mg (OpRep K mg) Wd σ B H fp (m env) Q
def tA (Wd : WX) (m : AM) : TA := fun σ H Q => ∃ B env fp, Sim K mg B H env σ fp ∧ Res K mg (OpsRep K mg) Wd σ B H fp (m env) Q
def tT (Wd : WX) (m : BM) : TT := fun σ H Q => ∃ B env fp, Sim K mg B H env σ fp ∧ Res K mg relB Wd σ B H fp (m env) Q
end
abbrev SE (X : Cx) (Wd : WX) (e : Expr) (m : EM) : Prop := PE X e (tE X.K X.mg Wd m)

abbrev ST (X : Cx) (Wd : WX) (e : Expr) (m : BM) : Prop := PT X e (tT X.K X.mg Wd m)
abbrev SW (X : Cx) (Wd : WX) (e : Expr) (m : BM) : Prop := PW X e (tT X.K X.mg Wd m)
theorem PE.less {X : Cx} {e : Expr} {t t' : TE} (h : PE X e t) (i : ∀ σ H Q, t' σ H Q → t σ H Q) : PE X e t' := ⟨fun pins s σ H Q I q => h.run pins s σ H Q I (i σ H Q q)⟩
theorem PT.less {X : Cx} {e : Expr} {t t' : TT} (h : PT X e t) (i : ∀ σ H Q, t' σ H Q → t σ H Q) : PT X e t' := ⟨fun pins s σ H Q I q => h.run pins s σ H Q I (i σ H Q q)⟩
theorem PW.less {X : Cx} {e : Expr} {t t' : TT} (h : PW X e t) (i : ∀ σ H Q, t' σ H Q → t σ H Q) : PW X e t' := ⟨fun wh pins s σ H Q I q => h.run wh pins s σ H Q I (i σ H Q q)⟩
theorem PA.less {X : Cx} {e : List Expr} {t t' : TA} (h : PA X e t) (i : ∀ σ H Q, t' σ H Q → t σ H Q) : PA X e t' := ⟨fun pos pins s σ H Q I q => h.run pos pins s σ H Q I (i σ H Q q)⟩

section
variable {K : PySem.W.Frag} {mg : Str → Option Value} {B B' H H' : Hp} {env env' : En} {σ : L2.St} {fp fp' : Nat → Fp} {Wd : WX} {F : Fp}
theorem OpRep.ext {o : O} {v : V} (h : OpRep K mg B H σ o v F) (l : Le B B') (k : ∀ b o, F b → H b = some o → H' b = some o) : OpRep K mg B' H' σ o v F := by
  cases o with
  | val w => exact RepW.ext h l k
  | slot i => exact h
theorem OpRep.there {o : O} {v : V} (h : OpRep K mg B H σ o v F) : ∀ b, F b → Lv H b := by
  cases o with
  | val w => exact RepW.there h
  | slot i => exact fun b hb => absurd hb (h.2 b)
theorem OpsRep.ext {os : List O} {vs : List V} (h : OpsRep K mg B H σ os vs F) (l : Le B B') (k : ∀ b o, F b → H b = some o → H' b = some o) : OpsRep K mg B' H' σ os vs F := by
  induction h with
  | nil e => exact .nil e
  | cons h t dj e ih => exact .cons (h.ext l fun b o f => k b o ((e b).mpr (.inl f))) (ih fun b o f => k b o ((e b).mpr (.inr f))) dj e
theorem Res.mono {α β : Type} {rel : Hp → Hp → L2.St → α → β → Fp → Prop} {out : Out α} {Q Q' : β → Hp → Prop} (h : Res K mg rel Wd σ B H fp out Q) (i : ∀ v H, Q v H → Q' v H) : Res K mg rel Wd σ B H fp out Q' := by
  cases out with
  | stuck => exact h
  | ok a e => exact fun v B' H' fp' F A r => i _ _ (h v B' H' fp' F A r)
  | err x e => exact h
theorem tE.mono {m : EM} {Q Q' : VK} (h : tE K mg Wd m σ H Q) (i : ∀ v H, Q v H → Q' v H) : tE K mg Wd m σ H Q' := let ⟨B, env, fp, S, r⟩ := h; ⟨B, env, fp, S, r.mono i⟩
theorem tA.mono {m : AM} {Q Q' : List V → Hp → Prop} (h : tA K mg Wd m σ H Q) (i : ∀ v H, Q v H → Q' v H) : tA K mg Wd m σ H Q' := let ⟨B, env, fp, S, r⟩ := h; ⟨B, env, fp, S, r.mono i⟩
theorem tT.mono {m : BM} {Q Q' : Bool → Hp → Prop} (h : tT K mg Wd m σ H Q) (i : ∀ v H, Q v H → Q' v H) : tT K mg Wd m σ H Q' := let ⟨B, env, fp, S, r⟩ := h; ⟨B, env, fp, S, r.mono i⟩
theorem Aft.refl (S : Sim K mg B H env σ fp) : Aft K mg B H fp env σ B H fp Nil := ⟨S, (Grow.refl B H (All fp)).less fun a h => h.elim id fun z => z.elim, fun _ h => h.elim, fun _ h => h.elim⟩
/-- a step, then one with what the first left owned beside -/
theorem Aft.then_ {B1 H1 B2 H2 : Hp} {env1 env2 : En} {fp1 fp2 : Nat → Fp} {F1 F2 : Fp} {σ1 σ2 : L2.St} (a : Aft K mg B H fp env1 σ1 B1 H1 fp1 F1) (t : ∀ b, F1 b → Lv H1 b) (b : Aft K mg B1 H1 fp1 env2 σ2 B2 H2 fp2 F2) :
    (∀ c o, F1 c → H1 c = some o → H2 c = some o) ∧ (∀ c, F1 c → ¬ F2 c) ∧ Aft K mg B H fp env2 σ2 B2 H2 fp2 (Or2 F1 F2) := by
  obtain ⟨k, n, ap⟩ := b.gr.beside (G := F1) (fun c f g => a.apart c f g) a.nb t
  have ap2 : ∀ c, F1 c → ¬ F2 c := fun c f g => ap c f (.inr g)
  refine ⟨k, ap2, b.sim, (a.gr.trans (b.gr.frame F1)).less fun c h => ?_, fun c h => ?_, fun c h => ?_⟩
  · rcases h with h | h | h
    · exact .inl (.inl h)
    · exact .inr h
    · exact .inl (.inr h)
  · rcases h with h | h
    · exact fun g => ap c h (.inl g)
    · exact b.apart c h
  · rcases h with h | h
    · exact n c h
    · exact b.nb c h
theorem Aft.trans {B1 H1 B2 H2 : Hp} {env1 env2 : En} {fp1 fp2 : Nat → Fp} {F2 : Fp} {σ1 σ2 : L2.St} (a : Aft K mg B H fp env1 σ1 B1 H1 fp1 Nil) (b : Aft K mg B1 H1 fp1 env2 σ2 B2 H2 fp2 F2) : Aft K mg B H fp env2 σ2 B2 H2 fp2 F2 := by
  obtain ⟨_, _, A⟩ := a.then_ (fun _ z => z.elim) b
  exact ⟨A.sim, A.gr.less fun c h => h.imp id .inr, fun c h => A.apart c (.inr h), fun c h => A.nb c (.inr h)⟩
theorem Aft.drop (a : Aft K mg B H fp env' σ B' H' fp' F) : Aft K mg B H fp env' σ B' H' fp' Nil := ⟨a.sim, a.gr.less fun c h => h.elim .inl fun z => z.elim, fun _ h => h.elim, fun _ h => h.elim⟩
theorem Aft.part {G : Fp} (a : Aft K mg B H fp env' σ B' H' fp' F) (e : ∀ b, G b → F b) : Aft K mg B H fp env' σ B' H' fp' G := ⟨a.sim, a.gr.less fun c h => h.imp id (e c), fun b h => a.apart b (e b h), fun b h => a.nb b (e b h)⟩

/-! ### argument rows -/
def aNil : AM := fun env => .ok [] env
def aCons (m : EM) (ms : AM) : AM := fun env => (m env).bind fun o env1 => (ms env1).bind fun os env2 => .ok (o :: os) env2
theorem aNil_step {Q : List V → Hp → Prop} (h : tA K mg Wd aNil σ H Q) : Q [] H := by
  obtain ⟨B, env, fp, S, r⟩ := h
  exact r [] B H fp Nil (Aft.refl S) (.nil nil_no)
theorem aCons_step {m : EM} {ms : AM} {Q : List V → Hp → Prop} (h : tA K mg Wd (aCons m ms) σ H Q) : tE K mg Wd m σ H fun x H1 => tA K mg Wd ms σ H1 fun xs H2 => Q (x :: xs) H2 := by
  obtain ⟨B, env, fp, S, r⟩ := h
  refine ⟨B, env, fp, S, ?_⟩
  unfold aCons at r
  cases e : m env with
  | stuck =>
    rw [e] at r
    exact r
  | err x e1 =>
    rw [e] at r
    exact r
  | ok o env1 =>
    rw [e] at r
    intro v B1 H1 fp1 F1 A1 R1
    refine ⟨B1, env1, fp1, A1.sim, ?_⟩
    have t1 := R1.there
    cases e2 : ms env1 with
    | stuck =>
      simp only [Out.bind, e2] at r
      exact r
    | err x e3 =>
      simp only [Out.bind, e2] at r
      intro cls d B2 H2 fp2 A2 xr
      obtain ⟨_, _, A⟩ := A1.then_ t1 A2
      exact r cls d B2 H2 fp2 A.drop xr
    | ok os env2 =>
      simp only [Out.bind, e2] at r
      intro vs B2 H2 fp2 F2 A2 R2
      obtain ⟨k, dj, A⟩ := A1.then_ t1 A2
      exact r (v :: vs) B2 H2 fp2 (Or2 F1 F2) A (.cons (R1.ext A2.gr.bk k) R2 dj fun _ => Iff.rfl)
end
section
variable {X : Cx} {Wd : WX} {e : Expr} {es : List Expr} {m : EM} {ms : AM}
/-- a row of arguments -/
structure SA (X : Cx) (Wd : WX) (es : List Expr) (ms : AM) : Prop where
  pa : PA X es (tA X.K X.mg Wd ms)
  len : ∀ env os env', ms env = .ok os env' → os.length = es.length
theorem sa_nil : SA X Wd [] aNil := ⟨PA.less pa_nil fun _ _ _ h => aNil_step h, fun env os env' h => by cases h; rfl⟩
theorem sa_cons (h : SE X Wd e m) (t : SA X Wd es ms) (hs : starEach (e :: es) X.env = (false, eval e X.env) :: starEach es X.env := by rfl) : SA X Wd (e :: es) (aCons m ms) :=
  ⟨PA.less (pa_cons h t.pa hs) fun _ _ _ h => aCons_step h, fun env os env' q => by
    unfold aCons at q
    cases e1 : m env with
    | ok o env1 =>
      cases e2 : ms env1 with
      | ok os' env2 =>
        simp only [e1, e2, Out.bind] at q
        cases q
        rw [List.length_cons, t.len _ _ _ e2, List.length_cons]
      | err x e3 => simp only [e1, e2, Out.bind] at q; cases q
      | stuck => simp only [e1, e2, Out.bind] at q; cases q
    | err x e3 => simp only [e1, Out.bind] at q; cases q
    | stuck => simp only [e1, Out.bind] at q; cases q⟩
end

/-! ### operators on data -/
section
variable (K : PySem.W.Frag) (mg : Str → Option Value)
/-- a datum that is read: shared, or owned -/
def RepO (B H : Hp) (d : D) (v : V) : Prop := Rep K mg B d v ∨ (∃ a ds vs, d = .lst ds ∧ v = .ref a ∧ H a = some (.lst vs) ∧ Reps K mg B ds vs) ∨
  ∃ a C dx c ds fv, d = .ins c ds ∧ v = .ref a ∧ H a = some (.ins C dx fv) ∧ mg (lay c).1 = some (.ref C) ∧ ds.length = fv.length ∧ fv.map (·.1) = (lay c).2.take fv.length ∧
    ∀ (i : Nat) (d : D) (q : Str × V), ds[i]? = some d → fv[i]? = some q → Rep K mg B d q.2
inductive RepOs (B H : Hp) : List D → List V → Prop where
  | nil : RepOs B H [] []
  | cons {d : D} {v : V} {ds : List D} {vs : List V} (h : RepO K mg B H d v) (t : RepOs B H ds vs) : RepOs B H (d :: ds) (v :: vs)
/-- something new or shared has come -/
structure New (B H B' H' : Hp) (w : W) (v : V) (F : Fp) : Prop where
  le : Le B' H'
  rep : RepW K mg B' H' w v F
  nb : ∀ b, F b → B' b = none
  gr : Grow B B' H H' Nil F
/-- what follows an operation p on data -/
def PP (p : List D → Option W) (Q : VK) (vs : List V) (H : Hp) : Prop := ∃ B ds w, Le B H ∧ RepOs K mg B H ds vs ∧ p ds = some w ∧ ∀ v B' H' F, New K mg B H B' H' w v F → Q v H'
end
def res : O → En → Option D
  | .val w, _ => w.fz
  | .slot i, env => (env[i]?).bind W.fz
def ress : List O → En → Option (List D)
  | [], _ => some []
  | o :: os, env => (res o env).bind fun d => (ress os env).map fun ds => d :: ds
/-- an operation on data: the operands from the left, then p -/
def ePrim (p : List D → Option W) (ms : AM) : EM := fun env => (ms env).bind fun os env1 => match (ress os env1).bind p with
  | some w => .ok (.val w) env1
  | none => .stuck
section
variable {K : PySem.W.Frag} {mg : Str → Option Value} {B B' H H' : Hp} {env env' : En} {σ : L2.St} {fp fp' : Nat → Fp} {Wd : WX} {F : Fp}
theorem repO_of {w : W} {v : V} {d : D} (h : RepW K mg B H w v F) (e : w.fz = some d) (l : Le B H) : RepO K mg B H d v := by
  cases h with
  | gone _ => cases e
  | sh h _ =>
    cases e
    exact .inl h
  | ol h r ef =>
    cases e
    exact .inr (.inl ⟨_, _, _, rfl, rfl, h, r⟩)
  | on _ _ _ _ _ _ => cases e
  | ot _ _ _ _ _ _ => cases e
  | @oi a C dx c ws fv fp F h hd hm l' n r dj na ef =>
    have e1 : (shF ws).map (D.ins c) = some d := e
    cases q : shF ws with
    | none =>
      rw [q] at e1
      cases e1
    | some gs =>
      rw [q] at e1
      cases e1
      have ew := shF_eq q
      subst ew
      refine .inr (.inr ⟨a, C, dx, c, gs, fv, rfl, rfl, h, hm, by simpa using l', n, fun i d z hp hz => ?_⟩)
      have rr := r i (.sh d) z (by rw [List.getElem?_map, hp]; rfl) hz
      cases rr with
      | sh rr _ => exact rr
theorem res_rep {o : O} {v : V} {d : D} (S : Sim K mg B H env σ fp) (h : OpRep K mg B H σ o v F) (e : res o env = some d) : RepO K mg B H d v := by
  cases o with
  | val w => exact repO_of h e S.le
  | slot i =>
    have e1 : (env[i]?).bind W.fz = some d := e
    cases q : env[i]? with
    | none =>
      rw [q] at e1
      cases e1
    | some w =>
      rw [q] at e1
      obtain ⟨v', hv, r⟩ := S.rep i w q
      have ng : w ≠ .gone := fun z => by rw [z] at e1; cases e1
      have ev : v' = v := by
        have z := hv ng
        rw [h.1] at z
        cases z
        rfl
      subst ev
      exact repO_of r e1 S.le
theorem ress_rep {os : List O} {vs : List V} (S : Sim K mg B H env σ fp) (h : OpsRep K mg B H σ os vs F) : ∀ {ds : List D}, ress os env = some ds → RepOs K mg B H ds vs := by
  induction h with
  | nil e =>
    intro ds q
    cases q
    exact .nil
  | @cons o os v vs F1 F2 F h t dj e ih =>
    intro ds q
    rw [ress] at q
    cases q1 : res o env with
    | none =>
      rw [q1] at q
      cases q
    | some d =>
      cases q2 : ress os env with
      | none =>
        rw [q1, q2] at q
        cases q
      | some ds' =>
        rw [q1, q2] at q
        cases q
        exact .cons (res_rep S h q1) (ih q2)
/-- beside the slots something new has come -/
theorem Aft.new {w : W} {v : V} {B2 H2 : Hp} {F2 : Fp} (a : Aft K mg B H fp env' σ B' H' fp' F) (n : New K mg B' H' B2 H2 w v F2) : Aft K mg B H fp env' σ B2 H2 fp' F2 := by
  obtain ⟨k, nb, ap⟩ := n.gr.beside (G := All fp') (fun _ _ h => h) a.sim.nball a.sim.there
  refine ⟨a.sim.ext n.gr.bk n.le k nb, ?_, fun b f g => ap b g f, n.nb⟩
  have g1 : Grow B B' H H' (All fp) (All fp') := a.gr.less fun c h => .inl h
  have g2 := n.gr.frame (All fp')
  have g3 : Grow B' B2 H' H2 (All fp') (Or2 F2 (All fp')) := g2.more fun c h => h.elim (fun z => z.elim) id
  exact (g1.trans g3).less fun c h => h.elim .inr .inl
theorem prim_step {p : List D → Option W} {ms : AM} {Q : VK} (h : tE K mg Wd (ePrim p ms) σ H Q) : tA K mg Wd ms σ H (PP K mg p Q) := by
  obtain ⟨B, env, fp, S, r⟩ := h
  refine ⟨B, env, fp, S, ?_⟩
  unfold ePrim at r
  cases e : ms env with
  | stuck =>
    rw [e] at r
    exact r
  | err x e1 =>
    rw [e] at r
    exact r
  | ok os env1 =>
    rw [e] at r
    intro vs B1 H1 fp1 F1 A1 R1
    simp only [Out.bind] at r
    cases q : ress os env1 with
    | none =>
      rw [q] at r
      exact r.elim
    | some ds =>
      cases q2 : p ds with
      | none =>
        simp only [q, Option.bind, q2] at r
        exact r.elim
      | some w =>
        simp only [q, Option.bind, q2] at r
        exact ⟨B1, ds, w, A1.sim.le, ress_rep A1.sim R1 q, q2, fun v B2 H2 F2 n => r v B2 H2 fp1 F2 (A1.new n) n.rep⟩
/-- one operand, two, three -/
def p1 (p : D → Option W) : List D → Option W
  | [x] => p x
  | _ => none
def p2 (p : D → D → Option W) : List D → Option W
  | [x, y] => p x y
  | _ => none
def p3 (p : D → D → D → Option W) : List D → Option W
  | [x, y, z] => p x y z
  | _ => none
abbrev eP1 (p : D → Option W) (a : EM) : EM := ePrim (p1 p) (aCons a aNil)
abbrev eP2 (p : D → D → Option W) (a b : EM) : EM := ePrim (p2 p) (aCons a (aCons b aNil))
abbrev eP3 (p : D → D → D → Option W) (a b c : EM) : EM := ePrim (p3 p) (aCons a (aCons b (aCons c aNil)))
theorem prim1_step {p : D → Option W} {a : EM} {Q : VK} (h : tE K mg Wd (eP1 p a) σ H Q) : tE K mg Wd a σ H fun x H1 => ∃ B d w, Le B H1 ∧ RepO K mg B H1 d x ∧ p d = some w ∧ ∀ v B' H' F, New K mg B H1 B' H' w v F → Q v H' := by
  refine (aCons_step (prim_step h)).mono fun x H1 h1 => ?_
  obtain ⟨B, ds, w, l, r, q, k⟩ := aNil_step h1
  cases r with
  | cons r1 r2 =>
    cases r2
    exact ⟨B, _, w, l, r1, q, k⟩
theorem prim2_step {p : D → D → Option W} {a b : EM} {Q : VK} (h : tE K mg Wd (eP2 p a b) σ H Q) : tE K mg Wd a σ H fun x H1 => tE K mg Wd b σ H1 fun y H2 =>
    ∃ B d e w, Le B H2 ∧ RepO K mg B H2 d x ∧ RepO K mg B H2 e y ∧ p d e = some w ∧ ∀ v B' H' F, New K mg B H2 B' H' w v F → Q v H' := by
  refine (aCons_step (prim_step h)).mono fun x H1 h1 => (aCons_step h1).mono fun y H2 h2 => ?_
  obtain ⟨B, ds, w, l, r, q, k⟩ := aNil_step h2
  cases r with
  | cons r1 r2 =>
    cases r2 with
    | cons r3 r4 =>
      cases r4
      exact ⟨B, _, _, w, l, r1, r3, q, k⟩
end
end Mi
set_option maxRecDepth 100000
/-! Mi3: expressions. -/
namespace Mi
open PySem PySem.Spec PyProof.Rows L2

/-! ### names, constants -/
def eC (d : D) : EM := fun env => .ok (.val (.sh d)) env
def eV (i : Nat) : EM := fun env => match env[i]? with
  | some .gone => .stuck
  | some _ => .ok (.slot i) env
  | none => .stuck
/-- a name whose thing becomes shared, one whose thing is handed on -/
def eFz (i : Nat) : EM := fun env => match (env[i]?).bind W.fz with
  | some d => .ok (.val (.sh d)) (env.set i (.sh d))
  | none => .stuck
def eMv (i : Nat) : EM := fun env => match env[i]? with
  | some .gone => .stuck
  | some (.sh d) => .ok (.val (.sh d)) env
  | some w => .ok (.val w) (env.set i .gone)
  | none => .stuck
section
variable {K : PySem.W.Frag} {mg : Str → Option Value} {B B' H H' : Hp} {env env' : En} {σ : L2.St} {fp fp' : Nat → Fp} {Wd : WX} {F : Fp} {Q : VK}
theorem const_step {d : D} {v : V} (hr : ∀ B, Rep K mg B d v) (h : tE K mg Wd (eC d) σ H Q) : Q v H := by
  obtain ⟨B, env, fp, S, r⟩ := h
  exact r v B H fp Nil (Aft.refl S) (.sh (hr B) nil_no)
theorem var_step {i : Nat} (h : tE K mg Wd (eV i) σ H Q) : tVar i σ H Q := by
  obtain ⟨B, env, fp, S, r⟩ := h
  unfold eV at r
  cases e : env[i]? with
  | none =>
    rw [e] at r
    exact r.elim
  | some w =>
    rw [e] at r
    have ng : w ≠ .gone := fun z => by rw [z] at r; exact r
    have r' : Res K mg (OpRep K mg) Wd σ B H fp (.ok (.slot i) env) Q := by
      cases w <;> first | exact absurd rfl ng | exact r
    obtain ⟨v, hv, rr⟩ := S.rep i w e
    exact ⟨v, hv ng, r' v B H fp Nil (Aft.refl S) ⟨hv ng, nil_no⟩⟩
/-- more is shared: G, of what was owned -/
noncomputable def share (B H : Hp) (G : Fp) : Hp := by
  classical
  exact fun a => if G a then H a else B a
theorem share_in {B H : Hp} {G : Fp} {a : Addr} (g : G a) : share B H G a = H a := by
  unfold share
  rw [if_pos g]
theorem share_out {B H : Hp} {G : Fp} {a : Addr} (g : ¬ G a) : share B H G a = B a := by
  unfold share
  rw [if_neg g]
theorem share_le {B H : Hp} {G : Fp} (l : Le B H) : Le (share B H G) H := fun a o h => by
  by_cases g : G a
  · rw [share_in g] at h
    exact h
  · rw [share_out g] at h
    exact l a o h
theorem share_bk {B H : Hp} {G : Fp} (nb : ∀ a, G a → B a = none) : Le B (share B H G) := fun a o h => by
  by_cases g : G a
  · rw [nb a g] at h
    cases h
  · rw [share_out g]
    exact h
theorem share_grow {B H : Hp} {G F F' : Fp} (nb : ∀ a, G a → B a = none) (hG : ∀ a, G a → F a) (hF : ∀ a, F' a → F a) : Grow B (share B H G) H H F F' :=
  ⟨fun _ _ _ h => h, share_bk nb, fun a o h => by
    by_cases g : G a
    · exact .inr (.inl (hG a g))
    · rw [share_out g] at h
      exact .inl h, fun a h => .inl (hF a h)⟩
theorem fz_step {i : Nat} (h : tE K mg Wd (eFz i) σ H Q) : tVar i σ H Q := by
  obtain ⟨B, env, fp, S, r⟩ := h
  unfold eFz at r
  cases e : env[i]? with
  | none =>
    rw [e] at r
    exact r.elim
  | some w =>
    cases q : w.fz with
    | none =>
      simp only [e, Option.bind, q] at r
      exact r.elim
    | some d =>
      simp only [e, Option.bind, q] at r
      have ng : w ≠ .gone := fun z => by rw [z] at q; cases q
      obtain ⟨v, hv, rr⟩ := S.rep i w e
      have hi : i < env.length := (List.getElem?_eq_some_iff.mp e).1
      have nb : ∀ a, fp i a → B a = none := fun a f => S.nb i a f
      have rd : Rep K mg (share B H (fp i)) d v := rr.fz q (share_bk nb) fun b o f h => by rw [share_in f]; exact h
      -- the other slots
      have S1 : Sim K mg (share B H (fp i)) H (env.set i (.sh d)) σ (fpS fp i Nil) := by
        refine ⟨by simp [S.len], share_le S.le, fun j u ej => ?_, fun j hj b => ?_, fun j k b hj hk => ?_, fun j b hj => ?_⟩
        · by_cases hji : j = i
          · subst hji
            rw [List.getElem?_set_self hi] at ej
            cases ej
            exact ⟨v, fun _ => hv ng, .sh rd fun b f => by rw [fpS_same] at f; exact f⟩
          · rw [List.getElem?_set_ne (Ne.symm hji)] at ej
            obtain ⟨v', h', r'⟩ := S.rep j u ej
            exact ⟨v', h', by rw [fpS_ne hji]; exact r'.ext (share_bk nb) fun _ _ _ h => h⟩
        · rw [List.length_set] at hj
          rw [fpS_ne (by omega)]
          exact S.out j hj b
        · by_cases a : j = i
          · rw [a, fpS_same] at hj
            exact hj.elim
          · by_cases c : k = i
            · rw [c, fpS_same] at hk
              exact hk.elim
            · rw [fpS_ne a] at hj
              rw [fpS_ne c] at hk
              exact S.dj j k b hj hk
        · by_cases a : j = i
          · rw [a, fpS_same] at hj
            exact hj.elim
          · rw [fpS_ne a] at hj
            rw [share_out fun g => a (S.dj j i b hj g)]
            exact S.nb j b hj
      refine ⟨v, hv ng, r v _ H _ Nil ⟨S1, (share_grow nb (fun a f => ⟨i, f⟩) fun a f => ?_), fun _ z => z.elim, fun _ z => z.elim⟩ (.sh rd nil_no)⟩
      rcases f with f | f
      · rcases all_set f with f | f
        · exact f
        · exact f.elim
      · exact f.elim
theorem mv_step {i : Nat} (h : tE K mg Wd (eMv i) σ H Q) : tVar i σ H Q := by
  obtain ⟨B, env, fp, S, r⟩ := h
  unfold eMv at r
  cases e : env[i]? with
  | none =>
    rw [e] at r
    exact r.elim
  | some w =>
    rw [e] at r
    have ng : w ≠ .gone := fun z => by rw [z] at r; exact r
    obtain ⟨v, hv, rr⟩ := S.rep i w e
    have hi : i < env.length := (List.getElem?_eq_some_iff.mp e).1
    have two : (∃ d, w = .sh d ∧ Res K mg (OpRep K mg) Wd σ B H fp (.ok (.val w) env) Q) ∨ Res K mg (OpRep K mg) Wd σ B H fp (.ok (.val w) (env.set i .gone)) Q := by
      cases w with
      | gone => exact absurd rfl ng
      | sh d => exact .inl ⟨d, rfl, r⟩
      | _ => exact .inr r
    rcases two with ⟨d, rfl, r⟩ | r
    · refine ⟨v, hv ng, r v B H fp Nil (Aft.refl S) ?_⟩
      cases rr with
      | sh rr _ => exact .sh rr nil_no
    · refine ⟨v, hv ng, r v B H (fpS fp i Nil) (fp i) ⟨S.turn hi (fun z => absurd rfl z) (.gone (v := v) nil_no) (fun _ z => z.elim) fun _ z => z.elim, ⟨fun _ _ _ h => h, Le.refl B, fun _ _ h => .inl h, fun a f => .inl ?_⟩, fun b f g => ?_, fun b f => S.nb i b f⟩ rr⟩
      · rcases f with f | f
        · rcases all_set f with f | f
          · exact f
          · exact f.elim
        · exact ⟨i, f⟩
      · obtain ⟨j, g⟩ := g
        by_cases a : j = i
        · rw [a, fpS_same] at g
          exact g
        · rw [fpS_ne a] at g
          exact a (S.dj j i b g f)
end
section
variable {X : Cx} {Wd : WX} {pos : Pos}
theorem se_int {i : Int} {j} : SE X Wd (.Constant (.int i) j pos) (eC (.int i)) := PE.less pe_int fun _ _ _ h => const_step (fun _ => .int i) h
theorem se_bl {b : Bool} {j} : SE X Wd (.Constant (.bool b) j pos) (eC (.bl b)) := PE.less pe_bl fun _ _ _ h => const_step (fun _ => .bl b) h
theorem se_non {j} : SE X Wd (.Constant .none j pos) (eC .non) := PE.less pe_non fun _ _ _ h => const_step (fun _ => .non) h
theorem se_str {x : Str} {j} : SE X Wd (.Constant (.str x) j pos) (eC (.str x)) := PE.less pe_str fun _ _ _ h => const_step (fun _ => .str x) h
theorem se_glob {x : Str} {v : V} {u : Value} {d : D} (hg : Gl X x) (hm : X.mg x = some u) (r : RelV v u) (hr : ∀ B, Rep X.K X.mg B d v) (hd : (x == ("__debug__" : Str)) = false := by decide) : SE X Wd (.Name x pos) (eC d) :=
  PE.less (pe_glob hg hm r hd) fun _ _ _ h => const_step hr h
section
variable (i : Nat) {x : Str} (hN : X.N[i]? = some x := by rfl) (hv : Vis X.env.scope x := by first | exact Or.inl rfl | exact Or.inr (Or.inl rfl) | exact Or.inr (Or.inr rfl)) (hd : (x == ("__debug__" : Str)) = false := by decide)
    (hcd : (x == ("__classdict__" : Str)) = false := by decide)
include hN hv hd hcd
theorem se_v : SE X Wd (.Name x pos) (eV i) := PE.less (pe_var hN hv hd hcd) fun _ _ _ h => var_step h
theorem se_fz : SE X Wd (.Name x pos) (eFz i) := PE.less (pe_var hN hv hd hcd) fun _ _ _ h => fz_step h
theorem se_mv : SE X Wd (.Name x pos) (eMv i) := PE.less (pe_var hN hv hd hcd) fun _ _ _ h => mv_step h
end
end

/-! ### operators -/
section
variable (K : PySem.W.Frag) (mg : Str → Option Value)
/-- the reading r of two values does p on data -/
def Op2 (r : R2) (p : D → D → Option W) : Prop := ∀ (B H : Hp) (x y : V) (d e : D) (w : W) (Q : VK), Le B H → RepO K mg B H d x → RepO K mg B H e y → p d e = some w → (∀ v B' H' F, New K mg B H B' H' w v F → Q v H') → r x y H Q
def Op1 (r : V → Hp → VK → Prop) (p : D → Option W) : Prop := ∀ (B H : Hp) (x : V) (d : D) (w : W) (Q : VK), Le B H → RepO K mg B H d x → p d = some w → (∀ v B' H' F, New K mg B H B' H' w v F → Q v H') → r x H Q
def OpN (r : List V → Hp → VK → Prop) (p : List D → Option W) : Prop := ∀ (B H : Hp) (vs : List V) (ds : List D) (w : W) (Q : VK), Le B H → RepOs K mg B H ds vs → p ds = some w → (∀ v B' H' F, New K mg B H B' H' w v F → Q v H') → r vs H Q
end
section
variable {K : PySem.W.Frag} {mg : Str → Option Value} {B B' H H' : Hp}
theorem new_sh {d : D} {v : V} (l : Le B H) (r : Rep K mg B d v) : New K mg B H B H (.sh d) v Nil := ⟨l, .sh r nil_no, fun _ h => h.elim, Grow.refl B H Nil⟩
theorem le_upd {p : Addr} {o : HO} (l : Le B H) (n : H p = none) : Le B (upd H p o) := fun a u h => by
  rw [upd_ne (ne_of_none (l a u h) n)]
  exact l a u h
theorem le_upd2 {p : Addr} {o : HO} (l : Le B H) : Le (upd B p o) (upd H p o) := fun a u h => by
  by_cases e : a = p
  · subst e
    rw [upd_same] at h ⊢
    exact h
  · rw [upd_ne e] at h ⊢
    exact l a u h
theorem le_none {p : Addr} (l : Le B H) (n : H p = none) : B p = none := by
  cases q : B p with
  | none => rfl
  | some o =>
    rw [l p o q] at n
    cases n
theorem le_self {p : Addr} {o : HO} (n : B p = none) : Le B (upd B p o) := fun a u h => by
  rw [upd_ne (ne_of_none h n)]
  exact h
/-- a new list, a new tuple -/
theorem new_ol {p : Addr} {ds : List D} {vs : List V} (l : Le B H) (n : H p = none) (r : Reps K mg B ds vs) : New K mg B H B (upd H p (.lst vs)) (.ol ds) (.ref p) fun b => b = p :=
  ⟨le_upd l n, .ol upd_same r fun _ => Iff.rfl, fun b e => by rw [e]; exact le_none l n, ⟨fun a o _ h => by rw [upd_ne (ne_of_none h n)]; exact h, Le.refl B, fun _ _ h => .inl h, fun a e => .inr (by rw [e]; exact n)⟩⟩
theorem new_tup {p : Addr} {ds : List D} {vs : List V} (l : Le B H) (n : H p = none) (r : Reps K mg B ds vs) : New K mg B H (upd B p (.tup vs)) (upd H p (.tup vs)) (.sh (.tup ds)) (.ref p) Nil := by
  have nb := le_none l n
  refine ⟨le_upd2 l, .sh (.tup (SqT.of upd_same) r.1 (r.mono (le_self nb)).2) nil_no, fun _ h => h.elim, ⟨fun a o _ h => by rw [upd_ne (ne_of_none h n)]; exact h, le_self nb, fun a o h => ?_, fun _ h => h.elim⟩⟩
  by_cases e : a = p
  · exact .inr (.inr (Nw.of (by rw [e]; exact n)))
  · rw [upd_ne e] at h
    exact .inl h
end
section
variable {X : Cx} {Wd : WX} {pos : Pos} {a b : Expr} {ma mb : EM}
theorem se_bin {op : Operator} {r : R2} {p : D → D → Option W} (ho : OpR X (binaryOp op) r) (hp : Op2 X.K X.mg r p) (ha : SE X Wd a ma) (hb : SE X Wd b mb) : SE X Wd (.BinOp a op b pos) (eP2 p ma mb) :=
  PE.less (pe_op ho ha hb) fun _ _ _ h => (prim2_step h).mono fun _ _ h1 => h1.mono fun _ _ ⟨B, d, e, w, l, r1, r2, q, k⟩ => hp B _ _ _ d e w _ l r1 r2 q k
theorem se_cmp {op : CmpOp} {r : R2} {p : D → D → Option W} (ho : OpR X (compareOp op) r) (hp : Op2 X.K X.mg r p) (ha : SE X Wd a ma) (hb : SE X Wd b mb) (hm : behindInMarks op b = false) : SE X Wd (.Compare a [op] [b] pos) (eP2 p ma mb) :=
  PE.less (pe_cmpR ho ha hb hm) fun _ _ _ h => (prim2_step h).mono fun _ _ h1 => h1.mono fun _ _ ⟨B, d, e, w, l, r1, r2, q, k⟩ => hp B _ _ _ d e w _ l r1 r2 q k
theorem se_ix {r : R2} {p : D → D → Option W} (ho : IxR X r) (hp : Op2 X.K X.mg r p) (ha : SE X Wd a ma) (hb : SE X Wd b mb) (hs : PlainIx b) : SE X Wd (.Subscript a b pos) (eP2 p ma mb) :=
  PE.less (pe_ix ho ha hb hs) fun _ _ _ h => (prim2_step h).mono fun _ _ h1 => h1.mono fun _ _ ⟨B, d, e, w, l, r1, r2, q, k⟩ => hp B _ _ _ d e w _ l r1 r2 q k
theorem se_un {op : UnaryOp} {r : V → Hp → VK → Prop} {p : D → Option W} (ho : UnR X (unaryOp op) r) (hp : Op1 X.K X.mg r p) (ha : SE X Wd a ma) : SE X Wd (.UnaryOp op a pos) (eP1 p ma) :=
  PE.less (pe_un ho ha) fun _ _ _ h => (prim1_step h).mono fun _ _ ⟨B, d, w, l, r1, q, k⟩ => hp B _ _ d w _ l r1 q k
theorem se_callB {x : Str} {id : String} {p0 : Pos} {es : List Expr} {ms : AM} {e : Expr} {r : List V → Hp → VK → Prop} {p : List D → Option W} (hc : CallR X (.builtin id) r) (hp : OpN X.K X.mg r p) (hg : Gl X x) (hm : X.mg x = none) (hv : bootBuiltins x = some (.builtin id))
    (ha : SA X Wd (e :: es) ms) (hn : x ≠ "__name__" := by decide) (hdb : (x == ("__debug__" : Str)) = false := by decide)
    (he : starEach (e :: es) X.env = (false, eval e X.env) :: starEach es X.env := by rfl) (hpl : (backTo pos (starEach es X.env)).any (·.1) = false := by rfl) : SE X Wd (.Call (.Name x p0) (e :: es) [] pos) (ePrim p ms) :=
  PE.less (pe_callB hc hg hm hv ha.pa hn hdb he hpl) fun _ _ _ h => (prim_step h).mono fun _ _ ⟨B, ds, w, l, r1, q, k⟩ => hp B _ _ ds w _ l r1 q k
theorem se_callT {x : Str} {T : String} {p0 : Pos} {es : List Expr} {ms : AM} {e : Expr} {r : List V → Hp → VK → Prop} {p : List D → Option W} (hc : CallR X (.type T) r) (hp : OpN X.K X.mg r p) (hg : Gl X x) (hm : X.mg x = none) (hv : bootBuiltins x = some (.type T))
    (ha : SA X Wd (e :: es) ms) (hn : x ≠ "__name__" := by decide) (hdb : (x == ("__debug__" : Str)) = false := by decide)
    (he : starEach (e :: es) X.env = (false, eval e X.env) :: starEach es X.env := by rfl) (hpl : (backTo pos (starEach es X.env)).any (·.1) = false := by rfl) : SE X Wd (.Call (.Name x p0) (e :: es) [] pos) (ePrim p ms) :=
  PE.less (pe_callTy hc hg hm hv ha.pa hn hdb he hpl) fun _ _ _ h => (prim_step h).mono fun _ _ ⟨B, ds, w, l, r1, q, k⟩ => hp B _ _ ds w _ l r1 q k
end

/-! ### tests, and, or, not, if -/
/-- the test of a value that is True or False -/
def bE (m : EM) : BM := fun env => (m env).bind fun o env1 => match res o env1 with
  | some (.bl b) => .ok b env1
  | _ => .stuck
def bAnd (a b : BM) : BM := fun env => (a env).bind fun c env1 => if c = true then b env1 else .ok false env1
def bOr (a b : BM) : BM := fun env => (a env).bind fun c env1 => if c = true then .ok true env1 else b env1
def bNot (a : BM) : BM := fun env => (a env).bind fun c env1 => .ok (!c) env1
def eB (a : BM) : EM := fun env => (a env).bind fun c env1 => .ok (.val (.sh (.bl c))) env1
def eIf (c : BM) (a b : EM) : EM := fun env => (c env).bind fun k env1 => if k = true then a env1 else b env1
def eAnd (a b : EM) : EM := fun env => (bE a env).bind fun c env1 => if c = true then b env1 else .ok (.val (.sh (.bl false))) env1
def eOr (a b : EM) : EM := fun env => (bE a env).bind fun c env1 => if c = true then .ok (.val (.sh (.bl true))) env1 else b env1
section
variable {K : PySem.W.Frag} {mg : Str → Option Value} {B B' H H' : Hp} {env env' : En} {σ : L2.St} {fp fp' : Nat → Fp} {Wd : WX} {F : Fp} {Q : VK}
theorem repO_bl {b : Bool} {v : V} (h : RepO K mg B H (.bl b) v) : v = .bl b := by
  rcases h with h | ⟨_, _, _, e, _⟩ | ⟨_, _, _, _, _, _, e, _⟩
  · cases h
    rfl
  · cases e
  · cases e
theorem bE_step {m : EM} {Q : Bool → Hp → Prop} (h : tT K mg Wd (bE m) σ H Q) : tE K mg Wd m σ H fun x H1 => ∃ k, x = .bl k ∧ Q k H1 := by
  obtain ⟨B, env, fp, S, r⟩ := h
  refine ⟨B, env, fp, S, ?_⟩
  unfold bE at r
  cases e : m env with
  | stuck =>
    rw [e] at r
    exact r
  | err x e1 =>
    rw [e] at r
    exact r
  | ok o env1 =>
    rw [e] at r
    simp only [Out.bind] at r
    intro v B1 H1 fp1 F1 A1 R1
    cases q : res o env1 with
    | none =>
      rw [q] at r
      exact r.elim
    | some d =>
      have rr := res_rep A1.sim R1 q
      rw [q] at r
      cases d with
      | bl b => exact ⟨b, repO_bl rr, r b B1 H1 fp1 Nil A1.drop ⟨rfl, nil_no⟩⟩
      | _ => exact r.elim
/-- a test, then what follows its answer -/
theorem test_step {α β : Type} {rel : Hp → Hp → L2.St → α → β → Fp → Prop} {c : BM} {k : Bool → En → Out α} {Q : β → Hp → Prop} {env : En} {fp : Nat → Fp} (S : Sim K mg B H env σ fp) (h : Res K mg rel Wd σ B H fp ((c env).bind k) Q) :
    tT K mg Wd c σ H fun b H1 => ∃ B1 env1 fp1, Sim K mg B1 H1 env1 σ fp1 ∧ Res K mg rel Wd σ B1 H1 fp1 (k b env1) Q := by
  refine ⟨B, env, fp, S, ?_⟩
  cases e : c env with
  | stuck =>
    rw [e] at h
    exact h
  | err x e1 =>
    rw [e] at h
    exact h
  | ok b env1 =>
    rw [e] at h
    rintro _ B1 H1 fp1 F1 A1 ⟨rfl, nF⟩
    refine ⟨B1, env1, fp1, A1.sim, ?_⟩
    simp only [Out.bind] at h
    have A1' := A1.drop
    have fix : ∀ {env2 : En} {B2 H2 : Hp} {fp2 : Nat → Fp} {F2 : Fp}, Aft K mg B1 H1 fp1 env2 σ B2 H2 fp2 F2 → Aft K mg B H fp env2 σ B2 H2 fp2 F2 := fun A2 => by
      obtain ⟨_, _, A⟩ := A1'.then_ (fun _ z => z.elim) A2
      exact A.part fun b f => .inr f
    cases q : k b env1 with
    | stuck =>
      rw [q] at h
      exact h
    | err x e2 =>
      rw [q] at h
      exact fun cls d B2 H2 fp2 A2 xr => h cls d B2 H2 fp2 (fix A2) xr
    | ok a e2 =>
      rw [q] at h
      exact fun v B2 H2 fp2 F2 A2 rr => h v B2 H2 fp2 F2 (fix A2) rr
theorem bAnd_step {a b : BM} {Q : Bool → Hp → Prop} (h : tT K mg Wd (bAnd a b) σ H Q) : tT K mg Wd a σ H fun c H1 => if c = true then tT K mg Wd b σ H1 Q else Q false H1 := by
  obtain ⟨B, env, fp, S, r⟩ := h
  refine (test_step S r).mono fun c H1 ⟨B1, env1, fp1, S1, r1⟩ => ?_
  cases c with
  | true => exact ⟨B1, env1, fp1, S1, r1⟩
  | false => exact r1 false B1 H1 fp1 Nil (Aft.refl S1) ⟨rfl, nil_no⟩
theorem bOr_step {a b : BM} {Q : Bool → Hp → Prop} (h : tT K mg Wd (bOr a b) σ H Q) : tT K mg Wd a σ H fun c H1 => if c = true then Q true H1 else tT K mg Wd b σ H1 Q := by
  obtain ⟨B, env, fp, S, r⟩ := h
  refine (test_step S r).mono fun c H1 ⟨B1, env1, fp1, S1, r1⟩ => ?_
  cases c with
  | false => exact ⟨B1, env1, fp1, S1, r1⟩
  | true => exact r1 true B1 H1 fp1 Nil (Aft.refl S1) ⟨rfl, nil_no⟩
theorem bNot_step {a : BM} {Q : Bool → Hp → Prop} (h : tT K mg Wd (bNot a) σ H Q) : tT K mg Wd a σ H fun c H1 => Q (!c) H1 := by
  obtain ⟨B, env, fp, S, r⟩ := h
  exact (test_step S r).mono fun c H1 ⟨B1, env1, fp1, S1, r1⟩ => r1 (!c) B1 H1 fp1 Nil (Aft.refl S1) ⟨rfl, nil_no⟩
theorem eIf_step {c : BM} {a b : EM} (h : tE K mg Wd (eIf c a b) σ H Q) : tT K mg Wd c σ H fun k H1 => if k = true then tE K mg Wd a σ H1 Q else tE K mg Wd b σ H1 Q := by
  obtain ⟨B, env, fp, S, r⟩ := h
  refine (test_step S r).mono fun k H1 ⟨B1, env1, fp1, S1, r1⟩ => ?_
  cases k with
  | true => exact ⟨B1, env1, fp1, S1, r1⟩
  | false => exact ⟨B1, env1, fp1, S1, r1⟩
theorem eAnd_step {a b : EM} (h : tE K mg Wd (eAnd a b) σ H Q) : tAndV (tE K mg Wd a) (tE K mg Wd b) σ H Q := by
  obtain ⟨B, env, fp, S, r⟩ := h
  refine (bE_step (test_step S r)).mono fun x H1 ⟨k, ek, B1, env1, fp1, S1, r1⟩ => ⟨k, ek, ?_⟩
  cases k with
  | true => exact ⟨B1, env1, fp1, S1, r1⟩
  | false => exact r1 (.bl false) B1 H1 fp1 Nil (Aft.refl S1) (.sh (.bl false) nil_no)
theorem eOr_step {a b : EM} (h : tE K mg Wd (eOr a b) σ H Q) : tOrV (tE K mg Wd a) (tE K mg Wd b) σ H Q := by
  obtain ⟨B, env, fp, S, r⟩ := h
  refine (bE_step (test_step S r)).mono fun x H1 ⟨k, ek, B1, env1, fp1, S1, r1⟩ => ⟨k, ek, ?_⟩
  cases k with
  | false => exact ⟨B1, env1, fp1, S1, r1⟩
  | true => exact r1 (.bl true) B1 H1 fp1 Nil (Aft.refl S1) (.sh (.bl true) nil_no)
theorem eB_not_step {a : EM} (h : tE K mg Wd (eB (bNot (bE a))) σ H Q) : tNotV (tE K mg Wd a) σ H Q := by
  obtain ⟨B, env, fp, S, r⟩ := h
  have r2 : Res K mg (OpRep K mg) Wd σ B H fp ((bE a env).bind fun c env1 => .ok (.val (.sh (.bl !c))) env1) Q := by
    have e : eB (bNot (bE a)) env = (bE a env).bind fun c env1 => .ok (.val (.sh (.bl !c))) env1 := by
      unfold eB bNot
      cases bE a env <;> rfl
    rw [← e]
    exact r
  exact (bE_step (test_step S r2)).mono fun x H1 ⟨k, ek, B1, env1, fp1, S1, r1⟩ => ⟨k, ek, r1 (.bl !k) B1 H1 fp1 Nil (Aft.refl S1) (.sh (.bl !k) nil_no)⟩
end
section
variable {X : Cx} {Wd : WX} {pos : Pos} {a b c e : Expr} {rest : List Expr} {ma mb m : EM} {ta tb : BM}
theorem st_val (h : SE X Wd e m) (he : ∀ whole, isTrue e X.env whole = (do let v ← whole; standAt e.pos; holding [v] (truthy v)) := by intro _; rfl) : ST X Wd e (bE m) := PT.less (pt_val h he) fun _ _ _ h => bE_step h
theorem st_cmp {op : CmpOp} {r : R2} {p : D → D → Option W} (ho : OpR X (compareOp op) r) (hp : Op2 X.K X.mg r p) (ha : SE X Wd a ma) (hb : SE X Wd b mb) (hm : behindInMarks op b = false) : ST X Wd (.Compare a [op] [b] pos) (bE (eP2 p ma mb)) :=
  PT.less (pt_cmpR ho ha hb hm) fun _ _ _ h => (prim2_step (bE_step h)).mono fun _ _ h1 => h1.mono fun _ _ ⟨B, d, e, w, l, r1, r2, q, k⟩ => hp B _ _ _ d e w _ l r1 r2 q k
theorem sw_and1 (ha : ST X Wd a ta) : SW X Wd (.BoolOp .And [a] pos) ta := pw_and1 ha
theorem sw_or1 (ha : ST X Wd a ta) : SW X Wd (.BoolOp .Or [a] pos) ta := pw_or1 ha
theorem sw_and (ha : ST X Wd a ta) (hb : SW X Wd (.BoolOp .And (b :: rest) pos) tb) : SW X Wd (.BoolOp .And (a :: b :: rest) pos) (bAnd ta tb) := PW.less (pw_and ha hb) fun _ _ _ h => bAnd_step h
theorem sw_or (ha : ST X Wd a ta) (hb : SW X Wd (.BoolOp .Or (b :: rest) pos) tb) : SW X Wd (.BoolOp .Or (a :: b :: rest) pos) (bOr ta tb) := PW.less (pw_or ha hb) fun _ _ _ h => bOr_step h
theorem st_w (h : SW X Wd e tb) : ST X Wd e tb := PW.pt h
theorem st_not (ha : ST X Wd a ta) : ST X Wd (.UnaryOp .Not a pos) (bNot ta) := PT.less (pt_not ha) fun _ _ _ h => bNot_step h
theorem se_one {op} (h : SE X Wd a m) : SE X Wd (.BoolOp op [a] pos) m := pe_one h
theorem se_and (ha : SE X Wd a ma) (hb : SE X Wd (.BoolOp .And (b :: rest) pos) mb) : SE X Wd (.BoolOp .And (a :: b :: rest) pos) (eAnd ma mb) := PE.less (pe_and ha hb) fun _ _ _ h => eAnd_step h
theorem se_or (ha : SE X Wd a ma) (hb : SE X Wd (.BoolOp .Or (b :: rest) pos) mb) : SE X Wd (.BoolOp .Or (a :: b :: rest) pos) (eOr ma mb) := PE.less (pe_or ha hb) fun _ _ _ h => eOr_step h
theorem se_not (ha : SE X Wd a m) : SE X Wd (.UnaryOp .Not a pos) (eB (bNot (bE m))) := PE.less (pe_not ha) fun _ _ _ h => eB_not_step h
theorem se_if (hc : ST X Wd c ta) (ha : SE X Wd a ma) (hb : SE X Wd b mb) : SE X Wd (.IfExp c a b pos) (eIf ta ma mb) := PE.less (pe_ifExp hc ha hb) fun _ _ _ h => eIf_step h
end
end Mi
set_option maxRecDepth 100000
/-! Mi4: displays, calls. -/
namespace Mi
open PySem PySem.Spec PyProof.Rows L2

/-! ### displays: the operands' things become shared -/
def sres : O → En → Option D
  | .val w, _ => w.fz
  | .slot i, env => match env[i]? with
    | some (.sh d) => some d
    | _ => none
def sress : List O → En → Option (List D)
  | [], _ => some []
  | o :: os, env => (sres o env).bind fun d => (sress os env).map fun ds => d :: ds
def eTup (ms : AM) : EM := fun env => (ms env).bind fun os env1 => match sress os env1 with
  | some ds => .ok (.val (.sh (.tup ds))) env1
  | none => .stuck
def eLst (ms : AM) : EM := fun env => (ms env).bind fun os env1 => match sress os env1 with
  | some ds => .ok (.val (.ol ds)) env1
  | none => .stuck
section
variable {K : PySem.W.Frag} {mg : Str → Option Value} {B B' H H' : Hp} {env env' : En} {σ : L2.St} {fp fp' : Nat → Fp} {Wd : WX} {F : Fp} {Q : VK}
theorem sres_rep {o : O} {v : V} {d : D} {B1 : Hp} (S : Sim K mg B H env σ fp) (h : OpRep K mg B H σ o v F) (e : sres o env = some d) (l : Le B B1) (k : ∀ b o, F b → H b = some o → B1 b = some o) : Rep K mg B1 d v := by
  cases o with
  | val w => exact RepW.fz h e l k
  | slot i =>
    have e1 : (match env[i]? with | some (.sh d) => some d | _ => none) = some d := e
    cases q : env[i]? with
    | none =>
      rw [q] at e1
      cases e1
    | some w =>
      rw [q] at e1
      cases w with
      | sh d' =>
        cases e1
        obtain ⟨v', hv, r⟩ := S.rep i _ q
        have z := hv (fun z => nomatch z)
        rw [h.1] at z
        cases z
        cases r with
        | sh r _ => exact r.mono l
      | _ => cases e1
theorem sress_rep {os : List O} {vs : List V} {B1 : Hp} (S : Sim K mg B H env σ fp) (h : OpsRep K mg B H σ os vs F) (l : Le B B1) : ∀ {ds : List D}, sress os env = some ds → (∀ b o, F b → H b = some o → B1 b = some o) → Reps K mg B1 ds vs := by
  induction h with
  | nil e =>
    intro ds q _
    cases q
    exact .nil
  | @cons o os v vs F1 F2 F h t dj e ih =>
    intro ds q k
    rw [sress] at q
    cases q1 : sres o env with
    | none =>
      rw [q1] at q
      cases q
    | some d =>
      cases q2 : sress os env with
      | none =>
        rw [q1, q2] at q
        cases q
      | some ds' =>
        rw [q1, q2] at q
        cases q
        exact .cons (sres_rep S h q1 l fun b o f => k b o ((e b).mpr (.inl f))) (ih q2 fun b o f => k b o ((e b).mpr (.inr f)))
/-- what is owned beside the slots becomes shared -/
theorem Aft.shared (a : Aft K mg B H fp env' σ B' H' fp' F) : Aft K mg B H fp env' σ (share B' H' F) H' fp' Nil := by
  have l : Le B' (share B' H' F) := share_bk a.nb
  refine ⟨a.sim.ext l (share_le a.sim.le) (fun _ _ _ h => h) (fun b h => ?_), ?_, fun _ h => h.elim, fun _ h => h.elim⟩
  · rw [share_out fun g => a.apart b g h]
    exact a.sim.nball b h
  · have g : Grow B' (share B' H' F) H' H' (Or2 (All fp') F) (Or2 (All fp') Nil) := share_grow a.nb (fun b h => .inr h) fun b h => h.elim .inl fun z => z.elim
    exact a.gr.trans g
theorem tup_step {ms : AM} {n : Nat} (hn : n ≤ 1000) (hl : ∀ env os env', ms env = .ok os env' → os.length = n) (h : tE K mg Wd (eTup ms) σ H Q) : tTup (tA K mg Wd ms) σ H Q := by
  obtain ⟨B, env, fp, S, r⟩ := h
  refine ⟨B, env, fp, S, ?_⟩
  unfold eTup at r
  cases e : ms env with
  | stuck =>
    rw [e] at r
    exact r
  | err x e1 =>
    rw [e] at r
    exact r
  | ok os env1 =>
    rw [e] at r
    simp only [Out.bind] at r
    intro vs B1 H1 fp1 F1 A1 R1
    cases q : sress os env1 with
    | none =>
      rw [q] at r
      exact r.elim
    | some ds =>
      rw [q] at r
      have A2 := A1.shared
      have rr := sress_rep (B1 := share B1 H1 F1) A1.sim R1 (share_bk A1.nb) q fun b o f h => by rw [share_in f]; exact h
      have lv : vs.length = n := by
        have lo : ∀ {os : List O} {vs : List V} {F : Fp}, OpsRep K mg B1 H1 σ os vs F → os.length = vs.length := fun {os vs F} h => by
          induction h with
          | nil _ => rfl
          | cons _ _ _ _ ih => simp [ih]
        rw [← lo R1]
        exact hl _ _ _ e
      refine ⟨by rw [lv]; exact Nat.le_of_lt (small1000 hn), fun p hp => ?_⟩
      have n := new_tup (p := p) A2.sim.le hp rr
      exact r _ _ _ _ _ (A2.new n) n.rep
theorem lst_step {ms : AM} {n : Nat} (hn : n ≤ 1000) (hl : ∀ env os env', ms env = .ok os env' → os.length = n) (h : tE K mg Wd (eLst ms) σ H Q) : tLst (tA K mg Wd ms) σ H Q := by
  obtain ⟨B, env, fp, S, r⟩ := h
  refine ⟨B, env, fp, S, ?_⟩
  unfold eLst at r
  cases e : ms env with
  | stuck =>
    rw [e] at r
    exact r
  | err x e1 =>
    rw [e] at r
    exact r
  | ok os env1 =>
    rw [e] at r
    simp only [Out.bind] at r
    intro vs B1 H1 fp1 F1 A1 R1
    cases q : sress os env1 with
    | none =>
      rw [q] at r
      exact r.elim
    | some ds =>
      rw [q] at r
      have A2 := A1.shared
      have rr := sress_rep (B1 := share B1 H1 F1) A1.sim R1 (share_bk A1.nb) q fun b o f h => by rw [share_in f]; exact h
      have lv : vs.length = n := by
        have lo : ∀ {os : List O} {vs : List V} {F : Fp}, OpsRep K mg B1 H1 σ os vs F → os.length = vs.length := fun {os vs F} h => by
          induction h with
          | nil _ => rfl
          | cons _ _ _ _ ih => simp [ih]
        rw [← lo R1]
        exact hl _ _ _ e
      refine ⟨by rw [lv]; exact Nat.le_of_lt (small1000 hn), fun p hp => ?_⟩
      have n := new_ol (p := p) A2.sim.le hp rr
      exact r _ _ _ _ _ (A2.new n) n.rep
end
section
variable {X : Cx} {Wd : WX} {pos : Pos} {es : List Expr} {ms : AM}
theorem se_tup {x1} (h : SA X Wd es ms) (hn : es.length ≤ 1000 := by decide) : SE X Wd (.Tuple es x1 pos) (eTup ms) := PE.less (pe_tup h.pa) fun _ _ _ q => tup_step hn h.len q
theorem se_lst (h : SA X Wd es ms) (hn : es.length ≤ 1000 := by decide) : SE X Wd (.List es pos) (eLst ms) := PE.less (pe_lst h.pa) fun _ _ _ q => lst_step hn h.len q
end

/-! ### defs -/
/-- what a call comes to: the value, what the in-out parameters hold at the end -/
inductive FOut where
  | ok (w : W) (outs : List W) | err (x : Ex) (outs : List W) | stuck
abbrev FM := List W → FOut
section
variable (K : PySem.W.Frag) (mg : Str → Option Value)
structure Args (B H : Hp) (ws : List W) (vs : List V) (fa : Nat → Fp) : Prop where
  len : ws.length = vs.length
  rep : ∀ (j : Nat) (w : W) (v : V), ws[j]? = some w → vs[j]? = some v → RepW K mg B H w v (fa j)
  out : ∀ j, ws.length ≤ j → ∀ b, ¬ fa j b
  dj : ∀ i j b, fa i b → fa j b → i = j
  nb : ∀ j b, fa j b → B b = none
/-- the in-out parameters (mask: which of the parameters) at the end -/
inductive Outs (B H : Hp) : List Bool → List V → List W → Fp → Prop where
  | nil {vs : List V} {F : Fp} (e : ∀ b, ¬ F b) : Outs B H [] vs [] F
  | no {ms : List Bool} {v : V} {vs : List V} {outs : List W} {F : Fp} (t : Outs B H ms vs outs F) : Outs B H (false :: ms) (v :: vs) outs F
  | yes {ms : List Bool} {v : V} {vs : List V} {w : W} {outs : List W} {F1 F2 F : Fp} (h : RepW K mg B H w v F1) (t : Outs B H ms vs outs F2) (dj : ∀ b, F1 b → ¬ F2 b) (e : ∀ b, F b ↔ F1 b ∨ F2 b) : Outs B H (true :: ms) (v :: vs) (w :: outs) F
/-- the promise of a def of n parameters whose mirror is m; io: which of them are in-out -/
def spM (m : FM) (n : Nat) (io : List Bool) : Sp := fun vs H Q E => vs.length = n ∧ ∃ B ws fa, Le B H ∧ Args K mg B H ws vs fa ∧ match m ws with
  | .stuck => False
  | .ok w outs => ∀ v B' H' F Fo, Le B' H' → RepW K mg B' H' w v F → Outs K mg B' H' io vs outs Fo → (∀ b, F b → ¬ Fo b) → (∀ b, Or2 Fo F b → B' b = none) → Grow B B' H H' (All fa) (Or2 Fo F) → Q v H'
  | .err x outs => ∀ cls d B' H' Fo, Le B' H' → Outs K mg B' H' io vs outs Fo → (∀ b, Fo b → B' b = none) → Grow B B' H H' (All fa) Fo → ExRep mg H' x cls d → E cls d H'
end
/-- a plain call: every argument is shared, or new -/
def ares : O → En → Option W
  | .val .gone, _ => none
  | .val w, _ => some w
  | .slot i, env => match env[i]? with
    | some (.sh d) => some (.sh d)
    | _ => none
def aress : List O → En → Option (List W)
  | [], _ => some []
  | o :: os, env => (ares o env).bind fun w => (aress os env).map fun ws => w :: ws
def FOut.plain : FOut → En → Out O
  | .ok w [], env => .ok (.val w) env
  | .err x [], env => .err x env
  | _, _ => .stuck
def eCall (f : FM) (ms : AM) : EM := fun env => (ms env).bind fun os env1 => match aress os env1 with
  | none => .stuck
  | some ws => (f ws).plain env1
section
variable {K : PySem.W.Frag} {mg : Str → Option Value} {B B' H H' : Hp} {env env' : En} {σ : L2.St} {fp fp' : Nat → Fp} {Wd : WX} {F : Fp} {Q : VK}
theorem Args.nil : Args K mg B H [] [] fun _ => Nil := ⟨rfl, fun j w v h => by simp at h, fun _ _ _ h => h.elim, fun _ _ _ h => h.elim, fun _ _ h => h.elim⟩
theorem Args.cons {w : W} {v : V} {ws : List W} {vs : List V} {fa : Nat → Fp} {F : Fp} (r : RepW K mg B H w v F) (t : Args K mg B H ws vs fa) (dj : ∀ b, F b → ¬ All fa b) (nb : ∀ b, F b → B b = none) :
    Args K mg B H (w :: ws) (v :: vs) fun j => match j with | 0 => F | j + 1 => fa j := by
  refine ⟨by simp [t.len], fun j w' v' h1 h2 => ?_, fun j hj b hb => ?_, fun i j b hi hj => ?_, fun j b hj => ?_⟩
  · cases j with
    | zero =>
      simp at h1 h2
      subst h1 h2
      exact r
    | succ j =>
      simp at h1 h2
      exact t.rep j w' v' h1 h2
  · cases j with
    | zero => simp at hj
    | succ j => exact t.out j (by simpa using hj) b hb
  · cases i with
    | zero =>
      cases j with
      | zero => rfl
      | succ j => exact absurd ⟨j, hj⟩ (dj b hi)
    | succ i =>
      cases j with
      | zero => exact absurd ⟨i, hi⟩ (dj b hj)
      | succ j => rw [t.dj i j b hi hj]
  · cases j with
    | zero => exact nb b hj
    | succ j => exact t.nb j b hj
theorem all_cons {F : Fp} {fa : Nat → Fp} {b : Addr} : All (fun j => match j with | 0 => F | j + 1 => fa j) b ↔ F b ∨ All fa b := by
  constructor
  · rintro ⟨j, h⟩
    cases j with
    | zero => exact .inl h
    | succ j => exact .inr ⟨j, h⟩
  · rintro (h | ⟨j, h⟩)
    · exact ⟨0, h⟩
    · exact ⟨j + 1, h⟩
theorem ares_rep {o : O} {v : V} {w : W} (S : Sim K mg B H env σ fp) (h : OpRep K mg B H σ o v F) (e : ares o env = some w) : RepW K mg B H w v F := by
  cases o with
  | val u =>
    have eu : u = w := by
      cases u <;> cases e <;> rfl
    rw [← eu]
    exact h
  | slot i =>
    have e1 : (match env[i]? with | some (.sh d) => some (W.sh d) | _ => none) = some w := e
    cases q : env[i]? with
    | none =>
      rw [q] at e1
      cases e1
    | some u =>
      rw [q] at e1
      cases u with
      | sh d =>
        cases e1
        obtain ⟨v', hv, r⟩ := S.rep i _ q
        have z := hv (fun z => nomatch z)
        rw [h.1] at z
        cases z
        cases r with
        | sh r _ => exact .sh r h.2
      | _ => cases e1
theorem aress_rep {os : List O} {vs : List V} (S : Sim K mg B H env σ fp) (h : OpsRep K mg B H σ os vs F) : ∀ {ws : List W}, aress os env = some ws → (∀ b, F b → B b = none) → ∃ fa, Args K mg B H ws vs fa ∧ ∀ b, All fa b ↔ F b := by
  induction h with
  | nil e =>
    intro ws q _
    cases q
    exact ⟨_, .nil, fun b => ⟨fun ⟨_, h⟩ => h.elim, fun h => absurd h (e b)⟩⟩
  | @cons o os v vs F1 F2 F h t dj e ih =>
    intro ws q nb
    rw [aress] at q
    cases q1 : ares o env with
    | none =>
      rw [q1] at q
      cases q
    | some w =>
      cases q2 : aress os env with
      | none =>
        rw [q1, q2] at q
        cases q
      | some ws' =>
        rw [q1, q2] at q
        cases q
        obtain ⟨fa, A, ea⟩ := ih q2 fun b f => nb b ((e b).mpr (.inr f))
        exact ⟨_, .cons (ares_rep S h q1) A (fun b f g => dj b f ((ea b).mp g)) fun b f => nb b ((e b).mpr (.inl f)), fun b => all_cons.trans ((or_congr Iff.rfl (ea b)).trans (e b).symm)⟩
theorem OpsRep.len {os : List O} {vs : List V} (h : OpsRep K mg B H σ os vs F) : os.length = vs.length := by
  induction h with
  | nil _ => rfl
  | cons _ _ _ _ ih => simp [ih]
theorem call_step {f : FM} {ms : AM} {n : Nat} (hl : ∀ env os env', ms env = .ok os env' → os.length = n) (h : tE K mg Wd (eCall f ms) σ H Q) : tA K mg Wd ms σ H fun vs H1 => spM K mg f n [] vs H1 Q fun cls d H' => Wd cls d σ H' := by
  obtain ⟨B, env, fp, S, r⟩ := h
  refine ⟨B, env, fp, S, ?_⟩
  unfold eCall at r
  cases e : ms env with
  | stuck =>
    rw [e] at r
    exact r
  | err x e1 =>
    rw [e] at r
    exact r
  | ok os env1 =>
    rw [e] at r
    simp only [Out.bind] at r
    intro vs B1 H1 fp1 F1 A1 R1
    cases q : aress os env1 with
    | none =>
      rw [q] at r
      exact r.elim
    | some ws =>
      have r : Res K mg (OpRep K mg) Wd σ B H fp ((f ws).plain env1) Q := by
        rw [q] at r
        exact r
      obtain ⟨fa, A, ea⟩ := aress_rep A1.sim R1 q A1.nb
      refine ⟨by rw [← R1.len]; exact hl _ _ _ e, B1, ws, fa, A1.sim.le, A, ?_⟩
      have ap : ∀ b, All fp1 b → ¬ All fa b := fun b g h => A1.apart b ((ea b).mp h) g
      have later : ∀ {B2 H2 : Hp} {G : Fp}, Le B2 H2 → Grow B1 B2 H1 H2 (All fa) G → (∀ b, G b → B2 b = none) → Aft K mg B H fp env1 σ B2 H2 fp1 G := fun {B2 H2 G} l g nb => by
        obtain ⟨k, n2, ap2⟩ := g.beside (G := All fp1) ap A1.sim.nball A1.sim.there
        refine ⟨A1.sim.ext g.bk l k n2, ?_, fun b h g' => ap2 b g' h, nb⟩
        have g1 : Grow B1 B2 H1 H2 (Or2 (All fp1) F1) (Or2 G (All fp1)) := (g.frame (All fp1)).more fun b h => h.elim (fun h => .inr ((ea b).mp h)) .inl
        exact (A1.gr.trans g1).less fun b h => h.elim .inr .inl
      cases q2 : f ws with
      | stuck =>
        rw [q2] at r
        exact r.elim
      | ok w outs =>
        cases outs with
        | cons _ _ =>
          rw [q2] at r
          exact r.elim
        | nil =>
          rw [q2] at r
          intro v B2 H2 F2 Fo l rv ho dj nb g
          exact r v B2 H2 fp1 F2 (later l (g.less fun b h => .inr h) fun b h => nb b (.inr h)) rv
      | err x outs =>
        cases outs with
        | cons _ _ =>
          rw [q2] at r
          exact r.elim
        | nil =>
          rw [q2] at r
          intro cls d B2 H2 Fo l ho nb g xr
          exact r cls d B2 H2 fp1 (later l (g.less fun b h => h.elim) fun _ h => h.elim) xr
end
/-- the function x of the text keeps its mirror's promise -/
structure FO (P : Program) (w : World) (K : PySem.W.Frag) (mg : Str → Option Value) (base : Heap) (x : Str) (k n : Nat) (io : List Bool) (m : FM) : Prop where
  ex : ∃ (f : Addr) (fd : FuncData) (ps : List Str), mg x = some (.ref f) ∧ PySem.W.keepIn K (.ref f) = true ∧ Binds K fd ps [] ∧ FnOk P w K mg base (L2.CX P w) k f fd ps (spM K mg m n io)
/-! ### in-out arguments (true in the mask): the slot's thing is lent, and taken back as it is at the end -/
def iores : Bool → O → En → Option W
  | false, o, env => ares o env
  | true, .val w, env => ares (.val w) env
  | true, .slot i, env => match env[i]? with
    | some .gone => none
    | some w => some w
    | none => none
def ioress : List Bool → List O → En → Option (List W)
  | m :: ms, o :: os, env => (iores m o env).bind fun w => (ioress ms os env).map fun ws => w :: ws
  | [], os, env => aress os env
  | _, [], _ => some []
/-- the slots of the in-out arguments -/
def ios : List Bool → List O → List Nat
  | true :: ms, .slot i :: os => i :: ios ms os
  | _ :: ms, _ :: os => ios ms os
  | _, _ => []
def distB : List Nat → Bool
  | [] => true
  | i :: r => !r.contains i && distB r
def clr : List Nat → En → En
  | [], env => env
  | i :: r, env => clr r (env.set i .gone)
def put : List Bool → List O → List W → En → En
  | true :: ms, .slot i :: os, w :: outs, env => put ms os outs (env.set i w)
  | true :: ms, .val _ :: os, _ :: outs, env => put ms os outs env
  | false :: ms, _ :: os, outs, env => put ms os outs env
  | _, _, _, env => env
def FOut.back (io : List Bool) (os : List O) (env : En) : FOut → Out O
  | .ok w outs => .ok (.val w) (put io os outs (clr (ios io os) env))
  | .err x outs => .err x (put io os outs (clr (ios io os) env))
  | .stuck => .stuck
def eCallI (f : FM) (io : List Bool) (ms : AM) : EM := fun env => (ms env).bind fun os env1 => match ioress io os env1 with
  | none => .stuck
  | some ws => if distB (ios io os) = true then (f ws).back io os env1 else .stuck
section
variable {K : PySem.W.Frag} {mg : Str → Option Value} {B B' H H' : Hp} {env env' : En} {σ : L2.St} {fp fp' : Nat → Fp} {Wd : WX} {F : Fp} {Q : VK}
theorem distB_cons {i : Nat} {r : List Nat} (h : distB (i :: r) = true) : i ∉ r ∧ distB r = true := by
  have h1 : (!r.contains i && distB r) = true := h
  rw [Bool.and_eq_true] at h1
  obtain ⟨h1, h2⟩ := h1
  refine ⟨fun hm => ?_, h2⟩
  have z : r.contains i = true := List.contains_iff_mem.mpr hm
  rw [z] at h1
  cases h1
theorem clr_len (l : List Nat) (env : En) : (clr l env).length = env.length := by
  induction l generalizing env with
  | nil => rfl
  | cons i r ih =>
    rw [clr, ih]
    simp
/-- the slots without what is lent -/
theorem clr_sim {l : List Nat} : ∀ {env : En} {fp : Nat → Fp}, Sim K mg B H env σ fp → ∃ fp1, Sim K mg B H (clr l env) σ fp1 ∧ (∀ i b, fp1 i b → fp i b) ∧ ∀ i b, fp1 i b → i ∉ l := by
  induction l with
  | nil => intro env fp S; exact ⟨fp, S, fun _ _ h => h, fun i b _ => List.not_mem_nil⟩
  | cons i r ih =>
    intro env fp S
    by_cases hi : i < env.length
    · have S1 : Sim K mg B H (env.set i .gone) σ (fpS fp i Nil) := S.turn hi (fun z => absurd rfl z) (.gone (v := .non) nil_no) (fun _ z => z.elim) fun _ z => z.elim
      obtain ⟨fp1, S2, h1, h2⟩ := ih S1
      refine ⟨fp1, S2, fun j b h => ?_, fun j b h hm => ?_⟩
      · have z := h1 j b h
        by_cases e : j = i
        · rw [e, fpS_same] at z
          exact z.elim
        · rw [fpS_ne e] at z
          exact z
      · rcases List.mem_cons.mp hm with e | hm
        · have z := h1 j b h
          rw [e, fpS_same] at z
          exact z
        · exact h2 j b h hm
    · have e0 : env.set i .gone = env := List.set_eq_of_length_le (by omega)
      obtain ⟨fp1, S2, h1, h2⟩ := ih S
      refine ⟨fp1, by rw [clr, e0]; exact S2, h1, fun j b h hm => ?_⟩
      rcases List.mem_cons.mp hm with e | hm
      · exact S.out j (by omega) b (h1 j b h)
      · exact h2 j b h hm
theorem iores_rep {m : Bool} {o : O} {v : V} {w : W} (S : Sim K mg B H env σ fp) (h : OpRep K mg B H σ o v F) (e : iores m o env = some w) :
    (RepW K mg B H w v F ∧ ∀ i, m = true → o ≠ .slot i) ∨ (∃ i, m = true ∧ o = .slot i ∧ i < env.length ∧ RepW K mg B H w v (fp i)) ∨ (m = false ∧ RepW K mg B H w v F) := by
  cases m with
  | false => exact .inr (.inr ⟨rfl, ares_rep S h e⟩)
  | true =>
    cases o with
    | val u => exact .inl ⟨ares_rep S h e, fun i _ z => nomatch z⟩
    | slot i =>
      refine .inr (.inl ⟨i, rfl, rfl, ?_⟩)
      have e1 : (match env[i]? with | some .gone => none | some w => some w | none => none) = some w := e
      cases q : env[i]? with
      | none =>
        rw [q] at e1
        cases e1
      | some u =>
        obtain ⟨v', hv, r⟩ := S.rep i u q
        have ng : u ≠ .gone := fun z => by rw [q, z] at e1; cases e1
        have eu : u = w := by
          rw [q] at e1
          cases u <;> cases e1 <;> rfl
        have z := hv ng
        rw [h.1] at z
        cases z
        rw [eu] at r
        exact ⟨(List.getElem?_eq_some_iff.mp q).1, r⟩
theorem ioress_rep {os : List O} {vs : List V} (S : Sim K mg B H env σ fp) (h : OpsRep K mg B H σ os vs F) : ∀ {io : List Bool} {ws : List W}, ioress io os env = some ws → distB (ios io os) = true → (∀ b, F b → B b = none) → (∀ b, F b → ¬ All fp b) →
    ∃ fa, Args K mg B H ws vs fa ∧ ∀ b, All fa b ↔ F b ∨ ∃ i ∈ ios io os, fp i b := by
  induction h with
  | nil e =>
    intro io ws q _ _ _
    have e2 : ws = [] ∧ ios io [] = [] := by
      cases io with
      | nil => cases q; exact ⟨rfl, rfl⟩
      | cons m ms => cases q; exact ⟨rfl, by cases m <;> rfl⟩
    obtain ⟨rfl, e3⟩ := e2
    refine ⟨_, .nil, fun b => ⟨fun ⟨_, h⟩ => h.elim, fun h => ?_⟩⟩
    rcases h with h | ⟨i, hi, _⟩
    · exact absurd h (e b)
    · rw [e3] at hi
      cases hi
  | @cons o os v vs F1 F2 F h t dj e ih =>
    intro io ws q ds nb ap
    cases io with
    | nil =>
      have q' : aress (o :: os) env = some ws := q
      obtain ⟨fa, A, ea⟩ := aress_rep S (OpsRep.cons h t dj e) q' nb
      refine ⟨fa, A, fun b => (ea b).trans ⟨.inl, fun h => h.elim id fun ⟨i, hi, _⟩ => nomatch hi⟩⟩
    | cons m ms =>
      rw [ioress] at q
      cases q1 : iores m o env with
      | none =>
        rw [q1] at q
        cases q
      | some w =>
        cases q2 : ioress ms os env with
        | none =>
          rw [q1, q2] at q
          cases q
        | some ws' =>
          rw [q1, q2] at q
          cases q
          have nb2 : ∀ b, F2 b → B b = none := fun b f => nb b ((e b).mpr (.inr f))
          have ap2 : ∀ b, F2 b → ¬ All fp b := fun b f => ap b ((e b).mpr (.inr f))
          -- not an in-out slot
          have plain : RepW K mg B H w v F1 → ios (m :: ms) (o :: os) = ios ms os → ∃ fa, Args K mg B H (w :: ws') (v :: vs) fa ∧ ∀ b, All fa b ↔ F b ∨ ∃ i ∈ ios (m :: ms) (o :: os), fp i b := fun r ei => by
            rw [ei] at ds
            obtain ⟨fa, A, ea⟩ := ih q2 ds nb2 ap2
            refine ⟨_, .cons r A (fun b f g => ?_) (fun b f => nb b ((e b).mpr (.inl f))), fun b => ?_⟩
            · rcases (ea b).mp g with g | ⟨i, _, g⟩
              · exact dj b f g
              · exact ap b ((e b).mpr (.inl f)) ⟨i, g⟩
            · rw [all_cons, ea, e, ei, or_assoc]
          rcases iores_rep S h q1 with ⟨r, ne⟩ | ⟨i, rfl, rfl, hi, r⟩ | ⟨rfl, r⟩
          · refine plain r ?_
            cases m with
            | false => rfl
            | true =>
              cases o with
              | val u => rfl
              | slot i => exact absurd rfl (ne i rfl)
          · have ei : ios (true :: ms) (O.slot i :: os) = i :: ios ms os := rfl
            rw [ei] at ds
            obtain ⟨d1, d2⟩ := distB_cons ds
            obtain ⟨fa, A, ea⟩ := ih q2 d2 nb2 ap2
            have n1 : ∀ b, ¬ F1 b := h.2
            refine ⟨_, .cons r A (fun b f g => ?_) (fun b f => S.nb i b f), fun b => ?_⟩
            · rcases (ea b).mp g with g | ⟨j, hj, g⟩
              · exact ap2 b g ⟨i, f⟩
              · have ij := S.dj i j b f g
                rw [ij] at d1
                exact d1 hj
            · rw [all_cons, ea, e, ei]
              constructor
              · rintro (f | f | ⟨j, hj, f⟩)
                · exact .inr ⟨i, List.mem_cons_self, f⟩
                · exact .inl (.inr f)
                · exact .inr ⟨j, List.mem_cons_of_mem _ hj, f⟩
              · rintro ((f | f) | ⟨j, hj, f⟩)
                · exact absurd f (n1 b)
                · exact .inr (.inl f)
                · rcases List.mem_cons.mp hj with rfl | hj
                  · exact .inl f
                  · exact .inr (.inr ⟨j, hj, f⟩)
          · exact plain r rfl
/-- what was lent comes back -/
theorem put_sim {io : List Bool} {vs : List V} {outs : List W} {Fo : Fp} (o : Outs K mg B H io vs outs Fo) : ∀ {os : List O} {env : En} {fp : Nat → Fp} {F : Fp} {B0 H0 : Hp}, OpsRep K mg B0 H0 σ os vs F → Sim K mg B H env σ fp → (∀ b, Fo b → B b = none) → (∀ b, Fo b → ¬ All fp b) → distB (ios io os) = true →
    (∀ i b, i ∈ ios io os → ¬ fp i b) → (∀ i ∈ ios io os, i < env.length) → ∃ fp2, Sim K mg B H (put io os outs env) σ fp2 ∧ (∀ b, All fp2 b → All fp b ∨ Fo b) := by
  induction o with
  | nil e =>
    intro os env fp F B0 H0 _ S _ _ _ _ _
    refine ⟨fp, ?_, fun _ h => .inl h⟩
    have : put [] os [] env = env := by cases os <;> rfl
    rw [this]
    exact S
  | @no ms v vs outs F t ih =>
    intro os env fp G B0 H0 hO S nb ap ds nf hl
    cases hO with
    | @cons o os v vs F1 F2 G h1 t1 dj1 e1 =>
      have e2 : put (false :: ms) (o :: os) outs env = put ms os outs env := by cases o <;> rfl
      have e3 : ios (false :: ms) (o :: os) = ios ms os := by cases o <;> rfl
      rw [e2]
      rw [e3] at ds nf hl
      exact ih t1 S nb ap ds nf hl
  | @yes ms v vs w outs F1 F2 Fo h t dj e ih =>
    intro os env fp G B0 H0 hO S nb ap ds nf hl
    cases hO with
    | @cons o os v vs G1 G2 G h1 t1 dj1 e1 =>
      cases o with
      | val u =>
        have e2 : put (true :: ms) (O.val u :: os) (w :: outs) env = put ms os outs env := rfl
        have e3 : ios (true :: ms) (O.val u :: os) = ios ms os := rfl
        rw [e2]
        rw [e3] at ds nf hl
        obtain ⟨fp2, S2, a2⟩ := ih t1 S (fun b f => nb b ((e b).mpr (.inr f))) (fun b f => ap b ((e b).mpr (.inr f))) ds nf hl
        exact ⟨fp2, S2, fun b g => (a2 b g).imp id fun f => (e b).mpr (.inr f)⟩
      | slot i =>
        have e2 : put (true :: ms) (O.slot i :: os) (w :: outs) env = put ms os outs (env.set i w) := rfl
        have e3 : ios (true :: ms) (O.slot i :: os) = i :: ios ms os := rfl
        rw [e2]
        rw [e3] at ds nf hl
        obtain ⟨d1, d2⟩ := distB_cons ds
        have S1 := S.turn (i := i) (w := w) (v := v) (F := F1) (hl i List.mem_cons_self) (fun _ => h1.1) h (fun b f => nb b ((e b).mpr (.inl f))) fun b f j _ g => ap b ((e b).mpr (.inl f)) ⟨j, g⟩
        have k1 : ∀ b, F2 b → ¬ All (fpS fp i F1) b := fun b f g => by
          rcases all_set g with g | g
          · exact ap b ((e b).mpr (.inr f)) g
          · exact dj b g f
        have k2 : ∀ j b, j ∈ ios ms os → ¬ fpS fp i F1 j b := fun j b hj g => by
          by_cases q : j = i
          · rw [q] at hj
            exact d1 hj
          · rw [fpS_ne q] at g
            exact nf j b (List.mem_cons_of_mem _ hj) g
        obtain ⟨fp2, S2, a2⟩ := ih t1 S1 (fun b f => nb b ((e b).mpr (.inr f))) k1 d2 k2 (fun j hj => by rw [List.length_set]; exact hl j (List.mem_cons_of_mem _ hj))
        refine ⟨fp2, S2, fun b g => ?_⟩
        rcases a2 b g with g | g
        · rcases all_set g with g | g
          · exact .inl g
          · exact .inr ((e b).mpr (.inl g))
        · exact .inr ((e b).mpr (.inr g))
theorem ios_lt {os : List O} {env : En} : ∀ {io : List Bool} {ws : List W}, ioress io os env = some ws → ∀ i ∈ ios io os, i < env.length := by
  induction os with
  | nil =>
    intro io ws _ i hi
    cases io with
    | nil => cases hi
    | cons m ms => cases m <;> cases hi
  | cons o os ih =>
    intro io ws q i hi
    cases io with
    | nil => cases hi
    | cons m ms =>
      rw [ioress] at q
      cases q1 : iores m o env with
      | none =>
        rw [q1] at q
        cases q
      | some w =>
        cases q2 : ioress ms os env with
        | none =>
          rw [q1, q2] at q
          cases q
        | some ws' =>
          cases m with
          | false =>
            have hi : i ∈ ios ms os := by cases o <;> exact hi
            exact ih q2 i hi
          | true =>
            cases o with
            | val u => exact ih q2 i hi
            | slot j =>
              rcases List.mem_cons.mp (show i ∈ j :: ios ms os from hi) with rfl | hi
              · have e1 : (match env[i]? with | some .gone => none | some w => some w | none => none) = some w := q1
                cases q3 : env[i]? with
                | none =>
                  rw [q3] at e1
                  cases e1
                | some u => exact (List.getElem?_eq_some_iff.mp q3).1
              · exact ih q2 i hi
theorem callI_step {f : FM} {io : List Bool} {ms : AM} {n : Nat} (hl : ∀ env os env', ms env = .ok os env' → os.length = n) (h : tE K mg Wd (eCallI f io ms) σ H Q) : tA K mg Wd ms σ H fun vs H1 => spM K mg f n io vs H1 Q fun cls d H' => Wd cls d σ H' := by
  obtain ⟨B, env, fp, S, r⟩ := h
  refine ⟨B, env, fp, S, ?_⟩
  unfold eCallI at r
  cases e : ms env with
  | stuck =>
    rw [e] at r
    exact r
  | err x e1 =>
    rw [e] at r
    exact r
  | ok os env1 =>
    rw [e] at r
    simp only [Out.bind] at r
    intro vs B1 H1 fp1 F1 A1 R1
    cases q : ioress io os env1 with
    | none =>
      rw [q] at r
      exact r.elim
    | some ws =>
      by_cases dd : distB (ios io os) = true
      · have r : Res K mg (OpRep K mg) Wd σ B H fp ((f ws).back io os env1) Q := by
          rw [q] at r
          simp only [if_pos dd] at r
          exact r
        obtain ⟨fa, A, ea⟩ := ioress_rep A1.sim R1 q dd A1.nb A1.apart
        refine ⟨by rw [← R1.len]; exact hl _ _ _ e, B1, ws, fa, A1.sim.le, A, ?_⟩
        obtain ⟨fc, Sc, sub, out⟩ := clr_sim (l := ios io os) A1.sim
        have ap : ∀ b, All fc b → ¬ All fa b := fun b ⟨i, g⟩ h => by
          rcases (ea b).mp h with h | ⟨j, hj, h⟩
          · exact A1.apart b h ⟨i, sub i b g⟩
          · have ij := A1.sim.dj i j b (sub i b g) h
            rw [← ij] at hj
            exact out i b g hj
        have later : ∀ {B2 H2 : Hp} {F2 Fo : Fp} {outs : List W}, Le B2 H2 → Outs K mg B2 H2 io vs outs Fo → Grow B1 B2 H1 H2 (All fa) (Or2 Fo F2) → (∀ b, F2 b → ¬ Fo b) → (∀ b, Or2 Fo F2 b → B2 b = none) →
            ∃ fp2, Aft K mg B H fp (put io os outs (clr (ios io os) env1)) σ B2 H2 fp2 F2 := fun {B2 H2 F2 Fo outs} l ho g dj nb => by
          obtain ⟨k, n2, ap2⟩ := g.beside (G := All fc) ap Sc.nball Sc.there
          have S2 := Sc.ext g.bk l k n2
          obtain ⟨fp2, S3, a3⟩ := put_sim ho R1 S2 (fun b f => nb b (.inl f)) (fun b f h => ap2 b h (.inl f)) dd (fun i b hi h => out i b h hi) fun i hi => by
            rw [clr_len]
            exact ios_lt q i hi
          refine ⟨fp2, S3, ?_, fun b f h => ?_, fun b f => nb b (.inr f)⟩
          · have g1 : Grow B1 B2 H1 H2 (Or2 (All fp1) F1) (Or2 (Or2 Fo F2) (All fc)) := (g.frame (All fc)).more fun b h => by
              rcases h with h | ⟨i, h⟩
              · rcases (ea b).mp h with h | ⟨i, _, h⟩
                · exact .inr h
                · exact .inl ⟨i, h⟩
              · exact .inl ⟨i, sub i b h⟩
            refine (A1.gr.trans g1).less fun b h => ?_
            rcases h with h | h
            · rcases a3 b h with h | h
              · exact .inr h
              · exact .inl (.inl h)
            · exact .inl (.inr h)
          · rcases a3 b h with h | h
            · exact ap2 b h (.inr f)
            · exact dj b f h
        cases q2 : f ws with
        | stuck =>
          rw [q2] at r
          exact r.elim
        | ok w outs =>
          rw [q2] at r
          intro v B2 H2 F2 Fo l rv ho dj nb g
          obtain ⟨fp2, A2⟩ := later l ho g dj nb
          exact r v B2 H2 fp2 F2 A2 rv
        | err x outs =>
          rw [q2] at r
          intro cls d B2 H2 Fo l ho nb g xr
          obtain ⟨fp2, A2⟩ := later (F2 := Nil) l ho (g.less fun b h => h.elim id fun z => z.elim) (fun _ h => h.elim) fun b h => h.elim (nb b) fun z => z.elim
          exact r cls d B2 H2 fp2 A2 xr
      · rw [q] at r
        simp only [if_neg dd] at r
        exact r.elim
end
section
variable {X : Cx} {Wd : WX} {pos : Pos} {e : Expr} {es : List Expr} {ms : AM}
theorem se_call {x : Str} {k j n : Nat} {p : Pos} {m : FM} (G : FO X.prog X.w X.K X.mg X.base x k n [] m) (hr : Room j X.A) (hk : k ≤ j) (tk : Takes X Wd) (hg : Gl X x) (ha : SA X Wd (e :: es) ms) (hn : (e :: es).length = n)
    (hdb : (x == ("__debug__" : Str)) = false := by decide) (he : starEach (e :: es) X.env = (false, eval e X.env) :: starEach es X.env := by rfl) (hpl : (backTo pos (starEach es X.env)).any (·.1) = false := by rfl) :
    SE X Wd (.Call (.Name x p) (e :: es) [] pos) (eCall m ms) := by
  obtain ⟨f, fd, ps, hm, kp, b, F⟩ := G.ex
  refine PE.less (pe_callSD (E := fun σ cls d H => Wd cls d σ H) F (hr.mono hk) hg hm kp b (dvs := []) .nil (fun σ => passAt tk σ) ha.pa hdb he hpl) fun σ H Q h => ?_
  refine (call_step (n := n) (fun env os env' q => (ha.len env os env' q).trans hn) h).mono fun vs H1 h1 => ?_
  rw [List.append_nil]
  exact h1
theorem se_callI {x : Str} {k j n : Nat} {p : Pos} {io : List Bool} {m : FM} (G : FO X.prog X.w X.K X.mg X.base x k n io m) (hr : Room j X.A) (hk : k ≤ j) (tk : Takes X Wd) (hg : Gl X x) (ha : SA X Wd (e :: es) ms) (hn : (e :: es).length = n)
    (hdb : (x == ("__debug__" : Str)) = false := by decide) (he : starEach (e :: es) X.env = (false, eval e X.env) :: starEach es X.env := by rfl) (hpl : (backTo pos (starEach es X.env)).any (·.1) = false := by rfl) :
    SE X Wd (.Call (.Name x p) (e :: es) [] pos) (eCallI m io ms) := by
  obtain ⟨f, fd, ps, hm, kp, b, F⟩ := G.ex
  refine PE.less (pe_callSD (E := fun σ cls d H => Wd cls d σ H) F (hr.mono hk) hg hm kp b (dvs := []) .nil (fun σ => passAt tk σ) ha.pa hdb he hpl) fun σ H Q h => ?_
  refine (callI_step (n := n) (fun env os env' q => (ha.len env os env' q).trans hn) h).mono fun vs H1 h1 => ?_
  rw [List.append_nil]
  exact h1
end
end Mi
set_option maxRecDepth 100000
/-! Mi5: statements, bodies. -/
namespace Mi
open PySem PySem.Spec PyProof.Rows L2

inductive Fl where
  | nx | rt (w : W) | bk | ct
abbrev SM := En → Out Fl
/-- the slots at kp keep their values -/
abbrev Kp := Nat → Bool
def Keep (kp : Kp) (σ σ' : L2.St) : Prop := ∀ i, kp i = true → σ'[i]? = σ[i]?
theorem Keep.refl (kp : Kp) (σ : L2.St) : Keep kp σ σ := fun _ _ => rfl
theorem Keep.trans {kp : Kp} {σ σ1 σ2 : L2.St} (a : Keep kp σ σ1) (b : Keep kp σ1 σ2) : Keep kp σ σ2 := fun i h => (b i h).trans (a i h)
theorem Keep.set {kp : Kp} {σ : L2.St} {i : Nat} {v : Option V} (h : kp i = false) : Keep kp σ (σ.set i v) := fun j hj => List.getElem?_set_ne (fun e => by rw [e, hj] at h; cases h)
section
variable (K : PySem.W.Frag) (mg : Str → Option Value)
def ResS (Wd : WX) (kp : Kp) (σ : L2.St) (B H : Hp) (fp : Nat → Fp) (out : Out Fl) (D : Ends) : Prop := match out with
  | .stuck => False
  | .err x env' => ∀ cls d σ' B' H' fp', Aft K mg B H fp env' σ' B' H' fp' Nil → Keep kp σ σ' → ExRep mg H' x cls d → Wd cls d σ' H'
  | .ok .nx env' => ∀ σ' B' H' fp', Aft K mg B H fp env' σ' B' H' fp' Nil → Keep kp σ σ' → D.nx σ' H'
  | .ok .bk env' => ∀ σ' B' H' fp', Aft K mg B H fp env' σ' B' H' fp' Nil → Keep kp σ σ' → D.bk σ' H'
  | .ok .ct env' => ∀ σ' B' H' fp', Aft K mg B H fp env' σ' B' H' fp' Nil → Keep kp σ σ' → D.ct σ' H'
  | .ok (.rt w) env' => ∀ v σ' B' H' fp' F, Aft K mg B H fp env' σ' B' H' fp' F → Keep kp σ σ' → RepW K mg B' H' w v F → D.rt v H'
def tS (Wd : WX) (kp : Kp) (m : SM) : TS := fun D σ H => ∃ B env fp, Sim K mg B H env σ fp ∧ ResS K mg Wd kp σ B H fp (m env) D
end
abbrev SS (X : Cx) (Wd : WX) (kp : Kp) (s : Stmt) (m : SM) : Prop := PS X s (tS X.K X.mg Wd kp m)
abbrev SB (X : Cx) (Wd : WX) (kp : Kp) (s : List Stmt) (m : SM) : Prop := PSs X s (tS X.K X.mg Wd kp m)
theorem PS.less {X : Cx} {s : Stmt} {t t' : TS} (h : PS X s t) (i : ∀ D σ H, t' D σ H → t D σ H) : PS X s t' := ⟨fun pins s σ H D I q => h.run pins s σ H D I (i D σ H q)⟩
theorem PSs.less {X : Cx} {s : List Stmt} {t t' : TS} (h : PSs X s t) (i : ∀ D σ H, t' D σ H → t D σ H) : PSs X s t' := ⟨fun pins s σ H D I q => h.run pins s σ H D I (i D σ H q)⟩

def sNx : SM := fun env => .ok .nx env
def sBk : SM := fun env => .ok .bk env
def sCt : SM := fun env => .ok .ct env
def sSeq (a b : SM) : SM := fun env => (a env).bind fun f env1 => match f with
  | .nx => b env1
  | f => .ok f env1
def sSet (i : Nat) (m : EM) : SM := fun env => (m env).bind fun o env1 => match ares o env1 with
  | some w => .ok .nx (env1.set i w)
  | none => .stuck
def sDrop (m : EM) : SM := fun env => (m env).bind fun _ env1 => .ok .nx env1
def sRet (m : EM) : SM := fun env => (m env).bind fun o env1 => match ares o env1 with
  | some w => .ok (.rt w) env1
  | none => .stuck
def sRetN : SM := fun env => .ok (.rt (.sh .non)) env
def sIf (c : BM) (a b : SM) : SM := fun env => (c env).bind fun k env1 => if k = true then a env1 else b env1
section
variable {K : PySem.W.Frag} {mg : Str → Option Value} {B B' H H' : Hp} {env env' : En} {σ σ1 : L2.St} {fp fp' : Nat → Fp} {Wd : WX} {F : Fp} {kp : Kp} {D D' : Ends}
theorem ResS.imp {out : Out Fl} (h : ResS K mg Wd kp σ B H fp out D) (n : ∀ σ H, D.nx σ H → D'.nx σ H) (b : ∀ σ H, D.bk σ H → D'.bk σ H) (c : ∀ σ H, D.ct σ H → D'.ct σ H) (r : ∀ v H, D.rt v H → D'.rt v H) : ResS K mg Wd kp σ B H fp out D' := by
  cases out with
  | stuck => exact h
  | err x e => exact h
  | ok f e =>
    cases f with
    | nx => exact fun σ' B' H' fp' A k => n _ _ (h σ' B' H' fp' A k)
    | bk => exact fun σ' B' H' fp' A k => b _ _ (h σ' B' H' fp' A k)
    | ct => exact fun σ' B' H' fp' A k => c _ _ (h σ' B' H' fp' A k)
    | rt w => exact fun v σ' B' H' fp' F A k rr => r _ _ (h v σ' B' H' fp' F A k rr)
/-- from a later state -/
theorem ResS.later {out : Out Fl} {B1 H1 : Hp} {fp1 : Nat → Fp} {env1 : En} (h : ResS K mg Wd kp σ B H fp out D) (A : Aft K mg B H fp env1 σ1 B1 H1 fp1 Nil) (k : Keep kp σ σ1) : ResS K mg Wd kp σ1 B1 H1 fp1 out D := by
  cases out with
  | stuck => exact h
  | err x e => exact fun cls d σ' B' H' fp' A' k' xr => h cls d σ' B' H' fp' (A.trans A') (k.trans k') xr
  | ok f e =>
    cases f with
    | nx => exact fun σ' B' H' fp' A' k' => h σ' B' H' fp' (A.trans A') (k.trans k')
    | bk => exact fun σ' B' H' fp' A' k' => h σ' B' H' fp' (A.trans A') (k.trans k')
    | ct => exact fun σ' B' H' fp' A' k' => h σ' B' H' fp' (A.trans A') (k.trans k')
    | rt w => exact fun v σ' B' H' fp' F A' k' rr => h v σ' B' H' fp' F (A.trans A') (k.trans k') rr
theorem nx_step (h : tS K mg Wd kp sNx D σ H) : D.nx σ H := by
  obtain ⟨B, env, fp, S, r⟩ := h
  exact r σ B H fp (Aft.refl S) (Keep.refl _ _)
theorem bk_step (h : tS K mg Wd kp sBk D σ H) : D.bk σ H := by
  obtain ⟨B, env, fp, S, r⟩ := h
  exact r σ B H fp (Aft.refl S) (Keep.refl _ _)
theorem ct_step (h : tS K mg Wd kp sCt D σ H) : D.ct σ H := by
  obtain ⟨B, env, fp, S, r⟩ := h
  exact r σ B H fp (Aft.refl S) (Keep.refl _ _)
theorem seq_step {a b : SM} (h : tS K mg Wd kp (sSeq a b) D σ H) : tS K mg Wd kp a { D with nx := fun σ H => tS K mg Wd kp b D σ H } σ H := by
  obtain ⟨B, env, fp, S, r⟩ := h
  refine ⟨B, env, fp, S, ?_⟩
  unfold sSeq at r
  cases e : a env with
  | stuck =>
    rw [e] at r
    exact r
  | err x e1 =>
    rw [e] at r
    exact r
  | ok f env1 =>
    rw [e] at r
    simp only [Out.bind] at r
    cases f with
    | nx => exact fun σ' B' H' fp' A k => ⟨B', env1, fp', A.sim, ResS.later r A k⟩
    | bk => exact r
    | ct => exact r
    | rt w => exact r
/-- an expression, then what follows its value -/
theorem exp_stepE {m : EM} {k : O → En → Out Fl} {env : En} {fp : Nat → Fp} {Q : VK} (S : Sim K mg B H env σ fp) (h : ResS K mg Wd kp σ B H fp ((m env).bind k) D)
    (hQ : ∀ o env1, m env = .ok o env1 → ResS K mg Wd kp σ B H fp (k o env1) D → ∀ v B1 H1 fp1 F1, Aft K mg B H fp env1 σ B1 H1 fp1 F1 → OpRep K mg B1 H1 σ o v F1 → Q v H1) : tE K mg Wd m σ H Q := by
  refine ⟨B, env, fp, S, ?_⟩
  cases e : m env with
  | stuck =>
    rw [e] at h
    exact h
  | err x e1 =>
    rw [e] at h
    exact fun cls d B' H' fp' A xr => h cls d σ B' H' fp' A (Keep.refl _ _) xr
  | ok o env1 =>
    rw [e] at h
    exact fun v B1 H1 fp1 F1 A R => hQ o env1 e h v B1 H1 fp1 F1 A R
theorem exp_step {m : EM} {k : O → En → Out Fl} {env : En} {fp : Nat → Fp} {Q : VK} (S : Sim K mg B H env σ fp) (h : ResS K mg Wd kp σ B H fp ((m env).bind k) D)
    (hQ : ∀ o env1, ResS K mg Wd kp σ B H fp (k o env1) D → ∀ v B1 H1 fp1 F1, Aft K mg B H fp env1 σ B1 H1 fp1 F1 → OpRep K mg B1 H1 σ o v F1 → Q v H1) : tE K mg Wd m σ H Q := exp_stepE S h fun o env1 _ => hQ o env1
/-- slot i is given what is owned beside -/
theorem Aft.put (A : Aft K mg B H fp env' σ B' H' fp' F) {w : W} {v : V} (r : RepW K mg B' H' w v F) (i : Nat) : ∃ fp2, Aft K mg B H fp (env'.set i w) (σ.set i (some v)) B' H' fp2 Nil := by
  by_cases hi : i < env'.length
  · refine ⟨fpS fp' i F, A.sim.set hi r A.nb fun b f j _ g => A.apart b f ⟨j, g⟩, A.gr.less fun c h => ?_, fun _ h => h.elim, fun _ h => h.elim⟩
    rcases h with h | h
    · exact all_set h
    · exact h.elim
  · have e1 : env'.set i w = env' := List.set_eq_of_length_le (by omega)
    have e2 : σ.set i (some v) = σ := List.set_eq_of_length_le (by rw [← A.sim.len]; omega)
    rw [e1, e2]
    exact ⟨fp', A.drop⟩
theorem set_step {i : Nat} {m : EM} (hi : kp i = false) (h : tS K mg Wd kp (sSet i m) D σ H) : tE K mg Wd m σ H fun x H1 => D.nx (σ.set i (some x)) H1 := by
  obtain ⟨B, env, fp, S, r⟩ := h
  refine exp_step S r fun o env1 r v B1 H1 fp1 F1 A R => ?_
  cases q : ares o env1 with
  | none =>
    rw [q] at r
    exact r.elim
  | some w =>
    rw [q] at r
    obtain ⟨fp2, A2⟩ := A.put (ares_rep A.sim R q) i
    exact r _ _ _ _ A2 (Keep.set hi)
theorem drop_step {m : EM} (h : tS K mg Wd kp (sDrop m) D σ H) : tE K mg Wd m σ H fun x H1 => D.nx σ H1 := by
  obtain ⟨B, env, fp, S, r⟩ := h
  exact exp_step S r fun o env1 r v B1 H1 fp1 F1 A R => r _ _ _ _ A.drop (Keep.refl _ _)
theorem ret_step {m : EM} (h : tS K mg Wd kp (sRet m) D σ H) : tE K mg Wd m σ H D.rt := by
  obtain ⟨B, env, fp, S, r⟩ := h
  refine exp_step S r fun o env1 r v B1 H1 fp1 F1 A R => ?_
  cases q : ares o env1 with
  | none =>
    rw [q] at r
    exact r.elim
  | some w =>
    rw [q] at r
    exact r v _ _ _ _ F1 A (Keep.refl _ _) (ares_rep A.sim R q)
theorem retN_step (h : tS K mg Wd kp sRetN D σ H) : D.rt .non H := by
  obtain ⟨B, env, fp, S, r⟩ := h
  exact r .non σ B H fp Nil (Aft.refl S) (Keep.refl _ _) (.sh .non nil_no)
/-- a test, then what follows it -/
theorem testS_step {c : BM} {k : Bool → En → Out Fl} {env : En} {fp : Nat → Fp} (S : Sim K mg B H env σ fp) (h : ResS K mg Wd kp σ B H fp ((c env).bind k) D) :
    tT K mg Wd c σ H fun b H1 => ∃ B1 env1 fp1, Sim K mg B1 H1 env1 σ fp1 ∧ Aft K mg B H fp env1 σ B1 H1 fp1 Nil ∧ ResS K mg Wd kp σ B1 H1 fp1 (k b env1) D := by
  refine ⟨B, env, fp, S, ?_⟩
  cases e : c env with
  | stuck =>
    rw [e] at h
    exact h
  | err x e1 =>
    rw [e] at h
    exact fun cls d B' H' fp' A xr => h cls d σ B' H' fp' A (Keep.refl _ _) xr
  | ok b env1 =>
    rw [e] at h
    rintro _ B1 H1 fp1 F1 A1 ⟨rfl, nF⟩
    exact ⟨B1, env1, fp1, A1.sim, A1.drop, ResS.later h A1.drop (Keep.refl _ _)⟩
theorem if_step {c : BM} {a b : SM} (h : tS K mg Wd kp (sIf c a b) D σ H) : tT K mg Wd c σ H fun k H1 => if k = true then tS K mg Wd kp a D σ H1 else tS K mg Wd kp b D σ H1 := by
  obtain ⟨B, env, fp, S, r⟩ := h
  refine (testS_step S r).mono fun k H1 ⟨B1, env1, fp1, S1, _, r1⟩ => ?_
  cases k with
  | true => exact ⟨B1, env1, fp1, S1, r1⟩
  | false => exact ⟨B1, env1, fp1, S1, r1⟩
end
section
variable {X : Cx} {Wd : WX} {kp : Kp} {pos : Pos} {e : Expr} {st : Stmt} {rest : List Stmt} {m : EM} {a b : SM}
theorem sb_nil : SB X Wd kp [] sNx := PSs.less pss_nil fun _ _ _ h => nx_step h
theorem sb_cons (h1 : SS X Wd kp st a) (h2 : SB X Wd kp rest b) : SB X Wd kp (st :: rest) (sSeq a b) := PSs.less (pss_cons h1 h2) fun _ _ _ h => seq_step h
theorem sb_one (h1 : SS X Wd kp st a) : SB X Wd kp [st] a := pss_one h1
theorem ss_pass : SS X Wd kp (.Pass pos) sNx := PS.less ps_pass fun _ _ _ h => nx_step h
theorem ss_break : SS X Wd kp (.Break pos) sBk := PS.less ps_break fun _ _ _ h => bk_step h
theorem ss_continue : SS X Wd kp (.Continue pos) sCt := PS.less ps_continue fun _ _ _ h => ct_step h
theorem ss_set {i : Nat} {x : Str} {pos' : Pos} (hN : X.N.Nodup) (he : SE X Wd e m) (hk : kp i = false := by rfl) (hi : X.N[i]? = some x := by rfl) (hx : Loc X.env.scope x := by first | exact Or.inl rfl | exact Or.inr rfl) (hs : swapsWith e (some (.Name x pos')) pos.line X.env = pure false := by rfl)
    (hf : X.fn x = true ∨ X.env.scope.names.lookup x = some .local := by first | exact .inl rfl | exact .inr rfl | assumption) : SS X Wd kp (.Assign [.Name x pos'] e pos) (sSet i m) :=
  PS.less (ps_set hN hi hx he hs hf) fun _ _ _ h => set_step hk h
theorem ss_expr (he : SE X Wd e m) (hs : swapsWith e none pos.line X.env = pure false := by rfl) : SS X Wd kp (.Expr e pos) (sDrop m) := PS.less (ps_expr he hs) fun _ _ _ h => drop_step h
theorem ss_ret (he : SE X Wd e m) : SS X Wd kp (.Return (some e) pos) (sRet m) := PS.less (ps_ret he) fun _ _ _ h => ret_step h
theorem ss_retN : SS X Wd kp (.Return none pos) sRetN := PS.less ps_retN fun _ _ _ h => retN_step h
theorem ss_if {c : Expr} {sa sb : List Stmt} {tc : BM} (hc : ST X Wd c tc) (ha : SB X Wd kp sa a) (hb : SB X Wd kp sb b) : SS X Wd kp (.If c sa sb pos) (sIf tc a b) := PS.less (ps_if hc ha hb) fun _ _ _ h => if_step h
end

/-! ### bodies -/
def outsOf : List Bool → En → List W
  | true :: ms, w :: env => w :: outsOf ms env
  | true :: ms, [] => .gone :: outsOf ms []
  | false :: ms, _ :: env => outsOf ms env
  | false :: ms, [] => outsOf ms []
  | [], _ => []
/-- a def: its body at the arguments, l more slots -/
def fnM (l : Nat) (io : List Bool) (body : SM) : FM := fun ws => match body (ws ++ List.replicate l .gone) with
  | .ok .nx env => .ok (.sh .non) (outsOf io env)
  | .ok (.rt w) env => .ok w (outsOf io env)
  | .ok _ _ => .stuck
  | .err x env => .err x (outsOf io env)
  | .stuck => .stuck
/-- the places of the in-out parameters -/
def kpOf (io : List Bool) : Kp := fun i => io.getD i false
section
variable {K : PySem.W.Frag} {mg : Str → Option Value} {B B' H H' : Hp} {env env' : En} {σ σ1 : L2.St} {fp fp' : Nat → Fp} {Wd : WX} {F : Fp} {kp : Kp} {D D' : Ends}
theorem start_sim {N : List Str} {ws : List W} {vs : List V} {fa : Nat → Fp} {l : Nat} (le : Le B H) (A : Args K mg B H ws vs fa) (hl : vs.length + l = N.length) : Sim K mg B H (ws ++ List.replicate l .gone) (start N vs) fa := by
  have e : N.length - vs.length = l := by omega
  refine ⟨by simp [L2.start, e, A.len], le, fun i w h => ?_, fun i hi b hb => A.out i (by simp at hi; omega) b hb, A.dj, A.nb⟩
  by_cases hi : i < ws.length
  · rw [List.getElem?_append_left hi] at h
    have hv : i < vs.length := by rw [← A.len]; exact hi
    refine ⟨vs[i], fun _ => ?_, A.rep i w _ h (List.getElem?_eq_getElem hv)⟩
    unfold L2.start
    rw [List.getElem?_append_left (by simpa using hv), List.getElem?_map, List.getElem?_eq_getElem hv]
    rfl
  · rw [List.getElem?_append_right (by omega), List.getElem?_replicate] at h
    split at h
    · cases h
      exact ⟨.non, fun z => absurd rfl z, .gone fun b hb => A.out i (by omega) b hb⟩
    · cases h
theorem outs_rep {io : List Bool} : ∀ {k : Nat} {vs : List V} {env0 : En}, Sim K mg B H env σ fp → env.drop k = env0 → io.length ≤ vs.length → (∀ i, io.getD i false = true → ∀ v, vs[i]? = some v → σ[i + k]? = some (some v)) → ∃ Fo, Outs K mg B H io vs (outsOf io env0) Fo ∧ ∀ b, Fo b → ∃ i, k ≤ i ∧ fp i b := by
  induction io with
  | nil => intro k vs env0 S e _ _; exact ⟨Nil, .nil nil_no, fun b h => h.elim⟩
  | cons m ms ih =>
    intro k vs env0 S e hl hs
    cases vs with
    | nil => simp at hl
    | cons v vs =>
      have e2 : env.drop (k + 1) = env0.drop 1 := by rw [← e, List.drop_drop]
      obtain ⟨Fo, o, a⟩ := ih S e2 (by simpa using hl) fun i hi u hu => by
        have z := hs (i + 1) (by simpa using hi) u (by simpa using hu)
        rw [show i + (k + 1) = i + 1 + k by omega]
        exact z
      cases m with
      | false =>
        have e4 : outsOf (false :: ms) env0 = outsOf ms (env0.drop 1) := by cases env0 <;> rfl
        rw [e4]
        exact ⟨Fo, .no o, fun b h => let ⟨i, hi, q⟩ := a b h; ⟨i, by omega, q⟩⟩
      | true =>
        have hσ : σ[k]? = some (some v) := by
          have z := hs 0 rfl v rfl
          rw [Nat.zero_add] at z
          exact z
        cases env0 with
        | nil => exact ⟨Fo, .yes (.gone (v := v) nil_no) o (fun b h => h.elim) fun b => ⟨.inr, fun h => h.elim (fun z => z.elim) id⟩, fun b h => let ⟨i, hi, q⟩ := a b h; ⟨i, by omega, q⟩⟩
        | cons w env1 =>
          have hw : env[k]? = some w := by
            have z : (env.drop k)[0]? = some w := by rw [e]; rfl
            rw [List.getElem?_drop] at z
            exact z
          obtain ⟨v', hv, r⟩ := S.rep k w hw
          have r' : RepW K mg B H w v (fp k) := by
            by_cases ng : w = .gone
            · subst ng
              cases r with
              | gone e => exact .gone e
            · have z := hv ng
              rw [hσ] at z
              cases z
              exact r
          refine ⟨Or2 (fp k) Fo, .yes r' o (fun b f g => ?_) fun _ => Iff.rfl, fun b h => ?_⟩
          · obtain ⟨i, hi, q⟩ := a b g
            have := S.dj k i b f q
            omega
          · rcases h with h | h
            · exact ⟨k, Nat.le_refl _, h⟩
            · obtain ⟨i, hi, q⟩ := a b h
              exact ⟨i, by omega, q⟩
/-- a body does what its mirror says -/
theorem body_step {N : List Str} {l n : Nat} {io : List Bool} {body : SM} {vs : List V} {Q : VK} {E : XK} (hl : n + l = N.length) (hio : io.length ≤ n) (h : spM K mg (fnM l io body) n io vs H Q E) :
    tS K mg (fun cls d _ H => E cls d H) (kpOf io) body { nx := fun _ H' => Q .non H', rt := Q } (start N vs) H := by
  obtain ⟨hn, B, ws, fa, le, A, r⟩ := h
  have S := start_sim (l := l) (N := N) le A (by omega)
  refine ⟨B, _, fa, S, ?_⟩
  have outs : ∀ {σ' : L2.St} {B' H' : Hp} {env' : En} {fp' : Nat → Fp} {F : Fp}, Aft K mg B H fa env' σ' B' H' fp' F → Keep (kpOf io) (start N vs) σ' →
      ∃ Fo, Outs K mg B' H' io vs (outsOf io env') Fo ∧ (∀ b, F b → ¬ Fo b) ∧ (∀ b, Or2 Fo F b → B' b = none) ∧ Grow B B' H H' (All fa) (Or2 Fo F) := fun {σ' B' H' env' fp' F} A' k => by
    obtain ⟨Fo, o, a⟩ := outs_rep (io := io) (k := 0) (vs := vs) A'.sim (List.drop_zero (l := env')) (by omega) fun i hi v hv => by
      rw [Nat.add_zero, k i hi]
      obtain ⟨hlt, _⟩ := List.getElem?_eq_some_iff.mp hv
      unfold L2.start
      rw [List.getElem?_append_left (by simpa using hlt), List.getElem?_map, hv]
      rfl
    have a' : ∀ b, Fo b → All fp' b := fun b h => let ⟨i, _, q⟩ := a b h; ⟨i, q⟩
    refine ⟨Fo, o, fun b f g => A'.apart b f (a' b g), fun b h => ?_, A'.gr.less fun b h => h.imp (a' b) id⟩
    rcases h with h | h
    · exact A'.sim.nball b (a' b h)
    · exact A'.nb b h
  unfold fnM at r
  cases e : body (ws ++ List.replicate l .gone) with
  | stuck =>
    rw [e] at r
    exact r.elim
  | err x env' =>
    rw [e] at r
    intro cls d σ' B' H' fp' A' k xr
    obtain ⟨Fo, o, _, nb, g⟩ := outs A' k
    exact r cls d B' H' Fo A'.sim.le o (fun b f => nb b (.inl f)) (g.less fun b f => .inl f) xr
  | ok f env' =>
    rw [e] at r
    cases f with
    | nx =>
      intro σ' B' H' fp' A' k
      obtain ⟨Fo, o, dj, nb, g⟩ := outs A' k
      exact r .non B' H' Nil Fo A'.sim.le (.sh .non nil_no) o dj nb g
    | rt w =>
      intro v σ' B' H' fp' F A' k rr
      obtain ⟨Fo, o, dj, nb, g⟩ := outs A' k
      exact r v B' H' F Fo A'.sim.le rr o dj nb g
    | bk => exact r.elim
    | ct => exact r.elim
end
/-- THE RULE for a def: its body's statements by their mirror -/
theorem fo_of {P : Program} {w : World} {K : PySem.W.Frag} {mg : Str → Option Value} {base : Heap} {x nm qual : Str} {params : Arguments} {bd : List Stmt} {scope : Scope} {f : Addr} {fd : FuncData} {N ps : List Str} {k n l : Nat} {io : List Bool} {body : SM}
    (F : FunD K nm qual params bd scope [] [] f fd) (hm : mg x = some (.ref f)) (S : FnScope N ps scope) (hn : ps.length = n) (hl : n + l = N.length) (hio : io.length ≤ n)
    (hb : ∀ (kV doc pm : Value) (an : Option Addr) (cdv ct : Value) (us : List Value), us.length = ps.length → bindArgs (PySem.W.fnOf nm qual params bd scope .none kV doc pm an cdv ct) ⟨us, []⟩ = pure (ps.zip us))
    (hbody : ∀ (cdv : Value) (A : Around) (outer : List Env) (s : Shared) (H : Hp) (E : XK), Room k (A.deeper (envOfC qual scope s.heap.objs.size f cdv)) →
      SB (cxOf (L2.CX P w) P w K mg base N qual scope f cdv A outer s H E) (fun cls d _ H => E cls d H) (kpOf io) bd body) : FO P w K mg base x (k + 1) n io (fnM l io body) :=
  ⟨f, fd, ps, hm, F.kp, F.bindsN hb, FunD.ok F S (fun vs H Q E h => by rw [h.1, hn]) fun cdv A outer s H vs Q E hr h => ⟨_, hbody cdv A outer s H E hr, body_step hl hio h⟩⟩
end Mi
set_option maxRecDepth 100000
/-! Mi6: targets, loops. -/
namespace Mi
open PySem PySem.Spec PyProof.Rows L2

/-! ### targets -/
inductive Tg where
  | nm (i : Nat) | tp (is : List Nat)
def asgs : List Nat → List D → En → Option En
  | [], [], env => some env
  | i :: is, d :: ds, env => asgs is ds (env.set i (.sh d))
  | _, _, _ => none
def Tg.asg : Tg → D → En → Option En
  | .nm i, d, env => some (env.set i (.sh d))
  | .tp is, .tup ds, env => asgs is ds env
  | _, _, _ => none
def Tg.slots : Tg → List Nat
  | .nm i => [i]
  | .tp is => is
section
variable (K : PySem.W.Frag) (mg : Str → Option Value)
def tG (kp : Kp) (t : Tg) : TG := fun v σ H Q => ∃ B env fp d env', Sim K mg B H env σ fp ∧ Rep K mg B d v ∧ t.asg d env = some env' ∧ ∀ σ' fp', Sim K mg B H env' σ' fp' → (∀ b, All fp' b → All fp b) → Keep kp σ σ' → Q σ' H
def tGs (kp : Kp) (is : List Nat) : TGs := fun vs σ H Q => ∃ B env fp ds env', Sim K mg B H env σ fp ∧ Reps K mg B ds vs ∧ asgs is ds env = some env' ∧ ∀ σ' fp', Sim K mg B H env' σ' fp' → (∀ b, All fp' b → All fp b) → Keep kp σ σ' → Q σ' H
end
abbrev SG (X : Cx) (kp : Kp) (e : Expr) (t : Tg) : Prop := PG X e (tG X.K X.mg kp t)
theorem PG.less {X : Cx} {e : Expr} {t t' : TG} (h : PG X e t) (i : ∀ v σ H Q, t' v σ H Q → t v σ H Q) : PG X e t' := ⟨fun pins s σ H v u Q I r q => h.run pins s σ H v u Q I r (i v σ H Q q)⟩
theorem PGs.less {X : Cx} {e : List Expr} {t t' : TGs} (h : PGs X e t) (i : ∀ v σ H Q, t' v σ H Q → t v σ H Q) : PGs X e t' := ⟨fun pins s σ H v u Q I r q => h.run pins s σ H v u Q I r (i v σ H Q q)⟩
section
variable {K : PySem.W.Frag} {mg : Str → Option Value} {B B' H H' : Hp} {env env' : En} {σ σ1 : L2.St} {fp fp' : Nat → Fp} {Wd : WX} {F : Fp} {kp : Kp} {D D' : Ends}
theorem Sim.put (S : Sim K mg B H env σ fp) {d : Mi.D} {v : V} (r : Rep K mg B d v) (i : Nat) : ∃ fp2, Sim K mg B H (env.set i (.sh d)) (σ.set i (some v)) fp2 ∧ ∀ b, All fp2 b → All fp b := by
  by_cases hi : i < env.length
  · refine ⟨fpS fp i Nil, S.set hi (.sh r nil_no) (fun _ h => h.elim) fun _ h => h.elim, fun b h => ?_⟩
    rcases all_set h with h | h
    · exact h
    · exact h.elim
  · have e1 : env.set i (.sh d) = env := List.set_eq_of_length_le (by omega)
    have e2 : σ.set i (some v) = σ := List.set_eq_of_length_le (by rw [← S.len]; omega)
    rw [e1, e2]
    exact ⟨fp, S, fun _ h => h⟩
theorem nm_step {i : Nat} {v : V} {Q : L2.St → Hp → Prop} (hi : kp i = false) (h : tG K mg kp (.nm i) v σ H Q) : gName i v σ H Q := by
  obtain ⟨B, env, fp, d, env', S, r, e, k⟩ := h
  cases e
  obtain ⟨fp2, S2, a⟩ := S.put r i
  exact k _ _ S2 a (Keep.set hi)
theorem gs_nil {vs : List V} {Q : L2.St → Hp → Prop} (h : tGs K mg kp [] vs σ H Q) : gNil vs σ H Q := by
  obtain ⟨B, env, fp, ds, env', S, r, e, k⟩ := h
  cases ds with
  | cons d ds => cases e
  | nil =>
    cases e
    have ev : vs = [] := List.length_eq_zero_iff.mp r.1.symm
    exact ⟨ev, k _ _ S (fun _ h => h) (Keep.refl _ _)⟩
theorem gs_cons {i : Nat} {is : List Nat} {vs : List V} {Q : L2.St → Hp → Prop} (hi : kp i = false) (h : tGs K mg kp (i :: is) vs σ H Q) : gCons (gName i) (tGs K mg kp is) vs σ H Q := by
  obtain ⟨B, env, fp, ds, env', S, r, e, k⟩ := h
  cases ds with
  | nil => cases e
  | cons d ds =>
    cases vs with
    | nil => cases r.1
    | cons v vs =>
      obtain ⟨r1, r2⟩ := r.uncons
      obtain ⟨fp2, S2, a⟩ := S.put r1 i
      exact ⟨v, vs, rfl, B, env.set i (.sh d), fp2, ds, env', S2, r2, e, fun σ' fp' S3 a3 k3 => k σ' fp' S3 (fun b h => a b (a3 b h)) ((Keep.set hi).trans k3)⟩
theorem tp_step {is : List Nat} {v : V} {Q : L2.St → Hp → Prop} (h : tG K mg kp (.tp is) v σ H Q) : gTup K is.length (tGs K mg kp is) v σ H Q := by
  obtain ⟨B, env, fp, d, env', S, r, e, k⟩ := h
  cases d with
  | tup ds =>
    cases r with
    | @tup a _ vs hs l rr =>
      have hl : ∀ (is : List Nat) (ds : List Mi.D) (env env' : En), asgs is ds env = some env' → is.length = ds.length := by
        intro is
        induction is with
        | nil =>
          intro ds env env' e
          cases ds with
          | nil => rfl
          | cons _ _ => cases e
        | cons i is ih =>
          intro ds env env' e
          cases ds with
          | nil => cases e
          | cons d ds =>
            have z := ih ds _ _ e
            simp [z]
      exact ⟨a, vs, rfl, S.le.sqT hs, by rw [← l, ← hl is ds env env' e], B, env, fp, ds, env', S, ⟨l, rr⟩, e, k⟩
  | _ => cases e
end
section
variable {X : Cx} {kp : Kp} {pos : Pos}
theorem sg_nm {i : Nat} {x : Str} (hN : X.N.Nodup) (hk : kp i = false := by rfl) (hi : X.N[i]? = some x := by rfl) (hx : Loc X.env.scope x := by first | exact Or.inl rfl | exact Or.inr rfl) (hf : X.fn x = true ∨ X.env.scope.names.lookup x = some .local := by first | exact .inl rfl | exact .inr rfl | assumption) :
    SG X kp (.Name x pos) (.nm i) := PG.less (pg_name hN hi hx hf) fun _ _ _ _ h => nm_step hk h
/-- the names of a tuple target -/
structure SGs (X : Cx) (kp : Kp) (es : List Expr) (is : List Nat) : Prop where
  p : PGs X es (tGs X.K X.mg kp is)
  l : (assignEach es X.env).length = is.length
  n : (assignEach es X.env).findIdx? (·.1) = none
theorem sgs_nil : SGs X kp [] [] := ⟨PGs.less pgs_nil fun _ _ _ _ h => gs_nil h, rfl, rfl⟩
theorem sgs_cons {i : Nat} {x : Str} {es : List Expr} {is : List Nat} (hN : X.N.Nodup) (t : SGs X kp es is) (hk : kp i = false := by rfl) (hi : X.N[i]? = some x := by rfl) (hx : Loc X.env.scope x := by first | exact Or.inl rfl | exact Or.inr rfl)
    (hf : X.fn x = true ∨ X.env.scope.names.lookup x = some .local := by first | exact .inl rfl | exact .inr rfl | assumption) (ha : assignEach (.Name x pos :: es) X.env = (false, assign (.Name x pos) X.env) :: assignEach es X.env := by rfl) : SGs X kp (.Name x pos :: es) (i :: is) :=
  ⟨PGs.less (pgs_cons (pg_name hN hi hx hf) t.p (by rw [ha] <;> rfl)) fun _ _ _ _ h => gs_cons hk h, by rw [ha, List.length_cons, t.l, List.length_cons], by rw [ha, List.findIdx?_cons]; simp [t.n]⟩
theorem sg_tp {es : List Expr} {is : List Nat} {n : Nat} (hc : X.calm = true) (t : SGs X kp es is) : SG X kp (.Tuple es n pos) (.tp is) := PG.less (pg_tup hc t.p t.l t.n) fun _ _ _ _ h => tp_step h
end
/-- target = value (shared) -/
def sAsg (t : Tg) (m : EM) : SM := fun env => (m env).bind fun o env1 => match (res o env1).bind fun d => t.asg d env1 with
  | some env2 => .ok .nx env2
  | none => .stuck
section
variable {K : PySem.W.Frag} {mg : Str → Option Value} {B B' H H' : Hp} {env env' : En} {σ σ1 : L2.St} {fp fp' : Nat → Fp} {Wd : WX} {F : Fp} {kp : Kp} {D D' : Ends}
theorem sAsg_eq {t : Tg} {m : EM} {env : En} {o : O} {env1 : En} (e : m env = .ok o env1) : sAsg t m env = match (res o env1).bind fun d => t.asg d env1 with
  | some env2 => .ok .nx env2
  | none => .stuck := by
  unfold sAsg
  rw [e]
  rfl
/-- a shared thing is unpacked: sres, not res -/
def sUnp (is : List Nat) (m : EM) : SM := fun env => (m env).bind fun o env1 => match (sres o env1).bind fun d => (Tg.tp is).asg d env1 with
  | some env2 => .ok .nx env2
  | none => .stuck
theorem unp_step {is : List Nat} {m : EM} (h : tS K mg Wd kp (sUnp is m) D σ H) : tE K mg Wd m σ H fun x H1 => tG K mg kp (.tp is) x σ H1 D.nx := by
  obtain ⟨B, env, fp, S, r⟩ := h
  refine exp_step S r fun o env1 r v B1 H1 fp1 F1 A R => ?_
  cases q : sres o env1 with
  | none =>
    rw [q] at r
    exact r.elim
  | some d =>
    cases q2 : (Tg.tp is).asg d env1 with
    | none =>
      simp only [q, Option.bind, q2] at r
      exact r.elim
    | some env2 =>
      simp only [q, Option.bind, q2] at r
      have A2 := A.shared
      have rr := sres_rep (B1 := share B1 H1 F1) A.sim R q (share_bk A.nb) fun b o f h => by rw [share_in f]; exact h
      exact ⟨_, env1, fp1, d, env2, A2.sim, rr, q2, fun σ' fp' S' a k => r σ' _ H1 fp' ⟨S', A2.gr.less fun b h => h.elim (fun h => .inl (a b h)) fun z => z.elim, fun _ h => h.elim, fun _ h => h.elim⟩ k⟩
end
section
variable {X : Cx} {Wd : WX} {kp : Kp} {pos : Pos} {tg e : Expr} {m : EM}
theorem ss_unp {es : List Expr} {is : List Nat} {n : Nat} {tpos : Pos} (hc : X.calm = true) (he : SE X Wd e m) (t : SGs X kp es is) (hs : swapsWithSole [.Tuple es n tpos] e pos.line X.env = pure false := by rfl) (hw : swappedStores [.Tuple es n tpos] e X.env = pure none := by rfl) :
    SS X Wd kp (.Assign [.Tuple es n tpos] e pos) (sUnp is m) :=
  PS.less (ps_asg he (sg_tp hc t) hs hw) fun _ _ _ h => unp_step h
end

/-! ### for -/
/-- the body at each item -/
noncomputable def forGo (c : En → Prop) (t : Tg) (body : SM) : List D → En → Out Fl := by
  classical
  exact fun ds => ds.rec (fun env => if c env then .ok .nx env else .stuck) fun d _ go env => if c env then (match t.asg d env with
    | none => .stuck
    | some env1 => (body env1).bind fun f env2 => match f with
      | .nx => go env2
      | .ct => go env2
      | .bk => .ok .nx env2
      | .rt w => .ok (.rt w) env2) else .stuck
theorem forGo_nil {c : En → Prop} {t : Tg} {body : SM} {env : En} (h : c env) : forGo c t body [] env = .ok .nx env := if_pos h
theorem forGo_cons {c : En → Prop} {t : Tg} {body : SM} {d : D} {ds : List D} {env : En} (h : c env) : forGo c t body (d :: ds) env = match t.asg d env with
    | none => .stuck
    | some env1 => (body env1).bind fun f env2 => match f with
      | .nx => forGo c t body ds env2
      | .ct => forGo c t body ds env2
      | .bk => .ok .nx env2
      | .rt w => .ok (.rt w) env2 := if_pos h
theorem forGo_not {c : En → Prop} {t : Tg} {body : SM} {ds : List D} {env : En} (h : ¬ c env) : forGo c t body ds env = .stuck := by
  cases ds with
  | nil => exact if_neg h
  | cons d ds => exact if_neg h
section
variable (K : PySem.W.Frag) (mg : Str → Option Value)
/-- the walk J gives the items ds, as long as ok holds -/
structure Yields (J : It) (ds : List D) (ok : Hp → Hp → Prop) : Prop where
  go : ∀ (i : Nat) (B H : Hp), i < ds.length → ok B H → J.go i H
  yld : ∀ (i : Nat) (d : D) (x : V) (B H H' : Hp), ds[i]? = some d → ok B H → Le B H → J.yld i H x H' → ∃ B', New K mg B H B' H' (.sh d) x Nil
  stop : ∀ (B H : Hp), ok B H → J.stop ds.length H
end
section
variable {K : PySem.W.Frag} {mg : Str → Option Value} {B B' H H' : Hp} {env env' : En} {σ σ1 : L2.St} {fp fp' : Nat → Fp} {Wd : WX} {F : Fp} {kp kp' : Kp} {D D' : Ends}
theorem forL_step {J : It} {ds : List Mi.D} {ok : Hp → Hp → Prop} {c : En → Prop} {t : Tg} {body : SM} {H1 : Hp} {B1 : Hp} {fp1 : Nat → Fp} {F1 : Fp} {env1 : En} (Y : Yields K mg J ds ok) (hk : ∀ i, kp i = true → kp' i = true)
    (A1 : Aft K mg B H fp env1 σ B1 H1 fp1 F1) (t1 : ∀ b, F1 b → Lv H1 b)
    (hok : ∀ σ' B2 H2 env2 fp2, Aft K mg B H fp env2 σ' B2 H2 fp2 F1 → (∀ b o, F1 b → H1 b = some o → H2 b = some o) → Le B1 B2 → Keep kp' σ σ' → c env2 → ok B2 H2)
    (r : ResS K mg Wd kp σ B H fp (forGo c t body ds env1) D) :
    ∃ W : Nat → Nat → L2.St → Hp → Prop, (∃ m, W 0 m σ H1) ∧ ∀ i m σ H, W i m σ H →
      (J.stop i H ∧ D.nx σ H) ∨ (J.go i H ∧ ∃ N : L2.St → Hp → Prop, (∀ σ' H', N σ' H' → ∃ m', m' < m ∧ W (i + 1) m' σ' H') ∧ ∀ x H', J.yld i H x H' → tG K mg kp' t x σ H' fun σ2 H2 => tS K mg Wd kp' body { D with nx := N, ct := N, bk := D.nx } σ2 H2) := by
  refine ⟨fun i m σ2 H2 => m = ds.length - i ∧ i ≤ ds.length ∧ ∃ B2 env2 fp2, Aft K mg B H fp env2 σ2 B2 H2 fp2 F1 ∧ (∀ b o, F1 b → H1 b = some o → H2 b = some o) ∧ Le B1 B2 ∧ Keep kp' σ σ2 ∧ ResS K mg Wd kp σ B H fp (forGo c t body (ds.drop i) env2) D,
    ⟨ds.length, by simp, Nat.zero_le _, B1, env1, fp1, A1, fun _ _ _ h => h, Le.refl _, Keep.refl _ _, r⟩, ?_⟩
  rintro i m σ2 H2 ⟨rfl, hi, B2, env2, fp2, A2, k2, l2, kk, r2⟩
  have kkp : Keep kp σ σ2 := fun j hj => kk j (hk j hj)
  by_cases hc : c env2
  · have o2 := hok σ2 B2 H2 env2 fp2 A2 k2 l2 kk hc
    by_cases hlt : i < ds.length
    · refine .inr ⟨Y.go i B2 H2 hlt o2, fun σ' H' => ∃ m', m' < ds.length - i ∧ (m' = ds.length - (i + 1) ∧ i + 1 ≤ ds.length ∧ ∃ B3 env3 fp3, Aft K mg B H fp env3 σ' B3 H' fp3 F1 ∧ (∀ b o, F1 b → H1 b = some o → H' b = some o) ∧ Le B1 B3 ∧ Keep kp' σ σ' ∧ ResS K mg Wd kp σ B H fp (forGo c t body (ds.drop (i + 1)) env3) D),
        fun σ' H' h => h, fun x H3 y => ?_⟩
      have ed : ds[i]? = some ds[i] := List.getElem?_eq_getElem hlt
      obtain ⟨B3, n⟩ := Y.yld i _ x B2 H2 H3 ed o2 A2.sim.le y
      have A3 := (A2.drop).new n
      have A3' : Aft K mg B2 H2 fp2 env2 σ2 B3 H3 fp2 Nil := (Aft.refl A2.sim).new n
      have rx : Rep K mg B3 ds[i] x := by
        have z := n.rep
        cases z with
        | sh z _ => exact z
      rw [List.drop_eq_getElem_cons hlt, forGo_cons hc] at r2
      cases ea : t.asg ds[i] env2 with
      | none =>
        rw [ea] at r2
        exact r2.elim
      | some env3 =>
        simp only [ea] at r2
        refine ⟨B3, env2, fp2, _, env3, A3.sim, rx, ea, fun σ3 fp3 S3 a3 k3 => ⟨B3, env3, fp3, S3, ?_⟩⟩
        -- from the loop's start to the body's
        have t2 : ∀ b, F1 b → Lv H2 b := fun b f => (t1 b f).keep fun o e => k2 b o f e
        have A4 : Aft K mg B2 H2 fp2 env3 σ3 B3 H3 fp3 Nil := ⟨S3, A3'.gr.less fun b h => h.elim (fun h => .inl (a3 b h)) fun z => z.elim, fun _ h => h.elim, fun _ h => h.elim⟩
        have go : ∀ {σ4 : L2.St} {B4 H4 : Hp} {fp4 : Nat → Fp} {env4 : En} {F4 : Fp}, Aft K mg B3 H3 fp3 env4 σ4 B4 H4 fp4 F4 → Aft K mg B H fp env4 σ4 B4 H4 fp4 (Or2 F1 F4) ∧ (∀ b o, F1 b → H1 b = some o → H4 b = some o) ∧ Le B1 B4 := fun {σ4 B4 H4 fp4 env4 F4} A5 => by
          have A6 := A4.trans A5
          obtain ⟨k, _, A7⟩ := A2.then_ t2 A6
          exact ⟨A7, fun b o f e => k b o f (k2 b o f e), (l2.trans A6.gr.bk)⟩
        have kk3 := kk.trans k3
        have kk3p : Keep kp σ σ3 := fun j hj => kk3 j (hk j hj)
        cases eb : body env3 with
        | stuck =>
          rw [eb] at r2
          exact r2
        | err x' e4 =>
          rw [eb] at r2
          intro cls d σ4 B4 H4 fp4 A5 k4 xr
          obtain ⟨A7, _, _⟩ := go A5
          exact r2 cls d σ4 B4 H4 fp4 A7.drop (kk3p.trans fun j hj => k4 j (hk j hj)) xr
        | ok f env4 =>
          rw [eb] at r2
          simp only [Out.bind] at r2
          cases f with
          | nx =>
            intro σ4 B4 H4 fp4 A5 k4
            obtain ⟨A7, k7, l7⟩ := go A5
            exact ⟨ds.length - (i + 1), by omega, rfl, hlt, B4, env4, fp4, A7.part fun b h => .inl h, k7, l7, kk3.trans k4, r2⟩
          | ct =>
            intro σ4 B4 H4 fp4 A5 k4
            obtain ⟨A7, k7, l7⟩ := go A5
            exact ⟨ds.length - (i + 1), by omega, rfl, hlt, B4, env4, fp4, A7.part fun b h => .inl h, k7, l7, kk3.trans k4, r2⟩
          | bk =>
            intro σ4 B4 H4 fp4 A5 k4
            obtain ⟨A7, k7, l7⟩ := go A5
            exact r2 σ4 B4 H4 fp4 A7.drop (kk3p.trans fun j hj => k4 j (hk j hj))
          | rt w =>
            intro v σ4 B4 H4 fp4 F4 A5 k4 rr
            obtain ⟨A7, k7, l7⟩ := go A5
            exact r2 v σ4 B4 H4 fp4 F4 (A7.part fun b h => .inr h) (kk3p.trans fun j hj => k4 j (hk j hj)) rr
    · have e : i = ds.length := by omega
      subst e
      rw [List.drop_length, forGo_nil hc] at r2
      exact .inl ⟨Y.stop B2 H2 o2, r2 σ2 B2 H2 fp2 A2.drop kkp⟩
  · rw [forGo_not hc] at r2
    exact r2.elim

/-! ### what is walked -/
theorem yields_list {a : Addr} {ds : List Mi.D} : Yields K mg (Itl K a) ds fun B H => ∃ vs, SqL K H a vs ∧ Reps K mg B ds vs := by
  refine ⟨fun i B H hi ⟨vs, h, r⟩ => ?_, fun i d x B H H' e ⟨vs, h, r⟩ l y => ?_, fun B H ⟨vs, h, r⟩ => ⟨vs, h, by rw [r.1]; exact Nat.le_refl _⟩⟩
  · obtain ⟨v, ev, _⟩ := r.get (List.getElem?_eq_getElem hi)
    exact ⟨vs, v, h, ev⟩
  · obtain ⟨v, ev, rv⟩ := r.get e
    obtain ⟨eh, y⟩ := y
    subst eh
    have z := y vs h
    rw [ev] at z
    cases z
    exact ⟨B, new_sh l rv⟩
theorem yields_tup {a : Addr} {ds : List Mi.D} : Yields K mg (Itt K a) ds fun B H => ∃ vs, SqT K H a vs ∧ Reps K mg B ds vs := by
  refine ⟨fun i B H hi ⟨vs, h, r⟩ => ?_, fun i d x B H H' e ⟨vs, h, r⟩ l y => ?_, fun B H ⟨vs, h, r⟩ => ⟨vs, h, by rw [r.1]; exact Nat.le_refl _⟩⟩
  · obtain ⟨v, ev, _⟩ := r.get (List.getElem?_eq_getElem hi)
    exact ⟨vs, v, h, ev⟩
  · obtain ⟨v, ev, rv⟩ := r.get e
    obtain ⟨eh, y⟩ := y
    subst eh
    have z := y vs h
    rw [ev] at z
    cases z
    exact ⟨B, new_sh l rv⟩
theorem yields_range {lo : Int} {n : Nat} : Yields K mg (Itr lo n) ((List.range n).map fun (i : Nat) => Mi.D.int (lo + (i : Int))) fun _ _ => True := by
  refine ⟨fun i B H hi _ => ?_, fun i d x B H H' e _ l y => ?_, fun B H _ => ?_⟩
  · show i < n
    simpa using hi
  · obtain ⟨ex, eh⟩ := y
    subst ex eh
    rw [List.getElem?_map] at e
    have hi : i < n := by
      cases q : (List.range n)[i]? with
      | none =>
        rw [q] at e
        cases e
      | some j => simpa using (List.getElem?_eq_some_iff.mp q).1
    rw [List.getElem?_range hi] at e
    cases e
    exact ⟨B, new_sh l (.int _)⟩
  · show n ≤ ((List.range n).map fun (i : Nat) => Mi.D.int (lo + (i : Int))).length
    simp
theorem rd_list {ds : List Mi.D} {v : V} (h : RepO K mg B H (.lst ds) v) (l : Le B H) : ∃ a vs, v = .ref a ∧ SqX K H a vs ∧ Reps K mg B ds vs := by
  rcases h with h | ⟨a, ds', vs, e, ev, h, r⟩ | ⟨_, _, _, _, _, _, e, _⟩
  · cases h with
    | lst h l' r => exact ⟨_, _, rfl, l.sqX h, l', r⟩
  · cases e
    exact ⟨a, vs, ev, .inl (.inl h), r⟩
  · cases e
theorem seq_list {ds : List Mi.D} {v : V} (h : RepO K mg B H (.lst ds) v) (l : Le B H) : ∃ a vs, v = .ref a ∧ SqL K H a vs ∧ Reps K mg B ds vs := by
  obtain ⟨a, vs, e, h, r⟩ := rd_list h l
  exact ⟨a, vs, e, h.sq, r⟩
theorem seq_tup {ds : List Mi.D} {v : V} (h : RepO K mg B H (.tup ds) v) (l : Le B H) : ∃ a vs, v = .ref a ∧ SqT K H a vs ∧ Reps K mg B ds vs := by
  rcases h with h | ⟨a, ds', vs, e, ev, h, r⟩ | ⟨_, _, _, _, _, _, e, _⟩
  · cases h with
    | tup h l' r => exact ⟨_, _, rfl, l.sqT h, l', r⟩
  · cases e
  · cases e
end
/-- the items of a sequence -/
def seqD : D → Option (List D)
  | .lst ds => some ds
  | .tup ds => some ds
  | _ => none
theorem seqD_cases {d : D} {ds : List D} (h : seqD d = some ds) : d = .lst ds ∨ d = .tup ds := by
  cases d <;> cases h
  · exact .inr rfl
  · exact .inl rfl
def iSeq (K : PySem.W.Frag) (tl : TE) : TI := fun σ H R => iList K tl σ H R ∨ iTup K tl σ H R
theorem pi_seq {X : Cx} {tg l : Expr} {tl : TE} (hl : PE X l tl) : PI X tg l (iSeq X.K tl) :=
  ⟨fun pins s σ H R I h => h.elim (fun h => (pi_list (tg := tg) hl).run pins s σ H R I h) fun h => (pi_tup (tg := tg) hl).run pins s σ H R I h⟩
/-- for t in e: the value of e, no name's -/
noncomputable def sFor (m : EM) (t : Tg) (body : SM) : SM := fun env => (m env).bind fun o env1 => match o with
  | .slot _ => .stuck
  | .val w => match (w.fz).bind seqD with
    | some ds => forGo (fun _ => True) t body ds env1
    | none => .stuck
/-- for t in x: the name in slot i -/
noncomputable def sForV (i : Nat) (t : Tg) (body : SM) : SM := fun env => match ((env[i]?).bind W.fz).bind seqD with
  | some ds => forGo (fun env' => env'[i]? = env[i]?) t body ds env
  | none => .stuck
/-- range(..) -/
def rngD (lo : Int) (n : Nat) : List D := (List.range n).map fun (i : Nat) => D.int (lo + (i : Int))
noncomputable def sForR1 (m : EM) (t : Tg) (body : SM) : SM := fun env => (m env).bind fun o env1 => match res o env1 with
  | some (.int j) => if -(2 ^ 62) ≤ j ∧ j < 2 ^ 62 then forGo (fun _ => True) t body (rngD 0 j.toNat) env1 else .stuck
  | _ => .stuck
noncomputable def sForR2 (ms : AM) (t : Tg) (body : SM) : SM := fun env => (ms env).bind fun os env1 => match ress os env1 with
  | some [.int i, .int j] => if -(2 ^ 62) ≤ i ∧ i < 2 ^ 62 ∧ -(2 ^ 62) ≤ j ∧ j < 2 ^ 62 then forGo (fun _ => True) t body (rngD i (j - i).toNat) env1 else .stuck
  | _ => .stuck
section
variable {K : PySem.W.Frag} {mg : Str → Option Value} {B B' H H' : Hp} {env env' : En} {σ σ1 : L2.St} {fp fp' : Nat → Fp} {Wd : WX} {F : Fp} {kp kp' : Kp} {D D' : Ends}
theorem for_step {m : EM} {t : Tg} {body : SM} (h : tS K mg Wd kp (sFor m t body) D σ H) : tFor (iSeq K (tE K mg Wd m)) (tG K mg kp t) (tS K mg Wd kp body) D σ H := by
  obtain ⟨B, env, fp, S, r⟩ := h
  unfold sFor at r
  by_cases ht : ∃ w env1 ds, m env = .ok (.val w) env1 ∧ w.fz = some (.tup ds)
  · refine .inr (exp_stepE S r fun o env1 e r v B1 H1 fp1 F1 A R => ?_)
    obtain ⟨w, env2, ds, e', q⟩ := ht
    rw [e] at e'
    cases e'
    simp only [q, Option.bind, seqD] at r
    have live : ∀ {B2 H2 : Hp}, Le B1 B2 → Le B2 H2 → (∀ b o, F1 b → H1 b = some o → H2 b = some o) → ∃ a vs, v = .ref a ∧ SqT K H2 a vs ∧ Reps K mg B2 ds vs := fun {B2 H2} l l2 k =>
      seq_tup (repO_of (RepW.ext R l k) q l2) l2
    obtain ⟨a, vs, rfl, hs, rr⟩ := live (Le.refl _) A.sim.le fun _ _ _ h => h
    refine ⟨a, rfl, ⟨vs, hs⟩, forL_step yields_tup (fun _ h => h) A (RepW.there R) (fun σ' B2 H2 env2 fp2 A2 k l _ _ => ?_) r⟩
    obtain ⟨a', vs', ea, hs', rr'⟩ := live l A2.sim.le k
    cases ea
    exact ⟨vs', hs', rr'⟩
  · refine .inl (exp_stepE S r fun o env1 e r v B1 H1 fp1 F1 A R => ?_)
    cases o with
    | slot i => exact r.elim
    | val w =>
      cases q : w.fz with
      | none =>
        simp only [q, Option.bind] at r
        exact r.elim
      | some d =>
        cases q2 : seqD d with
        | none =>
          simp only [q, Option.bind, q2] at r
          exact r.elim
        | some ds =>
          simp only [q, Option.bind, q2] at r
          have ed : d = .lst ds := (seqD_cases q2).elim id fun z => absurd ⟨w, env1, ds, e, by rw [q, z]⟩ ht
          subst ed
          have live : ∀ {B2 H2 : Hp}, Le B1 B2 → Le B2 H2 → (∀ b o, F1 b → H1 b = some o → H2 b = some o) → ∃ a vs, v = .ref a ∧ SqL K H2 a vs ∧ Reps K mg B2 ds vs := fun {B2 H2} l l2 k =>
            seq_list (repO_of (RepW.ext R l k) q l2) l2
          obtain ⟨a, vs, rfl, hs, rr⟩ := live (Le.refl _) A.sim.le fun _ _ _ h => h
          refine ⟨a, rfl, ⟨vs, hs⟩, forL_step yields_list (fun _ h => h) A (RepW.there R) (fun σ' B2 H2 env2 fp2 A2 k l _ _ => ?_) r⟩
          obtain ⟨a', vs', ea, hs', rr'⟩ := live l A2.sim.le k
          cases ea
          exact ⟨vs', hs', rr'⟩
theorem forV_step {i : Nat} {t : Tg} {body : SM} (hk : ∀ j, kp j = true → kp' j = true) (hi : kp' i = true) (h : tS K mg Wd kp (sForV i t body) D σ H) : tFor (iSeq K (tVar i)) (tG K mg kp' t) (tS K mg Wd kp' body) D σ H := by
  obtain ⟨B, env, fp, S, r⟩ := h
  unfold sForV at r
  cases q0 : env[i]? with
  | none =>
    rw [q0] at r
    exact r.elim
  | some w =>
    cases q : w.fz with
    | none =>
      simp only [q0, Option.bind, q] at r
      exact r.elim
    | some d =>
      cases q2 : seqD d with
      | none =>
        simp only [q0, Option.bind, q, q2] at r
        exact r.elim
      | some ds =>
        simp only [q0, Option.bind, q, q2] at r
        obtain ⟨v, hv, rw0⟩ := S.rep i w q0
        have ng : w ≠ .gone := fun z => by rw [z] at q; cases q
        have hσ := hv ng
        have live : ∀ {σ' : L2.St} {B2 H2 : Hp} {env2 : En} {fp2 : Nat → Fp}, Sim K mg B2 H2 env2 σ' fp2 → Keep kp' σ σ' → env2[i]? = some w → RepO K mg B2 H2 d v := fun {σ' B2 H2 env2 fp2} S2 k e => by
          obtain ⟨v', hv', r'⟩ := S2.rep i w e
          have z := hv' ng
          rw [k i hi, hσ] at z
          cases z
          exact repO_of r' q S2.le
        rcases seqD_cases q2 with rfl | rfl
        · left
          obtain ⟨a, vs, rfl, hs, rr⟩ := seq_list (live S (Keep.refl _ _) q0) S.le
          refine ⟨_, hσ, a, rfl, ⟨vs, hs⟩, forL_step yields_list hk (Aft.refl S) (fun _ z => z.elim) (fun σ' B2 H2 env2 fp2 A2 _ _ k c => ?_) r⟩
          obtain ⟨a', vs', ea, hs', rr'⟩ := seq_list (live A2.sim k c) A2.sim.le
          cases ea
          exact ⟨vs', hs', rr'⟩
        · right
          obtain ⟨a, vs, rfl, hs, rr⟩ := seq_tup (live S (Keep.refl _ _) q0) S.le
          refine ⟨_, hσ, a, rfl, ⟨vs, hs⟩, forL_step yields_tup hk (Aft.refl S) (fun _ z => z.elim) (fun σ' B2 H2 env2 fp2 A2 _ _ k c => ?_) r⟩
          obtain ⟨a', vs', ea, hs', rr'⟩ := seq_tup (live A2.sim k c) A2.sim.le
          cases ea
          exact ⟨vs', hs', rr'⟩
theorem repO_int {i : Int} {v : V} (h : RepO K mg B H (.int i) v) : v = .int i := by
  rcases h with h | ⟨_, _, _, e, _⟩ | ⟨_, _, _, _, _, _, e, _⟩
  · cases h
    rfl
  · cases e
  · cases e
theorem forR1_step {m : EM} {t : Tg} {body : SM} (h : tS K mg Wd kp (sForR1 m t body) D σ H) : tFor (iRng1 (tCons (tE K mg Wd m) tNil)) (tG K mg kp t) (tS K mg Wd kp body) D σ H := by
  obtain ⟨B, env, fp, S, r⟩ := h
  unfold sForR1 at r
  refine exp_step S r fun o env1 r v B1 H1 fp1 F1 A R => ?_
  cases q : res o env1 with
  | none =>
    rw [q] at r
    exact r.elim
  | some d =>
    have rr := res_rep A.sim R q
    rw [q] at r
    cases d with
    | int j =>
      by_cases hj : -(2 ^ 62) ≤ j ∧ j < 2 ^ 62
      · simp only [if_pos hj] at r
        have ev := repO_int rr
        subst ev
        exact ⟨j, rfl, hj.1, hj.2, forL_step (yields_range (lo := 0) (n := j.toNat)) (fun _ h => h) A.drop (fun _ z => z.elim) (fun _ _ _ _ _ _ _ _ _ _ => trivial) r⟩
      · simp only [if_neg hj] at r
        exact r.elim
    | _ => exact r.elim
end
section
variable {X : Cx} {Wd : WX} {kp : Kp} {pos : Pos} {tg e : Expr} {body : List Stmt} {m : EM} {t : Tg} {b : SM}
theorem ss_for (hp : PassesOwn (model X.prog X.w) X.A X.env X.xe) (hc : X.calm = true) (he : SE X Wd e m) (ht : SG X kp tg t) (hb : SB X Wd kp body b) (hs : ∀ x, foldedSetIterable e X.env x = pure x := by intro _; rfl) : SS X Wd kp (.For tg e body [] pos) (sFor m t b) :=
  PS.less (ps_for hp hc (pi_seq he) ht hb hs) fun _ _ _ h => for_step h
theorem ss_forV (i : Nat) {x : Str} {xpos : Pos} (hp : PassesOwn (model X.prog X.w) X.A X.env X.xe) (hc : X.calm = true) (ht : SG X (fun j => kp j || j == i) tg t) (hb : SB X Wd (fun j => kp j || j == i) body b) (hN : X.N[i]? = some x := by rfl)
    (hv : Vis X.env.scope x := by first | exact Or.inl rfl | exact Or.inr (Or.inl rfl) | exact Or.inr (Or.inr rfl)) (hd : (x == ("__debug__" : Str)) = false := by decide) (hcd : (x == ("__classdict__" : Str)) = false := by decide)
    (hs : ∀ y, foldedSetIterable (.Name x xpos) X.env y = pure y := by intro _; rfl) : SS X Wd kp (.For tg (.Name x xpos) body [] pos) (sForV i t b) :=
  PS.less (ps_for hp hc (pi_seq (pe_var hN hv hd hcd)) ht hb hs) fun _ _ _ h => forV_step (fun j hj => by rw [hj]; rfl) (by simp) h
theorem ss_forR1 {a : Expr} {p : Pos} {pos2 : Pos} (hp : PassesOwn (model X.prog X.w) X.A X.env X.xe) (hc : X.calm = true) (hg : Gl X "range") (hm : X.mg "range" = none) (ha : SE X Wd a m) (ht : SG X kp tg t) (hb : SB X Wd kp body b)
    (hs1 : starEach [a] X.env = [(false, eval a X.env)] := by rfl) (hs : ∀ x, foldedSetIterable (.Call (.Name "range" p) [a] [] pos2) X.env x = pure x := by intro _; rfl) : SS X Wd kp (.For tg (.Call (.Name "range" p) [a] [] pos2) body [] pos) (sForR1 m t b) :=
  PS.less (ps_for hp hc (pi_range1 hg hm (pa_cons ha pa_nil hs1) hs1) ht hb hs) fun _ _ _ h => forR1_step h
end

/-! ### while -/
def whileGo (c : BM) (body : SM) : Nat → En → Out Fl
  | 0, _ => .stuck
  | n + 1, env => (c env).bind fun k env1 => if k = true then (body env1).bind fun f env2 => match f with
    | .nx => whileGo c body n env2
    | .ct => whileGo c body n env2
    | .bk => .ok .nx env2
    | .rt w => .ok (.rt w) env2 else .ok .nx env1
/-- at most n turns -/
def sWhile (n : Nat) (c : BM) (body : SM) : SM := fun env => whileGo c body n env
section
variable {K : PySem.W.Frag} {mg : Str → Option Value} {B B' H H' : Hp} {env env' : En} {σ σ1 : L2.St} {fp fp' : Nat → Fp} {Wd : WX} {F : Fp} {kp kp' : Kp} {D D' : Ends}
theorem while_step {n : Nat} {c : BM} {body : SM} (h : tS K mg Wd kp (sWhile n c body) D σ H) : tWhile (tT K mg Wd c) (tS K mg Wd kp body) D σ H := by
  refine ⟨fun m σ H => tS K mg Wd kp (sWhile m c body) D σ H, ⟨n, h⟩, ?_⟩
  rintro m σ H ⟨B, env, fp, S, r⟩
  cases m with
  | zero => exact r.elim
  | succ m =>
    have r' : ResS K mg Wd kp σ B H fp ((c env).bind fun k env1 => if k = true then (body env1).bind fun f env2 => match f with
      | .nx => whileGo c body m env2
      | .ct => whileGo c body m env2
      | .bk => .ok .nx env2
      | .rt w => .ok (.rt w) env2 else .ok .nx env1) D := r
    refine (testS_step S r').mono fun k H1 ⟨B1, env1, fp1, S1, _, r1⟩ => ?_
    cases k with
    | false => exact r1 σ B1 H1 fp1 (Aft.refl S1) (Keep.refl _ _)
    | true =>
      refine ⟨fun σ' H' => tS K mg Wd kp (sWhile m c body) D σ' H', fun σ' H' h => ⟨m, Nat.lt_succ_self m, h⟩, B1, env1, fp1, S1, ?_⟩
      simp only [if_true] at r1
      cases eb : body env1 with
      | stuck =>
        rw [eb] at r1
        exact r1
      | err x e2 =>
        rw [eb] at r1
        exact r1
      | ok f env2 =>
        rw [eb] at r1
        cases f with
        | nx => exact fun σ' B' H' fp' A k => ⟨B', env2, fp', A.sim, ResS.later r1 A k⟩
        | ct => exact fun σ' B' H' fp' A k => ⟨B', env2, fp', A.sim, ResS.later r1 A k⟩
        | bk => exact r1
        | rt w => exact r1
end
section
variable {X : Cx} {Wd : WX} {kp : Kp} {pos : Pos} {c : Expr} {body : List Stmt} {tc : BM} {b : SM}
theorem ss_while (n : Nat) (hp : PassesOwn (model X.prog X.w) X.A X.env X.xe) (hc : ST X Wd c tc) (hb : SB X Wd kp body b) : SS X Wd kp (.While c body [] pos) (sWhile n tc b) := PS.less (ps_while hp hc hb) fun _ _ _ h => while_step h
end
end Mi
set_option maxRecDepth 100000
/-! Mi7: methods of built-in types, lists changed, comprehensions. -/
namespace Mi
open PySem PySem.Spec PyProof.Rows L2

/-! ### o.m(..) of a built-in type -/
def eMt (t : D → Bool) (p : List D → Option W) (o : EM) (ms : AM) : EM := fun env => (o env).bind fun r env1 => match res r env1 with
  | some d => if t d = true then (ms env1).bind fun os env2 => match (ress (r :: os) env2).bind p with
    | some w => .ok (.val w) env2
    | none => .stuck else .stuck
  | none => .stuck
section
variable {K : PySem.W.Frag} {mg : Str → Option Value} {B B' H H' : Hp} {env env' : En} {σ σ1 : L2.St} {fp fp' : Nat → Fp} {Wd : WX} {F : Fp} {kp kp' : Kp} {Q : VK}
theorem mt_step {t : D → Bool} {p : List D → Option W} {o : EM} {ms : AM} (h : tE K mg Wd (eMt t p o ms) σ H Q) : tE K mg Wd o σ H fun x H1 =>
    (∃ B d, Le B H1 ∧ RepO K mg B H1 d x ∧ t d = true) ∧ tA K mg Wd ms σ H1 fun xs H2 => PP K mg p Q (x :: xs) H2 := by
  obtain ⟨B, env, fp, S, r⟩ := h
  refine ⟨B, env, fp, S, ?_⟩
  unfold eMt at r
  cases e : o env with
  | stuck =>
    rw [e] at r
    exact r
  | err x e1 =>
    rw [e] at r
    exact r
  | ok op env1 =>
    rw [e] at r
    simp only [Out.bind] at r
    intro v B1 H1 fp1 F1 A1 R1
    cases q : res op env1 with
    | none =>
      rw [q] at r
      exact r.elim
    | some d =>
      have rr := res_rep A1.sim R1 q
      by_cases ht : t d = true
      · simp only [q, if_pos ht] at r
        refine ⟨⟨B1, d, A1.sim.le, rr, ht⟩, B1, env1, fp1, A1.sim, ?_⟩
        have t1 := R1.there
        cases e2 : ms env1 with
        | stuck =>
          simp only [Out.bind, e2] at r
          exact r
        | err x e3 =>
          simp only [Out.bind, e2] at r
          intro cls d B2 H2 fp2 A2 xr
          obtain ⟨_, _, A⟩ := A1.then_ t1 A2
          exact r cls d B2 H2 fp2 A.drop xr
        | ok os env2 =>
          simp only [e2] at r
          intro vs B2 H2 fp2 F2 A2 R2
          obtain ⟨k, dj, A⟩ := A1.then_ t1 A2
          have R : OpsRep K mg B2 H2 σ (op :: os) (v :: vs) (Or2 F1 F2) := .cons (R1.ext A2.gr.bk k) R2 dj fun _ => Iff.rfl
          cases q2 : ress (op :: os) env2 with
          | none =>
            simp only [q2, Option.bind] at r
            exact r.elim
          | some ds =>
            cases q3 : p ds with
            | none =>
              simp only [q2, Option.bind, q3] at r
              exact r.elim
            | some w =>
              simp only [q2, Option.bind, q3] at r
              exact ⟨B2, ds, w, A2.sim.le, ress_rep A2.sim R q2, q3, fun v' B3 H3 F3 n => r v' B3 H3 fp2 F3 (A.new n) n.rep⟩
      · simp only [q, if_neg ht] at r
        exact r.elim
end
def isStr : D → Bool
  | .str _ => true
  | _ => false
def isLst : D → Bool
  | .lst _ => true
  | _ => false
section
variable (K : PySem.W.Frag) (mg : Str → Option Value)
/-- a method's reading does p on the receiver and the arguments -/
def OpM (r : V → List V → Hp → VK → Prop) (p : List D → Option W) : Prop := ∀ (B H : Hp) (x : V) (xs : List V) (ds : List D) (w : W) (Q : VK), Le B H → RepOs K mg B H ds (x :: xs) → p ds = some w → (∀ v B' H' F, New K mg B H B' H' w v F → Q v H') → r x xs H Q
end
theorem tyV_str {K : PySem.W.Frag} {mg : Str → Option Value} {B H : Hp} {d : D} {x : V} (l : Le B H) (r : RepO K mg B H d x) (h : isStr d = true) : tyV K "str" x H := by
  cases d with
  | str z =>
    rcases r with r | ⟨_, _, _, e, _⟩ | ⟨_, _, _, _, _, _, e, _⟩
    · cases r
      rfl
    · cases e
    · cases e
  | _ => cases h
theorem tyV_lst {K : PySem.W.Frag} {mg : Str → Option Value} {B H : Hp} {d : D} {x : V} (l : Le B H) (r : RepO K mg B H d x) (h : isLst d = true) : tyV K "list" x H := by
  cases d with
  | lst ds =>
    obtain ⟨a, vs, rfl, hs, _⟩ := seq_list r l
    exact .inl ⟨rfl, vs, hs⟩
  | _ => cases h
section
variable {X : Cx} {Wd : WX} {o e : Expr} {es : List Expr} {name : Str} {apos cpos : Pos} {T id : String} {r : V → List V → Hp → VK → Prop} {p : List D → Option W} {mo : EM} {ms : AM}
theorem se_mt (t : D → Bool) (pa : PlainAttrs T) (slot : Slot T name id) (hty : typeOf (.builtin id) = pure (.type "method_descriptor")) (hm : MtR X id r) (hp : OpM X.K X.mg r p)
    (ht : ∀ {B H : Hp} {d : D} {x : V}, Le B H → RepO X.K X.mg B H d x → t d = true → tyV X.K T x H) (ho : SE X Wd o mo) (ha : SA X Wd (e :: es) ms)
    (hbase : attributeBase o name X.env (eval o X.env) = eval o X.env := by rfl)
    (hfew : ((backTo cpos (starEach (e :: es) X.env)).all (fun x => !x.1) && (backToKw cpos (keywordEach [] X.env)).all (fun x => x.1.isSome)
      && decide ((e :: es).length + ([] : List Keyword).length + (if ([] : List Keyword).isEmpty then 0 else 1) < 30)) = true := by rfl)
    (hline : (apos.endLine == cpos.line) = true := by rfl) (hs : starEach (e :: es) X.env = (false, eval e X.env) :: starEach es X.env := by rfl) (hplain : (backTo cpos (starEach es X.env)).any (·.1) = false := by rfl) :
    SE X Wd (.Call (.Attribute o name apos) (e :: es) [] cpos) (eMt t p mo ms) :=
  PE.less (pe_bm pa slot hty hm ho ha.pa hbase hfew hline hs hplain) fun _ _ _ h => (mt_step h).mono fun x H1 ⟨⟨B, d, l, r1, k⟩, h1⟩ => ⟨ht l r1 k, h1.mono fun xs H2 ⟨B2, ds, w, l2, r2, q, k2⟩ => hp B2 H2 x xs ds w _ l2 r2 q k2⟩
theorem se_mt0 (t : D → Bool) (pa : PlainAttrs T) (slot : Slot T name id) (hty : typeOf (.builtin id) = pure (.type "method_descriptor")) (hm : MtR X id r) (hp : OpM X.K X.mg r p)
    (ht : ∀ {B H : Hp} {d : D} {x : V}, Le B H → RepO X.K X.mg B H d x → t d = true → tyV X.K T x H) (ho : SE X Wd o mo)
    (hbase : attributeBase o name X.env (eval o X.env) = eval o X.env := by rfl) (hline : (apos.endLine == cpos.line) = true := by rfl) : SE X Wd (.Call (.Attribute o name apos) [] [] cpos) (eMt t p mo aNil) :=
  PE.less (pe_bm0 pa slot hty hm ho hbase hline) fun _ _ _ h => (mt_step h).mono fun x H1 ⟨⟨B, d, l, r1, k⟩, h1⟩ => ⟨ht l r1 k, let ⟨B2, ds, w, l2, r2, q, k2⟩ := aNil_step h1; hp B2 H1 x [] ds w _ l2 r2 q k2⟩
end

/-! ### slices -/
/-- an int, at once -/
def eInt (m : EM) : EM := fun env => (m env).bind fun o env1 => match res o env1 with
  | some (.int i) => .ok (.val (.sh (.int i))) env1
  | _ => .stuck
section
variable {K : PySem.W.Frag} {mg : Str → Option Value} {B B' H H' : Hp} {env env' : En} {σ σ1 : L2.St} {fp fp' : Nat → Fp} {Wd : WX} {F : Fp} {kp kp' : Kp} {Q : VK}
theorem int_step {m : EM} (h : tE K mg Wd (eInt m) σ H Q) : tE K mg Wd m σ H fun x H1 => ∃ i, x = .int i ∧ Q x H1 := by
  obtain ⟨B, env, fp, S, r⟩ := h
  refine ⟨B, env, fp, S, ?_⟩
  unfold eInt at r
  cases e : m env with
  | stuck =>
    rw [e] at r
    exact r
  | err x e1 =>
    rw [e] at r
    exact r
  | ok o env1 =>
    rw [e] at r
    simp only [Out.bind] at r
    intro v B1 H1 fp1 F1 A1 R1
    cases q : res o env1 with
    | none =>
      rw [q] at r
      exact r.elim
    | some d =>
      have rr := res_rep A1.sim R1 q
      rw [q] at r
      cases d with
      | int i =>
        have ev := repO_int rr
        subst ev
        exact ⟨i, rfl, r (.int i) B1 H1 fp1 Nil A1.drop (.sh (.int i) nil_no)⟩
      | _ => exact r.elim
end
/-- s[lo:hi] -/
abbrev eSl (p : D → D → D → Option W) (o : EM) (lo hi : Option EM) : EM := eP3 p o (match lo with | some m => eInt m | none => eC .non) (match hi with | some m => eInt m | none => eC .non)
def oI : Option Int → D
  | some i => .int i
  | none => .non
section
variable (K : PySem.W.Frag) (mg : Str → Option Value)
def OpS (r : V → Option Int → Option Int → Hp → VK → Prop) (p : D → D → D → Option W) : Prop := ∀ (B H : Hp) (x : V) (d : D) (lo hi : Option Int) (w : W) (Q : VK), Le B H → RepO K mg B H d x → p d (oI lo) (oI hi) = some w → (∀ v B' H' F, New K mg B H B' H' w v F → Q v H') → r x lo hi H Q
/-- an optional part's reading -/
def tPt (Wd : WX) (m : Option EM) : TO := match m with
  | some m => tPart (tE K mg Wd m)
  | none => tNoPart
end
section
variable {K : PySem.W.Frag} {mg : Str → Option Value} {B B' H H' : Hp} {env env' : En} {σ σ1 : L2.St} {fp fp' : Nat → Fp} {Wd : WX} {F : Fp} {kp kp' : Kp} {Q : VK}
theorem part_step {m : Option EM} {Q : V → Hp → Prop} (h : tE K mg Wd (match m with | some m => eInt m | none => eC .non) σ H Q) : tPt K mg Wd m σ H fun o H1 => Q (match o with | some i => .int i | none => .non) H1 := by
  cases m with
  | none => exact const_step (fun _ => .non) h
  | some m =>
    refine (int_step h).mono fun x H1 ⟨i, e, q⟩ => ⟨i, e, ?_⟩
    subst e
    exact q
theorem oI_of {d : D} {o : Option Int} (r : RepO K mg B H d (match o with | some i => .int i | none => .non)) : d = oI o := by
  cases o with
  | none =>
    rcases r with r | ⟨_, _, _, _, e, _⟩ | ⟨_, _, _, _, _, _, _, e, _⟩
    · cases r
      rfl
    · cases e
    · cases e
  | some i =>
    rcases r with r | ⟨_, _, _, _, e, _⟩ | ⟨_, _, _, _, _, _, _, e, _⟩
    · cases r
      rfl
    · cases e
    · cases e
theorem sl_step {r : V → Option Int → Option Int → Hp → VK → Prop} {p : D → D → D → Option W} {o : EM} {lo hi : Option EM} (hp : OpS K mg r p) (h : tE K mg Wd (eSl p o lo hi) σ H Q) : tSl r (tE K mg Wd o) (tPt K mg Wd lo) (tPt K mg Wd hi) σ H Q := by
  refine (aCons_step (prim_step h)).mono fun x H1 h1 => ?_
  have h2 := part_step (aCons_step h1)
  have mono : ∀ {m : Option EM} {σ : L2.St} {H : Hp} {Q Q' : Option Int → Hp → Prop}, tPt K mg Wd m σ H Q → (∀ o H, Q o H → Q' o H) → tPt K mg Wd m σ H Q' := fun {m σ H Q Q'} h i => by
    cases m with
    | none => exact i _ _ h
    | some m => exact tE.mono h fun x H ⟨j, e, q⟩ => ⟨j, e, i _ _ q⟩
  refine mono h2 fun l H2 h3 => ?_
  have h4 := part_step (aCons_step h3)
  refine mono h4 fun u H3 h5 => ?_
  obtain ⟨B, ds, w, le, rr, q, k⟩ := aNil_step h5
  cases rr with
  | cons r1 rr =>
    cases rr with
    | cons r2 rr =>
      cases rr with
      | cons r3 rr =>
        cases rr
        have e2 := oI_of r2
        have e3 := oI_of r3
        subst e2 e3
        exact hp B H3 x _ l u w Q le r1 q k
end
section
variable {X : Cx} {Wd : WX} {e : Expr} {lo hi : Option Expr} {pos p2 : Pos} {mo : EM} {ml mh : Option EM}
def SP (X : Cx) (Wd : WX) (e : Option Expr) (m : Option EM) : Prop := PO X e (tPt X.K X.mg Wd m)
theorem sp_none : SP X Wd none none := po_none
theorem sp_some {a : Expr} {m : EM} (h : SE X Wd a m) : SP X Wd (some a) (some m) := po_some h
theorem se_sl {r : V → Option Int → Option Int → Hp → VK → Prop} {p : D → D → D → Option W} (hr : SlR X r) (hp : OpS X.K X.mg r p) (he : SE X Wd e mo) (hl : SP X Wd lo ml) (hh : SP X Wd hi mh) : SE X Wd (.Subscript e (.Slice lo hi none p2) pos) (eSl p mo ml mh) :=
  PE.less (pe_slice hr he hl hh) fun _ _ _ h => sl_step hp h
end

/-! ### a list in a slot is changed -/
section
variable {K : PySem.W.Frag} {mg : Str → Option Value} {B B' H H' : Hp} {env env' : En} {σ σ1 : L2.St} {fp fp' : Nat → Fp} {Wd : WX} {F : Fp} {kp kp' : Kp} {D D' : Ends}
theorem Sim.own (S : Sim K mg B H env σ fp) {i : Nat} {ds : List Mi.D} (e : env[i]? = some (.ol ds)) : ∃ a vs, σ[i]? = some (some (.ref a)) ∧ H a = some (.lst vs) ∧ Reps K mg B ds vs ∧ ∀ b, fp i b ↔ b = a := by
  obtain ⟨v, hv, r⟩ := S.rep i _ e
  cases r with
  | ol h r ef => exact ⟨_, _, hv (fun z => nomatch z), h, r, ef⟩
/-- slot i's list at a is now vs' -/
theorem Sim.write (S : Sim K mg B H env σ fp) {i : Nat} {ds ds' : List Mi.D} {a : Addr} {vs' : List V} (e : env[i]? = some (.ol ds)) (hσ : σ[i]? = some (some (.ref a))) (r : Reps K mg B ds' vs') :
    Sim K mg B (upd H a (.lst vs')) (env.set i (.ol ds')) σ fp ∧ Grow B B H (upd H a (.lst vs')) (All fp) (All fp) := by
  obtain ⟨a', vs, hσ', h, _, ef⟩ := S.own e
  rw [hσ] at hσ'
  cases hσ'
  have fa : fp i a := (ef a).mpr rfl
  have na : B a = none := S.nb i a fa
  have hi : i < env.length := (List.getElem?_eq_some_iff.mp e).1
  refine ⟨⟨by simp [S.len], fun b o hb => ?_, fun j w ej => ?_, fun j hj b => ?_, S.dj, S.nb⟩, ⟨fun b o nb hb => ?_, Le.refl B, fun _ _ h => .inl h, fun b h => .inl h⟩⟩
  · rw [upd_ne fun z => by rw [z, na] at hb; cases hb]
    exact S.le b o hb
  · by_cases hji : j = i
    · subst hji
      rw [List.getElem?_set_self hi] at ej
      cases ej
      exact ⟨.ref a, fun _ => hσ, .ol upd_same r ef⟩
    · rw [List.getElem?_set_ne (Ne.symm hji)] at ej
      obtain ⟨v, hv, rv⟩ := S.rep j w ej
      refine ⟨v, hv, rv.ext (Le.refl B) fun b o f hb => ?_⟩
      rw [upd_ne fun z => by rw [z] at f; exact hji (S.dj j i a f fa)]
      exact hb
  · rw [List.length_set] at hj
    exact S.out j hj b
  · rw [upd_ne fun z => nb ⟨i, by rw [z]; exact fa⟩]
    exact hb
end
def sApp (i : Nat) (m : EM) : SM := fun env => match env[i]? with
  | some (.ol _) => (m env).bind fun o env1 => match env1[i]?, sres o env1 with
    | some (.ol ds), some d => if ds.length < sizeLine then .ok .nx (env1.set i (.ol (ds ++ [d]))) else .stuck
    | _, _ => .stuck
  | _ => .stuck
def sExt (i : Nat) (m : EM) : SM := fun env => match env[i]? with
  | some (.ol _) => (m env).bind fun o env1 => match env1[i]?, o with
    | some (.ol ds), .val (.ol es) => if ds.length + es.length ≤ sizeLine then .ok .nx (env1.set i (.ol (ds ++ es))) else .stuck
    | _, _ => .stuck
  | _ => .stuck
/-- x[k] = e -/
def sSetIx (i : Nat) (mk m : EM) : SM := fun env => (m env).bind fun o env1 => match env1[i]? with
  | some (.ol _) => (eInt mk env1).bind fun ok env2 => match env2[i]?, sres o env2, ok with
    | some (.ol ds), some d, .val (.sh (.int k)) => match ixN ds.length k with
      | some j => .ok .nx (env2.set i (.ol (ds.set j d)))
      | none => .stuck
    | _, _, _ => .stuck
  | _ => .stuck
section
variable {K : PySem.W.Frag} {mg : Str → Option Value} {B B' H H' : Hp} {env env' : En} {σ σ1 : L2.St} {fp fp' : Nat → Fp} {Wd : WX} {F : Fp} {kp kp' : Kp} {D D' : Ends}
theorem app_step {i : Nat} {m : EM} (h : tS K mg Wd kp (sApp i m) D σ H) : tDrop (tBM K "list" rAppend (tVar i) (tCons (tE K mg Wd m) tNil)) D σ H := by
  obtain ⟨B, env, fp, S, r⟩ := h
  unfold sApp at r
  cases q0 : env[i]? with
  | none =>
    rw [q0] at r
    exact r.elim
  | some w =>
    cases w with
    | ol ds0 =>
      rw [q0] at r
      obtain ⟨a, vs0, hσ, h0, r0, _⟩ := S.own q0
      refine ⟨.ref a, hσ, .inl ⟨rfl, vs0, SqL.of h0⟩, exp_step S r fun o env1 r v B1 H1 fp1 F1 A R => ?_⟩
      cases q1 : env1[i]? with
      | none =>
        rw [q1] at r
        exact r.elim
      | some w1 =>
        cases w1 with
        | ol ds =>
          cases q2 : sres o env1 with
          | none =>
            simp only [q1, q2] at r
            exact r.elim
          | some d =>
            by_cases hz : ds.length < sizeLine
            · simp only [q1, q2, if_pos hz] at r
              have A2 := A.shared
              have rd := sres_rep (B1 := share B1 H1 F1) A.sim R q2 (share_bk A.nb) fun b o f h => by rw [share_in f]; exact h
              obtain ⟨a', vs, hσ', ha, rs, _⟩ := A2.sim.own q1
              rw [hσ] at hσ'
              cases hσ'
              obtain ⟨S3, g3⟩ := A2.sim.write q1 hσ (rs.snoc rd)
              refine ⟨a, vs, v, rfl, rfl, ha, by rw [← rs.1]; exact hz, r σ _ _ fp1 ⟨S3, ?_, fun _ z => z.elim, fun _ z => z.elim⟩ (Keep.refl _ _)⟩
              exact (A2.gr.trans (g3.more fun b h => .inl h)).less fun b h => h.elim id fun z => z.elim
            · simp only [q1, q2, if_neg hz] at r
              exact r.elim
        | _ =>
          rw [q1] at r
          exact r.elim
    | _ =>
      rw [q0] at r
      exact r.elim
theorem ext_step {i : Nat} {m : EM} (h : tS K mg Wd kp (sExt i m) D σ H) : tDrop (tBM K "list" rExtend (tVar i) (tCons (tE K mg Wd m) tNil)) D σ H := by
  obtain ⟨B, env, fp, S, r⟩ := h
  unfold sExt at r
  cases q0 : env[i]? with
  | none =>
    rw [q0] at r
    exact r.elim
  | some w =>
    cases w with
    | ol ds0 =>
      rw [q0] at r
      obtain ⟨a, vs0, hσ, h0, r0, _⟩ := S.own q0
      refine ⟨.ref a, hσ, .inl ⟨rfl, vs0, SqL.of h0⟩, exp_step S r fun o env1 r v B1 H1 fp1 F1 A R => ?_⟩
      cases q1 : env1[i]? with
      | none =>
        rw [q1] at r
        exact r.elim
      | some w1 =>
        cases w1 with
        | ol ds =>
          cases o with
          | slot j =>
            simp only [q1] at r
            exact r.elim
          | val u =>
            cases u with
            | ol es =>
              by_cases hz : ds.length + es.length ≤ sizeLine
              · simp only [q1, if_pos hz] at r
                obtain ⟨a', vs, hσ', ha, rs, _⟩ := A.sim.own q1
                rw [hσ] at hσ'
                cases hσ'
                have R' : RepW K mg B1 H1 (.ol es) v F1 := R
                cases R' with
                | @ol b _ us _ hb rb eb =>
                  obtain ⟨S3, g3⟩ := A.sim.write q1 hσ (rs.append rb)
                  refine ⟨a, b, vs, us, rfl, rfl, ha, hb, by rw [← rs.1, ← rb.1]; exact hz, r σ _ _ fp1 ⟨S3, ?_, fun _ z => z.elim, fun _ z => z.elim⟩ (Keep.refl _ _)⟩
                  exact (A.drop.gr.trans (g3.more fun b h => .inl h)).less fun b h => h.elim id fun z => z.elim
              · simp only [q1, if_neg hz] at r
                exact r.elim
            | _ =>
              simp only [q1] at r
              exact r.elim
        | _ =>
          rw [q1] at r
          exact r.elim
    | _ =>
      rw [q0] at r
      exact r.elim
theorem setIx_step {i : Nat} {mk m : EM} (h : tS K mg Wd kp (sSetIx i mk m) D σ H) : tAsg (tE K mg Wd m) (gSub (tVar i) (tE K mg Wd mk) rSetL) D σ H := by
  obtain ⟨B, env, fp, S, r⟩ := h
  unfold sSetIx at r
  refine exp_step S r fun o env1 r v B1 H1 fp1 F1 A R => ?_
  have q0 : ∃ ds0, env1[i]? = some (.ol ds0) := by
    cases q : env1[i]? with
    | none =>
      rw [q] at r
      exact r.elim
    | some w =>
      cases w with
      | ol ds => exact ⟨ds, rfl⟩
      | _ =>
        rw [q] at r
        exact r.elim
  obtain ⟨ds0, q0⟩ := q0
  simp only [q0] at r
  obtain ⟨a0, vs0, hσ0, _⟩ := A.sim.own q0
  -- the index, what is stored beside
  have key : tE K mg Wd (eInt mk) σ H1 fun k H2 => rSetL (.ref a0) k v H2 fun H3 => D.nx σ H3 := by
    refine ⟨B1, env1, fp1, A.sim, ?_⟩
    have t1 := R.there
    cases e : eInt mk env1 with
    | stuck =>
      rw [e] at r
      exact r
    | err x e1 =>
      rw [e] at r
      intro cls d B2 H2 fp2 A2 xr
      obtain ⟨_, _, A3⟩ := A.then_ t1 A2
      exact r cls d σ B2 H2 fp2 A3.drop (Keep.refl _ _) xr
    | ok ok env2 =>
      simp only [e, Out.bind] at r
      intro k B2 H2 fp2 F2 A2 R2
      obtain ⟨kk, _, A3⟩ := A.then_ t1 A2
      cases q1 : env2[i]? with
      | none =>
        rw [q1] at r
        exact r.elim
      | some w =>
        cases w with
        | ol ds =>
          cases q2 : sres o env2 with
          | none =>
            simp only [q1, q2] at r
            exact r.elim
          | some d =>
            cases ok with
            | slot j =>
              simp only [q1, q2] at r
              exact r.elim
            | val u =>
              cases u with
              | sh e' =>
                cases e' with
                | int z =>
                  cases q3 : ixN ds.length z with
                  | none =>
                    simp only [q1, q2, q3] at r
                    exact r.elim
                  | some j =>
                    simp only [q1, q2, q3] at r
                    have R' : RepW K mg B2 H2 (.sh (.int z)) k F2 := R2
                    have ek : k = .int z := by
                      cases R' with
                      | sh h _ =>
                        cases h
                        rfl
                    subst ek
                    have A4 := (A3.part (G := F1) fun b f => .inl f).shared
                    have R1 : OpRep K mg B2 H2 σ o v F1 := R.ext A2.gr.bk kk
                    have rd := sres_rep (B1 := share B2 H2 F1) A2.sim R1 q2 (share_bk fun b f => A3.nb b (.inl f)) fun b o f h => by rw [share_in f]; exact h
                    obtain ⟨a, vs, hσ, ha, rs, _⟩ := A4.sim.own q1
                    rw [hσ0] at hσ
                    cases hσ
                    obtain ⟨S5, g5⟩ := A4.sim.write q1 hσ0 (rs.set j rd)
                    refine ⟨a0, vs, z, j, rfl, rfl, ha, by rw [← rs.1]; exact q3, r σ _ _ fp2 ⟨S5, ?_, fun _ z => z.elim, fun _ z => z.elim⟩ (Keep.refl _ _)⟩
                    exact (A4.gr.trans (g5.more fun b h => .inl h)).less fun b h => h.elim id fun z => z.elim
                | _ =>
                  simp only [q1, q2] at r
                  exact r.elim
              | _ =>
                simp only [q1, q2] at r
                exact r.elim
        | _ =>
          rw [q1] at r
          exact r.elim
  exact ⟨.ref a0, hσ0, (int_step key).mono fun k H2 ⟨z, _, q⟩ => q⟩
end
section
variable {X : Cx} {Wd : WX} {kp : Kp} {e k : Expr} {pos apos cpos xpos spos : Pos} {m mk : EM}
theorem ss_app (i : Nat) {x : Str} (he : SE X Wd e m) (hN : X.N[i]? = some x := by rfl) (hv : Vis X.env.scope x := by first | exact Or.inl rfl | exact Or.inr (Or.inl rfl) | exact Or.inr (Or.inr rfl)) (hd : (x == ("__debug__" : Str)) = false := by decide) (hcd : (x == ("__classdict__" : Str)) = false := by decide)
    (hbase : attributeBase (.Name x xpos) "append" X.env (eval (.Name x xpos) X.env) = eval (.Name x xpos) X.env := by rfl)
    (hfew : ((backTo cpos (starEach [e] X.env)).all (fun x => !x.1) && (backToKw cpos (keywordEach [] X.env)).all (fun x => x.1.isSome) && decide ([e].length + ([] : List Keyword).length + (if ([] : List Keyword).isEmpty then 0 else 1) < 30)) = true := by rfl)
    (hline : (apos.endLine == cpos.line) = true := by rfl) (hs1 : starEach [e] X.env = (false, eval e X.env) :: starEach [] X.env := by rfl) (hplain : (backTo cpos (starEach [] X.env)).any (·.1) = false := by rfl)
    (hs : swapsWith (.Call (.Attribute (.Name x xpos) "append" apos) [e] [] cpos) none pos.line X.env = pure false := by rfl) :
    SS X Wd kp (.Expr (.Call (.Attribute (.Name x xpos) "append" apos) [e] [] cpos) pos) (sApp i m) :=
  PS.less (ps_expr (pe_bm PySem.F.plainAttrs_list PySem.F.slot_list_append PySem.F.type_list_append mt_append (pe_var hN hv hd hcd) (pa_cons he pa_nil hs1) hbase hfew hline hs1 hplain) hs) fun _ _ _ h => app_step h
theorem ss_ext (i : Nat) {x : Str} (he : SE X Wd e m) (hN : X.N[i]? = some x := by rfl) (hv : Vis X.env.scope x := by first | exact Or.inl rfl | exact Or.inr (Or.inl rfl) | exact Or.inr (Or.inr rfl)) (hd : (x == ("__debug__" : Str)) = false := by decide) (hcd : (x == ("__classdict__" : Str)) = false := by decide)
    (hbase : attributeBase (.Name x xpos) "extend" X.env (eval (.Name x xpos) X.env) = eval (.Name x xpos) X.env := by rfl)
    (hfew : ((backTo cpos (starEach [e] X.env)).all (fun x => !x.1) && (backToKw cpos (keywordEach [] X.env)).all (fun x => x.1.isSome) && decide ([e].length + ([] : List Keyword).length + (if ([] : List Keyword).isEmpty then 0 else 1) < 30)) = true := by rfl)
    (hline : (apos.endLine == cpos.line) = true := by rfl) (hs1 : starEach [e] X.env = (false, eval e X.env) :: starEach [] X.env := by rfl) (hplain : (backTo cpos (starEach [] X.env)).any (·.1) = false := by rfl)
    (hs : swapsWith (.Call (.Attribute (.Name x xpos) "extend" apos) [e] [] cpos) none pos.line X.env = pure false := by rfl) :
    SS X Wd kp (.Expr (.Call (.Attribute (.Name x xpos) "extend" apos) [e] [] cpos) pos) (sExt i m) :=
  PS.less (ps_expr (pe_bm PySem.F.plainAttrs_list PySem.F.slot_list_extend PySem.F.type_list_extend mt_extend (pe_var hN hv hd hcd) (pa_cons he pa_nil hs1) hbase hfew hline hs1 hplain) hs) fun _ _ _ h => ext_step h
theorem ss_setIx (i : Nat) {x : Str} (he : SE X Wd e m) (hk : SE X Wd k mk) (hN : X.N[i]? = some x := by rfl) (hv : Vis X.env.scope x := by first | exact Or.inl rfl | exact Or.inr (Or.inl rfl) | exact Or.inr (Or.inr rfl)) (hd : (x == ("__debug__" : Str)) = false := by decide) (hcd : (x == ("__classdict__" : Str)) = false := by decide)
    (ha : ∀ v, assign (.Subscript (.Name x xpos) k spos) X.env v = (do
      let ov ← holding [v] (eval (.Name x xpos) X.env)
      let iv ← holding [v, ov] (eval k X.env)
      standAt spos
      holding [v, ov, iv] (setItem ov iv v)
      release [v, ov, iv] []) := by intro _; rfl)
    (hs : swapsWithSole [.Subscript (.Name x xpos) k spos] e pos.line X.env = pure false := by rfl) (hw : swappedStores [.Subscript (.Name x xpos) k spos] e X.env = pure none := by rfl)
    (h1 : (assignEach [.Subscript (.Name x xpos) k spos] X.env).map (·.2) = [assign (.Subscript (.Name x xpos) k spos) X.env] := by rfl) :
    SS X Wd kp (.Assign [.Subscript (.Name x xpos) k spos] e pos) (sSetIx i mk m) :=
  PS.less (ps_asg he (pg_sub (pe_var hN hv hd hcd) hk set_list ha) hs hw h1) fun _ _ _ h => setIx_step h
end
end Mi
set_option maxRecDepth 100000
/-! Mi8: list comprehensions. -/
namespace Mi
open PySem PySem.Spec PyProof.Rows L2

section
variable {M : Model} {A : Around} {E : Value → Shared → Prop} {s : Shared} {env : Env}
/-- behind a comprehension's block; the flight of an error is the frame's -/
def endC (M : Model) (A : Around) (E : Value → Shared → Prop) (Q : Value → Shared → Prop) (acc : Value) (C : Addr) (fr : Option Addr) (r : Result) (s' : Shared) : Prop :=
  match r with
  | .ok _ => ∃ m, s'.heap.Ns C m ∧ ∀ h', Heap.SameBut C s'.heap h' → Q acc { s' with heap := h' }
  | .error x => ∃ m, s'.heap.Ns C m ∧ ∀ h', Heap.SameBut C s'.heap h' → ∀ ce : Env, ce.frame = fr → wpAny M A (passOn "comprehension.variables-let-go" x ce : Sem Value) (fun _ _ => False) E { s' with heap := h' }
theorem comp_out {e : Expr} {scope : Scope} {pos : Pos} {newAcc first : Sem Value} {g : Comprehension} {gs : List Comprehension} {cl : List (Str × Addr)} {Q : Value → Shared → Prop}
    (hcl : clausesOf e = g :: gs) (hs : ∀ x, foldedSetIterable g.iter env x = pure x) (hclos : closureFor scope env = pure cl)
    (hkind : scope.kind = .function) (hnames : ∀ x ∈ scope.names, x.2 = .local → scope.names.lookup x.1 = some .local)
    (h : wpAny M A first (fun x s₁ => wpAny M A (pyIter x) (fun it s₂ => wpAny M A newAcc (fun acc s₃ =>
      wpAny M A (newFunctionEnv scope env.globals cl [] env.qual none .none (some env)) (fun ce s₄ =>
        codeAny M A (.compStart e 0 it acc { ce with scope := relabel scope env }) (endC M A E Q acc ce.locals ce.frame) s₄) E s₃) E s₂) E s₁) E s) :
    wpAny M A (comprehension e scope env pos newAcc false first none) Q E s := by
  unfold comprehension
  rw [hclos, hcl]
  refine wpAny_bind (wpAny_mono h (fun x s₁ h₁ => wpAny_bind (wpAny_standAt (wpAny_bind (wpAny_of_eq (hs x) (wpAny_bind (wpAny_holding (wpAny_mono h₁ (fun it s₂ h₂ => wpAny_standIf (wpAny_bind (wpAny_mono h₂ (fun acc s₃ h₃ => wpAny_bind (wpAny_pure (wpAny_bind (wpAny_mono h₃ (fun ce s₄ h₄ => ?_) fun _ _ h' => h')))) fun _ _ h' => h'))) fun _ _ h' => h'))))))) fun _ _ h' => h')
  dsimp only
  have hv : ∀ x ∈ (scope.names.filter fun x => (x.2 == .local || x.2 == .cell) && x.1 != (".0" : Str)).reverse, x.2 = .local → Env.kindOf { ce with scope := relabel scope env } x.1 = some .local :=
    fun x hx hl => lookup_relabel_local (hnames x (List.mem_filter.mp (List.mem_reverse.mp hx)).1 hl)
  refine wpAny_holding (wpAny_bind (wpAny_attempt (wpAny_holding (wpAny_run (codeAny_mono h₄ fun r s' hr => ?_)))))
  cases r with
  | ok f =>
    obtain ⟨m, hn, hq⟩ := hr
    exact wpAny_bind (wpAny_holding (wpAny_comp_letGo (cenv := { ce with scope := relabel scope env }) hkind _ s' m hv hn fun h' m' _ k => wpAny_pure (hq h' k)))
  | error x =>
    obtain ⟨m, hn, hq⟩ := hr
    exact wpAny_bind (wpAny_holding (wpAny_comp_letGo (cenv := { ce with scope := relabel scope env }) hkind _ s' m hv hn fun h' m' _ k => wpAny_mono (hq h' k _ rfl) (fun _ _ f => f.elim) fun _ _ y => y))
end
section
open HandSPX
variable {M : Model} {A : Around} {E : Value → Shared → Prop} {s : Shared} {Z : Obj → Prop} {base : Heap} {env : Env} {outer l : List Env} {L e : Addr}
theorem note_same {x : Value} {a b : Env} (h : a.frame = b.frame) : noteFrame x a = noteFrame x b := by
  unfold noteFrame PySem.frameOf
  rw [h]
theorem flight_to {fl : Value} {Q : Unit → Shared → Prop} (hB : base.StaysIn s.heap) (hl : s.heap.FunFrames base l) (ht : TracedZ s.heap base e Z fl)
    (h : ∀ h', base.StaysIn h' → h'.FunFrames base l → TracedZ h' base e Z (rawInt L) → s.heap.UpToSlots h' → Q () { s with heap := h' }) : wpAny M A (setFlight (.ref e) (some L)) Q E s := by
  obtain ⟨oe, vs, T, oT, ts, he, hz, hd, h1, nT, Te, hT, dT, h3⟩ := ht
  have z3 : 3 < ts.size := (Array.getElem?_eq_some_iff.mp h3).1
  have ot : ∀ b, b ≠ T → (s.heap.update T (Obj.mapFields (·.setIfInBounds 3 ((some L : Option Addr).elim Value.none fun f => rawInt f)))).get? b = s.heap.get? b := fun b hb => (Heap.get?_update_other _ _ (Ne.symm hb))
  have nr : ∀ b o, s.heap.get? b = some o → (∀ vs, o.data ≠ .fields vs) → b ≠ T := fun b o hb hnf q => by
    rw [q, hT] at hb
    cases hb
    exact hnf ts dT
  unfold setFlight
  refine wpAny_bind (wpAny_field he hd h1 ?_)
  rw [if_pos (by simp)]
  refine wpAny_setField hT dT z3 (h _ (fun b o hbo => (ot b fun q => by rw [q, nT] at hbo; cases hbo).trans (hB b o hbo)) (hl.of_keeps fun b o hb hnf => ⟨o, (ot b (nr b o hb hnf)).trans hb, rfl⟩) ?_ fun b o hb hnf => ⟨o.slots, (ot b (nr b o hb hnf)).trans hb⟩)
  exact ⟨oe, vs, T, _, _, (ot e (Ne.symm Te)).trans he, hz, hd, h1, nT, Te, Heap.get?_update_self _ hT (Obj.isFreed_of_fields (Obj.data_mapFields dT _)), Obj.data_mapFields dT _, by simp [z3]⟩
/-- noted at this frame, whatever frame has noted it ahead -/
theorem note_any {fl : Value} {Q : Unit → Shared → Prop} (hZ : HandSPX.Steady Z) (hfr : A.frames = some (env :: outer)) (hf : env.frame = some L) (hB : base.StaysIn s.heap) (hn : base.get? e = none) (hl : s.heap.FunFrames base (env :: outer)) (ht : TracedZ s.heap base e Z fl)
    (hQ : ∀ h', HeldZ base (env :: outer) e Z L h' → s.heap.UpToSlots h' → Q () { s with heap := h' }) : wpAny M A (noteFrame (.ref e) env) Q E s := by
  obtain ⟨oe, vs, T, oT, ts, he, hz, hd, h1, nT, Te, hT, dT, h3⟩ := ht
  unfold noteFrame
  simp only [hf]
  refine wpAny_bind (wpAny_field he hd h1 ?_)
  rw [if_pos (by simp)]
  refine wpAny_bind (wpAny_field hT dT h3 ?_)
  by_cases hfl : (fl == rawInt L) = true
  · rw [if_pos hfl]
    have e3 : fl = rawInt L := eq_of_beq hfl
    subst e3
    exact wpAny_pure (hQ s.heap ⟨hB, hn, hl, oe, vs, T, oT, ts, he, hz, hd, h1, nT, Te, hT, dT, h3⟩ (Heap.UpToSlots.refl _))
  · rw [if_neg hfl]
    refine wpAny_bind (wpAny_setField hT dT (Array.getElem?_eq_some_iff.mp h3).1 ?_)
    have ot : ∀ b, b ≠ T → (s.heap.update T (Obj.mapFields (·.setIfInBounds 3 Value.none))).get? b = s.heap.get? b := fun b hb => (Heap.get?_update_other _ _ (Ne.symm hb))
    have nr : ∀ b o, s.heap.get? b = some o → (∀ vs, o.data ≠ .fields vs) → b ≠ T := fun b o hb hnf q => by
      rw [q, hT] at hb
      cases hb
      exact hnf ts dT
    refine HandSPX.wpAny_entryZ hZ hfr (hl.of_keeps fun b o hb hnf => ⟨o, (ot b (nr b o hb hnf)).trans hb, rfl⟩) hf ((ot e (Ne.symm Te)).trans he)
      (fun b o hbo => (ot b fun q => by rw [q, nT] at hbo; cases hbo).trans (hB b o hbo)) hn hd (Array.getElem?_eq_some_iff.mp h1).1 hz fun h' hN => ?_
    obtain ⟨x1, x2, x3, x4⟩ := hN
    exact hQ h' ⟨x1, hn, x2, x3⟩ fun b o hb hnf => x4 b o ((ot b (nr b o hb hnf)).trans hb) hnf
theorem sky_held {L0 : Addr} {Q : Unit → Shared → Prop} (hZ : HandSPX.Steady Z) (hfr : A.frames = some (env :: outer)) (hf : env.frame = some L) (x : Sky base (env :: outer) e Z L0 s.heap)
    (hQ : ∀ h', HeldZ base (env :: outer) e Z L h' → s.heap.UpToSlots h' → Q () { s with heap := h' }) : wpAny M A (noteFrame (.ref e) env) Q E s := by
  rcases x with ⟨hB, hn, hl, oe, vs, he, hz, hd, h1⟩ | fl | hh
  · exact HandSPX.look_newZ hZ hfr hl hf he hB hn hd h1 hz hQ
  · exact note_any hZ hfr hf fl.1 fl.2.1 fl.2.2.1 fl.2.2.2 hQ
  · exact note_any hZ hfr hf hh.1 hh.2.1 hh.2.2.1 hh.2.2.2 hQ
end
/-- the context of a comprehension's block, errors let out -/
abbrev blkE (X : Cx) (s : Shared) (H : Hp) (scope : Scope) (ce : Env) (fp : List Addr) (xe : Value → Shared → Prop) : Cx := { X.blk s H scope ce fp with xe := xe }
theorem inv_E {X : Cx} {s3 : Shared} {H3 : Hp} {scope : Scope} {ce : Env} {fp : List Addr} {pins : List (Addr × Obj)} {σ : L2.St} {H : Hp} {s : Shared} (xe : Value → Shared → Prop) (I : Inv (X.blk s3 H3 scope ce fp) pins σ H s) : Inv (blkE X s3 H3 scope ce fp xe) pins σ H s :=
  ⟨⟨I.ok.mod, I.ok.kind, I.ok.glob, I.ok.blt, I.ok.above, I.ok.inj, I.ok.has, I.ok.cab, I.ok.hd, I.ok.frames, I.ok.stk, I.ok.exf, I.ok.bs, I.ok.bsz, I.ok.noex, I.ok.exfs, I.ok.funs, I.ok.frf⟩, I.os, I.bare, I.base, I.loc, I.cell, I.free, I.freeC, I.pin, I.hok, I.len⟩
theorem ff_less {h h' B B' : Heap} {C : Addr} (hB : ∀ b, b ≠ C → B'.get? b = B.get? b) (hC : B'.get? C = none) (k : ∀ b, b ≠ C → h'.get? b = h.get? b) (hc : ∃ o, B.get? C = some o) : ∀ {l : List Env}, h.FunFrames B l → h'.FunFrames B' l
  | [], _ => trivial
  | env :: l, x => by
    obtain ⟨hk, ⟨L, o, hf, hn, ho, hd⟩, hr⟩ := x
    have hL : L ≠ C := fun e => by
      obtain ⟨o', ho'⟩ := hc
      rw [e, ho'] at hn
      cases hn
    exact ⟨hk, ⟨L, o, hf, (hB L hL).trans hn, (k L hL).trans ho, hd⟩, ff_less hB hC k hc hr⟩
/-- an exception in the air of the block is, behind it, one in the caller's air -/
theorem out_takes {X : Cx} {W : WX} (tk : Takes X W) (hs : X.stack = X.env :: X.outer) (hf : X.env.frame = some X.env.locals) {s3 : Shared} {H3 : Hp} {scope : Scope} {ce : Env} {fp : List Addr} {pins : List (Addr × Obj)} {σ : L2.St}
    (I3 : Inv X pins σ H3 s3) (hce : ce.frame = X.env.frame) (hC : ce.locals = s3.heap.objs.size) (f3 : ∀ b ∈ fp, FpOk X pins H3 b ∧ b < s3.heap.objs.size) {Q : Value → Shared → Prop} {acc : Value} :
    Takes (blkE X s3 H3 scope ce fp (notedBy (model X.prog X.w) X.A ce fun e s' => endC (model X.prog X.w) X.A X.xe Q acc ce.locals X.env.frame (.error e) s')) (fun cls d _ H => W cls d σ H) := by
  rintro u s' ⟨a, B, sI, pins', σ2, H2, cls, d, rfl, J, nb, up, sky, na, os, ag, w⟩
  have nb : ∀ b o, sI.heap.get? b = some o → b ∉ frs X.stack → B.get? b = some o := nb
  have sky : Sky B X.stack a (Zc cls d) ce.locals s'.heap := sky
  have hfr : X.A.frames = some (X.env :: X.outer) := by rw [I3.ok.frames, hs]
  rw [hs] at sky
  show wpAny (model X.prog X.w) X.A (noteFrame (.ref a) ce) _ _ s'
  rw [note_same hce]
  refine sky_held Zc.steady hfr hf sky fun h1 held up1 => ?_
  -- the block's names
  obtain ⟨m, hm, _⟩ := J.loc
  have hm : sI.heap.Ns ce.locals m := hm
  have nC : H2 ce.locals = none := J.free
  have cf : ce.locals ∉ frs X.stack := by
    rw [hC]
    exact fun hm => (List.mem_cons.mp (I3.stkSub _ hm)).elim (fun z => Nat.ne_of_gt I3.lt z) (I3.nofs (Nat.le_refl _))
  obtain ⟨oC, es, ep, hoC, rC⟩ := id hm
  have bC : B.get? ce.locals = some oC := nb _ _ hoC cf
  refine ⟨m, ⟨oC, es, ep, held.1 _ _ bC, rC⟩, fun h' sb ce' hce' => ?_⟩
  -- the caller's state without the exception
  have I7 : Inv X pins σ H2 sI := I3.call' (ch := fp) J.os J.base J.hok J.bare fun b hb => ⟨(f3 b hb).1.2.2.2.1, (f3 b hb).1.2.1, (f3 b hb).1.2.2.2.2.1, (f3 b hb).1.2.2.2.2.2⟩
  obtain ⟨f0, f1, f2, f4, f5, f6⟩ : FpOk X pins H2 ce.locals := I3.fpOk (by rw [hC]; exact Nat.le_refl _) nC
  obtain ⟨G, g1, g2⟩ := restrict sI.heap fun b => decide (b ≠ ce.locals)
  obtain ⟨B', b1, b2⟩ := restrict B fun b => decide (b ≠ ce.locals)
  have g1 : ∀ b, b ≠ ce.locals → G.get? b = sI.heap.get? b := fun b hb => g1 b (decide_eq_true hb)
  have b1 : ∀ b, b ≠ ce.locals → B'.get? b = B.get? b := fun b hb => b1 b (decide_eq_true hb)
  have g2 : G.get? ce.locals = none := g2 _ (by simp)
  have b2 : B'.get? ce.locals = none := b2 _ (by simp)
  have I8 : Inv X pins σ H2 { sI with heap := G } := I7.turned (t' := sI.toks) (fun b o hb e => (g1 b hb).trans e) f0 f1 f4 f5 f6
  have hsb : ∀ b, b ≠ ce.locals → h'.get? b = h1.get? b := sb.2
  obtain ⟨k1, k2, k3, oe, vs, T, oT, ts, he, hz, hd, hv, nT, Te, hT, dT, hfl⟩ := held
  have aC : a ≠ ce.locals := fun e => by rw [e, bC] at k2; cases k2
  have TC : T ≠ ce.locals := fun e => by rw [e, bC] at nT; cases nT
  have stay : B'.StaysIn h' := fun b o e => by
    have hb : b ≠ ce.locals := fun z => by rw [z, b2] at e; cases e
    rw [b1 b hb] at e
    exact (hsb b hb).trans (k1 b o e)
  have fun' : h'.FunFrames B' (X.env :: X.outer) := ff_less b1 b2 hsb ⟨oC, bC⟩ k3
  have tr : HandSPX.TracedZ h' B' a (Zc cls d) (rawInt X.env.locals) := ⟨oe, vs, T, oT, ts, (hsb a aC).trans he, hz, hd, hv, (b1 T TC).trans nT, Te, (hsb T TC).trans hT, dT, hfl⟩
  unfold PySem.passOn
  refine wpAny_bind (wpAny_field ((hsb a aC).trans he) hd hv ?_)
  rw [if_neg (by simp)]
  refine wpAny_bind ?_
  rw [hce', hf]
  refine flight_to stay fun' tr fun h2 q1 q2 q3 q4 => wpAny_throw (tk _ _ ?_)
  refine ⟨a, B', { sI with heap := G }, pins, σ, H2, cls, d, rfl, I8, fun b o e hb => ?_, fun b o e hn => ?_, .inr (.inr ⟨q1, (b1 a aC).trans k2, by rw [hs]; exact q2, q3⟩), na, os, ag, w⟩
  · have hb2 : b ≠ ce.locals := fun z => by rw [z, g2] at e; cases e
    rw [g1 b hb2] at e
    rw [b1 b hb2]
    exact nb b o e hb
  · have hb2 : b ≠ ce.locals := fun z => by rw [z, g2] at e; cases e
    rw [g1 b hb2] at e
    obtain ⟨s1, e1⟩ := up b o e hn
    obtain ⟨s2, e2⟩ := up1 b _ e1 hn
    obtain ⟨s4, e4⟩ := q4 b _ ((hsb b hb2).trans e2) hn
    exact ⟨s4, e4⟩
section
variable {X : Cx}
theorem lc_out {W : WX} {pins : List (Addr × Obj)} {s : Shared} {σ : L2.St} {H : Hp} {Q : VK} {elt tg iter : Expr} {ifs : List Expr} {scope : Scope} {own : List (Str × Nat)} {pos pos' : Pos} {wi : TI} {g : TG} {tt : TT} {te : TE} {Qf : Value → Shared → Prop}
    (tk : Takes X W) (hst : X.stack = X.env :: X.outer) (hfr : X.env.frame = some X.env.locals) (hc : X.calm = true) (hN : X.N.Nodup) (I : Inv X pins σ H s) (hi : PI X tg iter wi) (ok : BlkOk X.N X.env.scope scope own)
    (hg : ∀ (s : Shared) (H : Hp) (C : Addr) (cl : List (Str × Addr)) (fp : List Addr) (xe : Value → Shared → Prop), PG (blkE X s H scope (compEnvC scope cl C X.env) fp xe) tg g)
    (ht : ∀ (s : Shared) (H : Hp) (C : Addr) (cl : List (Str × Addr)) (fp : List Addr) (xe : Value → Shared → Prop), PTs (blkE X s H scope (compEnvC scope cl C X.env) fp xe) ifs tt)
    (he : ∀ (s : Shared) (H : Hp) (C : Addr) (cl : List (Str × Addr)) (fp : List Addr) (xe : Value → Shared → Prop), Takes (blkE X s H scope (compEnvC scope cl C X.env) fp xe) (fun cls d _ H => W cls d σ H) → PE (blkE X s H scope (compEnvC scope cl C X.env) fp xe) elt te)
    (hs : ∀ x, foldedSetIterable iter X.env x = pure x) (h : tLc wi g tt te (own.map (·.2)) σ H Q)
    (hRR : ∀ D C s' m H', Inv X pins σ H' s' → Q (.ref D) H' → s'.heap.Ns C m → FpOk X pins H' C → endC (model X.prog X.w) X.A X.xe Qf (.ref D) C X.env.frame (.ok .next) s') :
    wpAny (model X.prog X.w) X.A (comprehension (.ListComp elt [⟨tg, iter, ifs, 0⟩] scope pos) scope X.env pos' (newList []) false (eval iter X.env) none) Qf X.xe s := by
  have hfree : ∀ y ∈ scope.names, y.2 = .free → ∃ c, X.env.cells.lookup y.1 = some c := fun y hy e => by
    rcases ok.free y hy e with k | k
    · exact I.ok.has _ (.inl k)
    · exact I.ok.has _ (.inr k)
  refine comp_out rfl hs (closure_ok hfree) ok.kind (fun y hy e => by rw [ok.uniq y hy, e])
    (thn (hi.run pins s σ H _ I h) fun xvx t1x hxx => thn hxx fun itvx t2x e2x => ?_)
  obtain ⟨it, fp, tn, J, K2x, e, J2x, T, u2x, z2x, q⟩ := e2x
  subst e
  refine wpAny_newObj_type (newEnv_comp ?_) (by show 0 ≤ sizeLine; decide)
  generalize hDx : t2x.heap.objs.size = D
  have hDnx : K2x D = none := J2x.hok.fresh (Nat.le_of_eq hDx)
  obtain ⟨W, ⟨m0, w0⟩, turnx⟩ := q D hDnx
  -- the new list
  generalize hs3 : ({ t2x with heap := t2x.heap.push { cls := .type "list", data := .seq ([] : List Value).toArray } } : Shared) = t3x
  have J3x : Inv X pins σ (upd K2x D (.lst [])) t3x := by
    rw [← hs3]
    refine J2x.laid (t' := t2x.toks) (fun b o e => Heap.get?_push_of_some _ e) (Nat.le_of_eq hDx) ⟨Nat.zero_le _, [], 0, .nil, ?_⟩
    rw [← hDx]
    exact Heap.get?_push_size _ rfl
  have e3x : t3x.heap = t2x.heap.push { cls := .type "list", data := .seq ([] : List Value).toArray } := by rw [← hs3]
  have szx : ∀ b ∈ fp, b < t2x.heap.objs.size := fun b hb => by
    obtain ⟨o, e, _⟩ := T.obj _ _ u2x b hb
    exact Heap.lt_size e
  have z3x : ∀ b ∈ fp, FpOk X pins (upd K2x D (.lst [])) b ∧ b < t3x.heap.objs.size := fun b hb => by
    have hltx := szx b hb
    refine ⟨⟨?_, (z2x b hb).2⟩, by rw [e3x, Heap.size_push]; exact Nat.lt_succ_of_lt hltx⟩
    rw [upd_ne (by rw [← hDx]; exact Nat.ne_of_lt hltx)]
    exact (z2x b hb).1
  have u3x : tn 0 t3x.heap := T.keep _ _ _ u2x fun b _ o e => by rw [e3x]; exact Heap.get?_push_of_some _ e
  have J4x := (block_start J3x ok hN z3x)
  have pgx := fun xe => hg t3x (upd K2x D (.lst [])) t3x.heap.objs.size (cellsFrom (t3x.heap.objs.size + 1) scope.names (cloFrom X.env.cells scope.names [])) fp xe
  have ptx := fun xe => ht t3x (upd K2x D (.lst [])) t3x.heap.objs.size (cellsFrom (t3x.heap.objs.size + 1) scope.names (cloFrom X.env.cells scope.names [])) fp xe
  have pex := fun xe => he t3x (upd K2x D (.lst [])) t3x.heap.objs.size (cellsFrom (t3x.heap.objs.size + 1) scope.names (cloFrom X.env.cells scope.names [])) fp xe
  show codeAny _ _ (.compStart (.ListComp elt [⟨tg, iter, ifs, 0⟩] scope pos) 0 (.ref it) (.ref D) (compEnvC scope (cellsFrom (t3x.heap.objs.size + 1) scope.names (cloFrom X.env.cells scope.names [])) t3x.heap.objs.size X.env)) (endC (model X.prog X.w) X.A X.xe Qf (.ref D) t3x.heap.objs.size X.env.frame) { t3x with heap := pushCells (t3x.heap.push { cls := .type "dict", data := .dict #[] }) scope.names }
  have nfpx : ∀ b ∈ fp, (upd K2x D (.lst [])) b = none := fun b hb => (z3x b hb).1.1
  generalize hcex : compEnvC scope (cellsFrom (t3x.heap.objs.size + 1) scope.names (cloFrom X.env.cells scope.names [])) t3x.heap.objs.size X.env = cex at J4x pgx ptx pex ⊢
  have cLx : cex.locals = t3x.heap.objs.size := by rw [← hcex]; rfl
  have cFx : cex.frame = X.env.frame := by rw [← hcex]; rfl
  generalize hH3 : upd K2x D (.lst []) = K3x at J3x J4x pgx ptx pex w0 nfpx z3x
  generalize hs4 : ({ t3x with heap := pushCells (t3x.heap.push { cls := .type "dict", data := .dict #[] }) scope.names } : Shared) = t4x at J4x ⊢
  have tkx := out_takes (scope := scope) tk hst hfr J3x cFx cLx z3x (Q := Qf) (acc := .ref D)
  rw [cLx] at tkx
  have pgx := pgx (notedBy (model X.prog X.w) X.A cex fun e s' => endC (model X.prog X.w) X.A X.xe Qf (.ref D) t3x.heap.objs.size X.env.frame (.error e) s')
  have ptx := ptx (notedBy (model X.prog X.w) X.A cex fun e s' => endC (model X.prog X.w) X.A X.xe Qf (.ref D) t3x.heap.objs.size X.env.frame (.error e) s')
  have pex := pex _ tkx
  have J4x := inv_E (notedBy (model X.prog X.w) X.A cex fun e s' => endC (model X.prog X.w) X.A X.xe Qf (.ref D) t3x.heap.objs.size X.env.frame (.error e) s') J4x
  generalize hEX : (notedBy (model X.prog X.w) X.A cex fun e s' => endC (model X.prog X.w) X.A X.xe Qf (.ref D) t3x.heap.objs.size X.env.frame (.error e) s') = EX at J4x tkx pgx ptx pex
  have u4x : tn 0 t4x.heap := T.keep _ _ _ u3x fun b _ o e => by rw [← hs4]; exact pushCells_keeps _ _ _ _ (Heap.get?_push_of_some _ e)
  have statx : ∀ {σ' : L2.St} {H' : Hp} {s' : Shared}, Inv (blkE X t3x K3x scope cex fp EX) [] σ' H' s' → (∀ b ∈ fp, H' b = none) → ∀ b ∈ fp, FpOk (blkE X t3x K3x scope cex fp EX) [] H' b := fun {σ' H' s'} I' hn b hb =>
    ⟨hn b hb, (I'.ok.exf b hb).1, I'.ok.exfs b hb, .inl hb, fun x c e => (I'.ok.exf b hb).2 x c e, fun p hp => absurd (show p ∈ ([] : List (Addr × Obj)) ++ [] from hp) (by simp)⟩
  have loopx : codeAny (model X.prog X.w) X.A (.compLoop (.ListComp elt [⟨tg, iter, ifs, 0⟩] scope pos) 0 (.ref it) (.ref D) cex) (endC (model X.prog X.w) X.A X.xe Qf (.ref D) t3x.heap.objs.size X.env.frame) t4x := by
    refine compLoop_any (fun n s' => ∃ i H', Inv (blkE X t3x K3x scope cex fp EX) [] (wipe σ (own.map (·.2))) H' s' ∧ tn i s'.heap ∧ (∀ b ∈ fp, H' b = none) ∧ W i n H') ?_ m0 ⟨0, K3x, J4x, u4x, nfpx, w0⟩
    rintro n t5x ⟨i, K5x, J5x, u5x, y5x, v5x⟩
    rw [show (notedBy (model X.prog X.w) X.A cex fun e s' => endC (model X.prog X.w) X.A X.xe Qf (.ref D) t3x.heap.objs.size X.env.frame (.error e) s') = EX from hEX]
    rcases turnx i n K5x v5x with ⟨stopx, qqx⟩ | ⟨gox, Nx, hNx, stepx⟩
    · have tdx := T.done (blkE X t3x K3x scope cex fp EX) rfl rfl rfl hc i [] t5x _ K5x (fun _ _ => False) J5x (statx J5x y5x) u5x stopx
      refine thnF tdx fun r t6x ⟨hrx, J6x⟩ => ?_
      subst hrx
      -- back in the def's context
      have J7x : Inv X pins σ K5x t6x := J3x.call' (ch := fp) J6x.os J6x.base J6x.hok J6x.bare fun b hb => ⟨(z3x b hb).1.2.2.2.1, (z3x b hb).1.2.1, (z3x b hb).1.2.2.2.2.1, (z3x b hb).1.2.2.2.2.2⟩
      have nCx : K5x t3x.heap.objs.size = none := by
        have z : K5x cex.locals = none := J6x.free
        rw [cLx] at z
        exact z
      obtain ⟨m, hn, _⟩ := J6x.loc
      have hn : t6x.heap.Ns cex.locals m := hn
      rw [cLx] at hn
      exact hRR D t3x.heap.objs.size t6x m K5x J7x qqx hn (J3x.fpOk (Nat.le_refl _) nCx)
    · have tix := T.item (blkE X t3x K3x scope cex fp EX) rfl rfl rfl hc i [] t5x _ K5x (fun _ _ => False) J5x (statx J5x y5x) u5x gox
      refine thnF tix fun r t6x ⟨u, hrx, e6x⟩ => ?_
      subst hrx
      refine thnF e6x fun _ t7x ⟨x, K7x, J7x, p7x, y7, u7x, y7x⟩ => ?_
      have J7y := J7x.pinned (statx J7x y7x) (T.obj _ _ u7x)
      refine thn (pgx.run _ t7x _ K7x x u _ J7y p7x (stepx x K7x y7)) fun _ t8x ⟨σ8, K8x, J8x, hw8, o8x⟩ => ?_
      refine thn (ptx.run _ t8x σ8 K8x _ J8x o8x) fun b t9x ⟨K9x, J9x, o9x⟩ => ?_
      -- the turn's end
      have finx : ∀ {s' : Shared} {H' : Hp}, Inv (blkE X t3x K3x scope cex fp EX) ([] ++ pinsAt fp t7x.heap) σ8 H' s' → Nx H' → ∃ m, m < n ∧ ∃ i H', Inv (blkE X t3x K3x scope cex fp EX) [] (wipe σ (own.map (·.2))) H' s' ∧ tn i s'.heap ∧ (∀ b ∈ fp, H' b = none) ∧ W i m H' := fun {s' H'} I' nxx => by
        obtain ⟨m', hmx, w'⟩ := hNx H' nxx
        have piny : ∀ b ∈ fp, ∀ o, t7x.heap.get? b = some o → s'.heap.get? b = some o ∧ H' b = none := fun b hb o e =>
          let z := I'.pin (b, o) (List.mem_append_right _ (List.mem_append_right _ (mem_pinsAt hb e)))
          ⟨z.1, z.2.1⟩
        have hlx : (wipe σ (own.map (·.2))).length = σ8.length := by rw [← hw8, wipe_length]
        refine ⟨m', hmx, i + 1, H', (I'.unpinned (pins := [])).weak hlx (fun j v e => ?_), T.keep _ _ _ u7x fun b hb o e => (piny b hb o e).1, fun b hb => ?_, w'⟩
        · rw [← hw8] at e
          exact (wipe_some e).1
        · obtain ⟨o, e, _⟩ := T.obj _ _ u7x b hb
          exact (piny b hb o e).2
      cases b with
      | false =>
        simp only [Bool.false_eq_true, if_false] at o9x ⊢
        exact finx J9x o9x
      | true =>
        simp only [if_true] at o9x ⊢
        refine thn (pex.run _ t9x σ8 K9x _ J9x o9x) fun z t10x ⟨yv, K10x, J10x, p10x, accx, hD10, hz10, nxx⟩ => ?_
        exact app_ok (X := blkE X t3x K3x scope cex fp EX) J10x hD10 hz10 p10x fun t11x J11x => finx J11x nxx
  exact codeAny_compStart_list loopx (T.self X.A 0 _ _ _ u4x loopx)
def tLcE (wi : TI) (g : TG) (tt : TT) (te : L2.St → TE) (vs : List Nat) : TE := fun σ H Q => tLc wi g tt (te σ) vs σ H Q
theorem pe_lcE {W : WX} {elt tg iter : Expr} {ifs : List Expr} {scope : Scope} {own : List (Str × Nat)} {pos : Pos} {wi : TI} {g : TG} {tt : TT} {te : L2.St → TE} (tk : Takes X W) (hst : X.stack = X.env :: X.outer) (hfr : X.env.frame = some X.env.locals) (hc : X.calm = true) (hN : X.N.Nodup) (hi : PI X tg iter wi) (ok : BlkOk X.N X.env.scope scope own)
    (hg : ∀ (s : Shared) (H : Hp) (C : Addr) (cl : List (Str × Addr)) (fp : List Addr) (xe : Value → Shared → Prop), PG (blkE X s H scope (compEnvC scope cl C X.env) fp xe) tg g)
    (ht : ∀ (s : Shared) (H : Hp) (C : Addr) (cl : List (Str × Addr)) (fp : List Addr) (xe : Value → Shared → Prop), PTs (blkE X s H scope (compEnvC scope cl C X.env) fp xe) ifs tt)
    (he : ∀ (σ : L2.St) (s : Shared) (H : Hp) (C : Addr) (cl : List (Str × Addr)) (fp : List Addr) (xe : Value → Shared → Prop), Takes (blkE X s H scope (compEnvC scope cl C X.env) fp xe) (fun cls d _ H => W cls d σ H) → PE (blkE X s H scope (compEnvC scope cl C X.env) fp xe) elt (te σ))
    (hs : ∀ x, foldedSetIterable iter X.env x = pure x) : PE X (.ListComp elt [⟨tg, iter, ifs, 0⟩] scope pos) (tLcE wi g tt te (own.map (·.2))) := by
  refine ⟨fun pins s σ H Q I h => ?_⟩
  rw [eval_ListComp]
  refine lc_out tk hst hfr hc hN I hi ok hg ht (he σ) hs h fun D C s' m H' I' q hn f => ⟨m, hn, fun h2 sb => ?_⟩
  obtain ⟨f0, f1, f2, f3, f4, f5⟩ := f
  exact ⟨.ref D, H', I'.turned (t' := s'.toks) (fun b o hb e => (sb.2 b hb).trans e) f0 f1 f3 f4 f5, rfl, q⟩
end
noncomputable def compGo (c : En → Prop) (t : Tg) (tt : BM) (m : EM) (vs : List Nat) : List D → List D → En → Out O := by
  classical
  exact fun ds => ds.rec (fun acc env => if c env then .ok (.val (.ol acc)) env else .stuck) fun d _ go acc env => if c env then (match t.asg d env with
    | none => .stuck
    | some env1 => match tt env1 with
      | .ok true env2 => (match m env2 with
        | .ok o env3 => (match sres o env3 with
          | some y => if acc.length < sizeLine then go (acc ++ [y]) (clr vs env3) else .stuck
          | none => .stuck)
        | .err x env3 => .err x (clr vs env3)
        | .stuck => .stuck)
      | .ok false env2 => go acc (clr vs env2)
      | _ => .stuck) else .stuck
theorem compGo_nil {c : En → Prop} {t : Tg} {tt : BM} {m : EM} {vs : List Nat} {acc : List D} {env : En} (h : c env) : compGo c t tt m vs [] acc env = .ok (.val (.ol acc)) env := if_pos h
theorem compGo_cons {c : En → Prop} {t : Tg} {tt : BM} {m : EM} {vs : List Nat} {d : D} {ds acc : List D} {env : En} (h : c env) : compGo c t tt m vs (d :: ds) acc env = match t.asg d env with
    | none => .stuck
    | some env1 => match tt env1 with
      | .ok true env2 => (match m env2 with
        | .ok o env3 => (match sres o env3 with
          | some y => if acc.length < sizeLine then compGo c t tt m vs ds (acc ++ [y]) (clr vs env3) else .stuck
          | none => .stuck)
        | .err x env3 => .err x (clr vs env3)
        | .stuck => .stuck)
      | .ok false env2 => compGo c t tt m vs ds acc (clr vs env2)
      | _ => .stuck := if_pos h
theorem compGo_not {c : En → Prop} {t : Tg} {tt : BM} {m : EM} {vs : List Nat} {ds acc : List D} {env : En} (h : ¬ c env) : compGo c t tt m vs ds acc env = .stuck := by
  cases ds with
  | nil => exact if_neg h
  | cons d ds => exact if_neg h
def bYes : BM := fun env => .ok true env
/-- [m for t in e if tt]: the value of e, no name's; vs: the slots of the comprehension's own names -/
noncomputable def eLc (e : EM) (t : Tg) (tt : BM) (m : EM) (vs : List Nat) : EM := fun env => (e env).bind fun o env1 => match o with
  | .slot _ => .stuck
  | .val w => match (w.fz).bind seqD with
    | some ds => compGo (fun _ => True) t tt m vs ds [] (clr vs env1)
    | none => .stuck
noncomputable def eLcV (i : Nat) (t : Tg) (tt : BM) (m : EM) (vs : List Nat) : EM := fun env => match ((env[i]?).bind W.fz).bind seqD with
  | some ds => compGo (fun env' => env'[i]? = env[i]?) t tt m vs ds [] (clr vs env)
  | none => .stuck
noncomputable def eLcR (e : EM) (t : Tg) (tt : BM) (m : EM) (vs : List Nat) : EM := fun env => (e env).bind fun o env1 => match res o env1 with
  | some (.int j) => if -(2 ^ 62) ≤ j ∧ j < 2 ^ 62 then compGo (fun _ => True) t tt m vs (rngD 0 j.toNat) [] (clr vs env1) else .stuck
  | _ => .stuck
theorem wipe_in {σ : L2.St} {i : Nat} : ∀ {vs : List Nat}, i ∈ vs → (wipe σ vs)[i]? = none ∨ (wipe σ vs)[i]? = some none
  | v :: vs, h => by
    unfold wipe
    by_cases e : v = i
    · subst e
      by_cases hv : v < (wipe σ vs).length
      · exact .inr (List.getElem?_set_self hv)
      · exact .inl (List.getElem?_eq_none (by simpa using hv))
    · rw [List.getElem?_set_ne e]
      rcases List.mem_cons.mp h with h | h
      · exact absurd h.symm e
      · exact wipe_in h
theorem wipe_eq {σ σ' : L2.St} {vs : List Nat} (hl : σ'.length = σ.length) (h : ∀ i, i ∉ vs → σ'[i]? = σ[i]?) : wipe σ' vs = wipe σ vs := by
  apply List.ext_getElem?
  intro i
  by_cases hi : i ∈ vs
  · rcases wipe_in (σ := σ') hi with a | a
    · rcases wipe_in (σ := σ) hi with b | b
      · rw [a, b]
      · have l1 := List.getElem?_eq_none_iff.mp a
        obtain ⟨l2, _⟩ := List.getElem?_eq_some_iff.mp b
        rw [wipe_length] at l1 l2
        omega
    · rcases wipe_in (σ := σ) hi with b | b
      · have l1 := List.getElem?_eq_none_iff.mp b
        obtain ⟨l2, _⟩ := List.getElem?_eq_some_iff.mp a
        rw [wipe_length] at l1 l2
        omega
      · rw [a, b]
  · rw [wipe_out hi, wipe_out hi]
    exact h i hi
theorem clr_in {i : Nat} : ∀ {l : List Nat} {env : En}, i ∈ l → (clr l env)[i]? = none ∨ (clr l env)[i]? = some .gone
  | j :: r, env, h => by
    rw [clr]
    by_cases hr : i ∈ r
    · exact clr_in hr
    · rcases List.mem_cons.mp h with e | e
      · subst e
        have out : ∀ {l : List Nat} {env : En}, i ∉ l → (clr l env)[i]? = env[i]? := by
          intro l
          induction l with
          | nil => intro env _; rfl
          | cons k r ih =>
            intro env hk
            rw [clr, ih fun z => hk (List.mem_cons_of_mem _ z), List.getElem?_set_ne fun z => hk (by rw [z]; exact List.mem_cons_self)]
        rw [out hr]
        by_cases hi : i < env.length
        · exact .inr (List.getElem?_set_self hi)
        · exact .inl (List.getElem?_eq_none (by simpa using hi))
      · exact absurd e hr
theorem clr_out {i : Nat} : ∀ {l : List Nat} {env : En}, i ∉ l → (clr l env)[i]? = env[i]?
  | [], env, _ => rfl
  | k :: r, env, hk => by rw [clr, clr_out fun z => hk (List.mem_cons_of_mem _ z), List.getElem?_set_ne fun z => hk (by rw [z]; exact List.mem_cons_self)]
section
variable {K : PySem.W.Frag} {mg : Str → Option Value} {B B' H H' : Hp} {env env' : En} {σ σ1 : L2.St} {fp fp' : Nat → Fp} {Wd Wd' : WX} {F : Fp} {kp kp' : Kp} {Q : VK}
/-- other values in slots of which nothing is known -/
theorem Sim.slots (S : Sim K mg B H env σ fp) (hl : σ1.length = σ.length) (h : ∀ (i : Nat) (w : W), env[i]? = some w → w ≠ W.gone → σ1[i]? = σ[i]?) : Sim K mg B H env σ1 fp :=
  ⟨by rw [hl]; exact S.len, S.le, fun i w e => let ⟨v, hv, r⟩ := S.rep i w e; ⟨v, fun ng => by rw [h i w e ng]; exact hv ng, r⟩, S.out, S.dj, S.nb⟩
theorem Aft.slots (A : Aft K mg B H fp env' σ B' H' fp' F) (hl : σ1.length = σ.length) (h : ∀ (i : Nat) (w : W), env'[i]? = some w → w ≠ W.gone → σ1[i]? = σ[i]?) : Aft K mg B H fp env' σ1 B' H' fp' F := ⟨A.sim.slots hl h, A.gr, A.apart, A.nb⟩
theorem Aft.clr (A : Aft K mg B H fp env' σ B' H' fp' F) (l : List Nat) : ∃ fp2, Aft K mg B H fp (Mi.clr l env') σ B' H' fp2 F := by
  obtain ⟨fp2, S2, sub, _⟩ := clr_sim (l := l) A.sim
  exact ⟨fp2, S2, A.gr.less fun b h => h.imp (fun ⟨i, h⟩ => ⟨i, sub i b h⟩) id, fun b f ⟨i, h⟩ => A.apart b f ⟨i, sub i b h⟩, A.nb⟩
/-- what of the comprehension's names is cleared: the values may be the def's -/
theorem Aft.unwipe {vs : List Nat} (A : Aft K mg B H fp (Mi.clr vs env') σ B' H' fp' F) (hl : σ1.length = σ.length) (h : ∀ i, i ∉ vs → σ1[i]? = σ[i]?) : Aft K mg B H fp (Mi.clr vs env') σ1 B' H' fp' F :=
  A.slots hl fun i w e ng => by
    by_cases hi : i ∈ vs
    · rcases clr_in (env := env') hi with z | z
      · rw [z] at e
        cases e
      · rw [z] at e
        cases e
        exact absurd rfl ng
    · exact h i hi
/-- a list that is owned beside grows -/
theorem Aft.grown {D : Addr} {us us' : List V} (A : Aft K mg B H fp env' σ B' H' fp' F) (hD : F D) (h : H' D = some (.lst us)) : Aft K mg B H fp env' σ B' (upd H' D (.lst us')) fp' F := by
  have ne : ∀ b, All fp' b → b ≠ D := fun b f e => A.apart D hD (by rw [← e]; exact f)
  have nB : B' D = none := A.nb D hD
  have le : Le B' (upd H' D (.lst us')) := fun b o hb => by
    rw [upd_ne fun z => by rw [z, nB] at hb; cases hb]
    exact A.sim.le b o hb
  refine ⟨A.sim.ext (Le.refl _) le (fun b o f e => by rw [upd_ne (ne b f)]; exact e) A.sim.nball, ?_, A.apart, A.nb⟩
  exact A.gr.trans ⟨fun b o n e => by rw [upd_ne fun z => n (.inr (by rw [z]; exact hD))]; exact e, Le.refl _, fun _ _ h => .inl h, fun b h => .inl h⟩
theorem compL_step {J : It} {ds : List Mi.D} {ok : Hp → Hp → Prop} {c : En → Prop} {t : Tg} {tt : BM} {m : EM} {vs : List Nat} {H1 B1 : Hp} {fp1 : Nat → Fp} {F1 : Fp} {env1 : En} {D : Addr} (Y : Yields K mg J ds ok)
    (A1 : Aft K mg B H fp env1 σ B1 H1 fp1 F1) (t1 : ∀ b, F1 b → Lv H1 b) (hD : H1 D = none)
    (hok : ∀ B2 H2 env2 fp2 F2, Aft K mg B H fp env2 (wipe σ vs) B2 H2 fp2 F2 → (∀ b o, F1 b → H1 b = some o → H2 b = some o) → Le B1 B2 → c env2 → ok B2 H2)
    (r : Res K mg (OpRep K mg) Wd σ B H fp (compGo c t tt m vs ds [] (clr vs env1)) Q) :
    ∃ W : Nat → Nat → Hp → Prop, (∃ m, W 0 m (upd H1 D (.lst []))) ∧ ∀ i n H, W i n H →
      (J.stop i H ∧ Q (.ref D) H) ∨ (J.go i H ∧ ∃ Nx : Hp → Prop, (∀ H', Nx H' → ∃ m', m' < n ∧ W (i + 1) m' H') ∧ ∀ x H', J.yld i H x H' → tG K mg (fun j => !vs.contains j) t x (wipe σ vs) H' fun σ2 H2 => wipe σ2 vs = wipe σ vs ∧
        tT K mg Wd' tt σ2 H2 fun b H3 => if b = true then tE K mg (fun cls d _ H => Wd cls d σ H) m σ2 H3 fun y H4 => ∃ acc, H4 D = some (.lst acc) ∧ acc.length < sizeLine ∧ Nx (upd H4 D (.lst (acc ++ [y]))) else Nx H3) := by
  -- the new list, beside what is walked
  have nF1 : ∀ b, F1 b → b ≠ D := fun b f e => by
    obtain ⟨o, z, _⟩ := t1 b f
    rw [e, hD] at z
    cases z
  have A0 : Aft K mg B H fp (clr vs env1) (wipe σ vs) B1 (upd H1 D (.lst [])) fp1 (Or2 F1 fun b => b = D) ∨ True := .inr trivial
  obtain ⟨fp0, A2⟩ := A1.clr vs
  have A3 := A2.unwipe (σ1 := wipe σ vs) (wipe_length _ _) fun i hi => wipe_out hi
  have n : New K mg B1 H1 B1 (upd H1 D (.lst [])) (.ol []) (.ref D) fun b => b = D := new_ol A1.sim.le hD .nil
  obtain ⟨k4, dj4, A4⟩ := A3.then_ t1 ((Aft.refl A3.sim).new n)
  refine ⟨fun i n2 H2 => n2 = ds.length - i ∧ i ≤ ds.length ∧ ∃ B2 env2 fp2 acc us, Aft K mg B H fp (clr vs env2) (wipe σ vs) B2 H2 fp2 (Or2 F1 fun b => b = D) ∧ (∀ b o, F1 b → H1 b = some o → H2 b = some o) ∧ Le B1 B2 ∧ H2 D = some (.lst us) ∧ Reps K mg B2 acc us ∧
      Res K mg (OpRep K mg) Wd σ B H fp (compGo c t tt m vs (ds.drop i) acc (clr vs env2)) Q,
    ⟨ds.length, by simp, Nat.zero_le _, B1, env1, fp0, [], [], A4, fun b o f e => by rw [upd_ne (nF1 b f)]; exact e, Le.refl _, upd_same, .nil, r⟩, ?_⟩
  rintro i n2 H2 ⟨rfl, hi, B2, env2, fp2, acc, us, A5, k5, l5, hus, rus, r2⟩
  by_cases hc : c (clr vs env2)
  · have o2 := hok B2 H2 _ fp2 _ A5 k5 l5 hc
    have t5 : ∀ b, Or2 F1 (fun b => b = D) b → Lv H2 b := fun b f => by
      rcases f with f | f
      · exact (t1 b f).keep fun o e => k5 b o f e
      · exact ⟨.lst us, by rw [f]; exact hus, fun _ z => nomatch z⟩
    by_cases hlt : i < ds.length
    · refine .inr ⟨Y.go i B2 H2 hlt o2, fun H' => ∃ m', m' < ds.length - i ∧ (m' = ds.length - (i + 1) ∧ i + 1 ≤ ds.length ∧ ∃ B3 env3 fp3 acc us, Aft K mg B H fp (clr vs env3) (wipe σ vs) B3 H' fp3 (Or2 F1 fun b => b = D) ∧ (∀ b o, F1 b → H1 b = some o → H' b = some o) ∧ Le B1 B3 ∧
          H' D = some (.lst us) ∧ Reps K mg B3 acc us ∧ Res K mg (OpRep K mg) Wd σ B H fp (compGo c t tt m vs (ds.drop (i + 1)) acc (clr vs env3)) Q), fun H' h => h, fun x H3 y => ?_⟩
      have ed : ds[i]? = some ds[i] := List.getElem?_eq_getElem hlt
      obtain ⟨B3, nw⟩ := Y.yld i _ x B2 H2 H3 ed o2 A5.sim.le y
      have L1 : Aft K mg B2 H2 fp2 (clr vs env2) (wipe σ vs) B3 H3 fp2 Nil := (Aft.refl A5.sim).new nw
      have rx : Rep K mg B3 ds[i] x := by
        have z := nw.rep
        cases z with
        | sh z _ => exact z
      rw [List.drop_eq_getElem_cons hlt, compGo_cons hc] at r2
      cases ea : t.asg ds[i] (clr vs env2) with
      | none =>
        rw [ea] at r2
        exact r2.elim
      | some env3 =>
        simp only [ea] at r2
        refine ⟨B3, _, fp2, _, env3, L1.sim, rx, ea, fun σ2 fp3 S3 a3 k3 => ?_⟩
        have L2' : Aft K mg B2 H2 fp2 env3 σ2 B3 H3 fp3 Nil := ⟨S3, L1.gr.less fun b h => h.elim (fun h => .inl (a3 b h)) fun z => z.elim, fun _ h => h.elim, fun _ h => h.elim⟩
        have kk : ∀ j, j ∉ vs → σ2[j]? = (wipe σ vs)[j]? := fun j hj => k3 j (by
          show (!vs.contains j) = true
          cases q : vs.contains j with
          | false => rfl
          | true => exact absurd (List.contains_iff_mem.mp q) hj)
        have al : ∀ (t : Tg) (d : Mi.D) (e e' : En), t.asg d e = some e' → e'.length = e.length := by
          intro t d e e' q
          cases t with
          | nm i =>
            cases q
            simp
          | tp is =>
            cases d with
            | tup xs =>
              have go : ∀ (is : List Nat) (xs : List Mi.D) (e e' : En), asgs is xs e = some e' → e'.length = e.length := by
                intro is
                induction is with
                | nil =>
                  intro xs e e' q
                  cases xs with
                  | nil =>
                    cases q
                    rfl
                  | cons _ _ => cases q
                | cons i is ih =>
                  intro xs e e' q
                  cases xs with
                  | nil => cases q
                  | cons x xs =>
                    rw [ih xs _ _ q]
                    simp
              exact go is xs e e' q
            | _ => cases q
        have hl2 : σ2.length = (wipe σ vs).length := by
          rw [← S3.len, ← A5.sim.len]
          exact al t _ _ _ ea
        have ew : wipe σ2 vs = wipe σ vs := by
          rw [wipe_eq hl2 kk]
          exact wipe_eq (wipe_length _ _) fun j hj => wipe_out hj
        refine ⟨ew, B3, env3, fp3, S3, ?_⟩
        -- back at the turn's end, with the new list as it is
        have back : ∀ {B4 H4 : Hp} {fp4 : Nat → Fp} {env4 : En}, Aft K mg B2 H2 fp2 env4 σ2 B4 H4 fp4 Nil → ∃ fp5, Aft K mg B H fp (clr vs env4) (wipe σ vs) B4 H4 fp5 (Or2 F1 fun b => b = D) ∧ (∀ b o, F1 b → H1 b = some o → H4 b = some o) ∧ Le B1 B4 ∧ H4 D = some (.lst us) ∧ Reps K mg B4 acc us := fun {B4 H4 fp4 env4} L => by
          obtain ⟨fp5, M1⟩ := L.clr vs
          have M2 := M1.unwipe (σ1 := wipe σ vs) hl2.symm fun j hj => (kk j hj).symm
          obtain ⟨k6, _, M3⟩ := A5.then_ t5 M2
          exact ⟨fp5, M3.part fun b f => .inl f, fun b o f e => k6 b o (.inl f) (k5 b o f e), l5.trans L.gr.bk, k6 D _ (.inr rfl) hus, rus.mono L.gr.bk⟩
        cases et : tt env3 with
        | stuck =>
          rw [et] at r2
          exact r2.elim
        | err x' e4 =>
          rw [et] at r2
          exact r2.elim
        | ok b env4 =>
          rintro _ B4 H4 fp4 F4 M4 ⟨rfl, n4⟩
          have L4 := L2'.trans M4.drop
          cases b with
          | false =>
            simp only [et] at r2
            obtain ⟨fp5, M5, k6, l6, h6, r6⟩ := back L4
            exact ⟨ds.length - (i + 1), by omega, rfl, hlt, B4, env4, fp5, acc, us, M5, k6, l6, h6, r6, r2⟩
          | true =>
            simp only [et] at r2
            simp only [if_true]
            refine ⟨B4, env4, fp4, M4.sim, ?_⟩
            cases em : m env4 with
            | stuck =>
              rw [em] at r2
              exact r2.elim
            | err x' e5 =>
              simp only [em] at r2
              intro cls d B5 H5 fp5 M5 ex
              obtain ⟨fp7, M7, _, _, _, _⟩ := back (L4.trans M5)
              exact r2 cls d B5 H5 fp7 ((M7.part (G := Nil) fun b f => f.elim).unwipe (σ1 := σ) (wipe_length _ _).symm fun j hj => (wipe_out hj).symm) ex
            | ok o env5 =>
              simp only [em] at r2
              intro yv B5 H5 fp5 F5 M5 R5
              cases q : sres o env5 with
              | none =>
                rw [q] at r2
                exact r2.elim
              | some d =>
                by_cases hz : acc.length < sizeLine
                · simp only [q, if_pos hz] at r2
                  have M6 := M5.shared
                  have rd := sres_rep (B1 := share B5 H5 F5) M5.sim R5 q (share_bk M5.nb) fun b o f h => by rw [share_in f]; exact h
                  obtain ⟨fp7, M7, k7, l7, h7, r7⟩ := back (L4.trans M6)
                  refine ⟨us, h7, by rw [← rus.1]; exact hz, ds.length - (i + 1), by omega, rfl, hlt, _, env5, fp7, acc ++ [d], us ++ [yv], M7.grown (.inr rfl) h7, fun b o f e => ?_, l7, upd_same, r7.snoc rd, r2⟩
                  rw [upd_ne (nF1 b f)]
                  exact k7 b o f e
                · simp only [q, if_neg hz] at r2
                  exact r2.elim
    · have e : i = ds.length := by omega
      subst e
      rw [List.drop_length, compGo_nil hc] at r2
      refine .inl ⟨Y.stop B2 H2 o2, ?_⟩
      have A6 := (A5.part (G := fun b => b = D) fun b f => .inr f).unwipe (σ1 := σ) (wipe_length _ _).symm fun j hj => (wipe_out hj).symm
      exact r2 (.ref D) B2 H2 fp2 _ A6 (.ol hus rus fun _ => Iff.rfl)
  · rw [compGo_not hc] at r2
    exact r2.elim
theorem lc_step {e : EM} {t : Tg} {tt : BM} {m : EM} {vs : List Nat} (h : tE K mg Wd (eLc e t tt m vs) σ H Q) : tLc (iSeq K (tE K mg Wd e)) (tG K mg (fun j => !vs.contains j) t) (tT K mg Wd' tt) (tE K mg (fun cls d _ H => Wd cls d σ H) m) vs σ H Q := by
  obtain ⟨B, env, fp, S, r⟩ := h
  unfold eLc at r
  -- what the source's expression comes to
  have src : ∀ {R : V → Hp → Prop}, (∀ o env1, e env = .ok o env1 → Res K mg (OpRep K mg) Wd σ B H fp ((fun (o : O) env1 => match o with
      | .slot _ => (.stuck : Out O)
      | .val w => match (w.fz).bind seqD with
        | some ds => compGo (fun _ => True) t tt m vs ds [] (clr vs env1)
        | none => .stuck) o env1) Q → ∀ v B1 H1 fp1 F1, Aft K mg B H fp env1 σ B1 H1 fp1 F1 → OpRep K mg B1 H1 σ o v F1 → R v H1) → tE K mg Wd e σ H R := fun {R} hR => by
    refine ⟨B, env, fp, S, ?_⟩
    cases q : e env with
    | stuck =>
      rw [q] at r
      exact r
    | err x e1 =>
      rw [q] at r
      exact r
    | ok o env1 =>
      rw [q] at r
      exact fun v B1 H1 fp1 F1 A R' => hR o env1 q r v B1 H1 fp1 F1 A R'
  by_cases ht : ∃ w env1 ds, e env = .ok (.val w) env1 ∧ w.fz = some (.tup ds)
  · refine .inr (src fun o env1 q0 r v B1 H1 fp1 F1 A R => ?_)
    obtain ⟨w, env2, ds, e', q⟩ := ht
    rw [q0] at e'
    cases e'
    simp only [q, Option.bind, seqD] at r
    have live : ∀ {B2 H2 : Hp}, Le B1 B2 → Le B2 H2 → (∀ b o, F1 b → H1 b = some o → H2 b = some o) → ∃ a us, v = .ref a ∧ SqT K H2 a us ∧ Reps K mg B2 ds us := fun {B2 H2} l l2 k =>
      seq_tup (repO_of (RepW.ext R l k) q l2) l2
    obtain ⟨a, us, rfl, hs, rr⟩ := live (Le.refl _) A.sim.le fun _ _ _ h => h
    refine ⟨a, rfl, ⟨us, hs⟩, fun D hD => compL_step yields_tup A (RepW.there R) hD (fun B2 H2 env2 fp2 F2 A2 k l _ => ?_) r⟩
    obtain ⟨a', us', ea, hs', rr'⟩ := live l A2.sim.le k
    cases ea
    exact ⟨us', hs', rr'⟩
  · refine .inl (src fun o env1 q0 r v B1 H1 fp1 F1 A R => ?_)
    cases o with
    | slot i => exact r.elim
    | val w =>
      cases q : w.fz with
      | none =>
        simp only [q, Option.bind] at r
        exact r.elim
      | some d =>
        cases q2 : seqD d with
        | none =>
          simp only [q, Option.bind, q2] at r
          exact r.elim
        | some ds =>
          simp only [q, Option.bind, q2] at r
          have ed : d = .lst ds := (seqD_cases q2).elim id fun z => absurd ⟨w, env1, ds, q0, by rw [q, z]⟩ ht
          subst ed
          have live : ∀ {B2 H2 : Hp}, Le B1 B2 → Le B2 H2 → (∀ b o, F1 b → H1 b = some o → H2 b = some o) → ∃ a us, v = .ref a ∧ SqL K H2 a us ∧ Reps K mg B2 ds us := fun {B2 H2} l l2 k =>
            seq_list (repO_of (RepW.ext R l k) q l2) l2
          obtain ⟨a, us, rfl, hs, rr⟩ := live (Le.refl _) A.sim.le fun _ _ _ h => h
          refine ⟨a, rfl, ⟨us, hs⟩, fun D hD => compL_step yields_list A (RepW.there R) hD (fun B2 H2 env2 fp2 F2 A2 k l _ => ?_) r⟩
          obtain ⟨a', us', ea, hs', rr'⟩ := live l A2.sim.le k
          cases ea
          exact ⟨us', hs', rr'⟩
theorem lcV_step {i : Nat} {t : Tg} {tt : BM} {m : EM} {vs : List Nat} (hi : i ∉ vs) (h : tE K mg Wd (eLcV i t tt m vs) σ H Q) : tLc (iSeq K (tVar i)) (tG K mg (fun j => !vs.contains j) t) (tT K mg Wd' tt) (tE K mg (fun cls d _ H => Wd cls d σ H) m) vs σ H Q := by
  obtain ⟨B, env, fp, S, r⟩ := h
  unfold eLcV at r
  cases q0 : env[i]? with
  | none =>
    rw [q0] at r
    exact r.elim
  | some w =>
    cases q : w.fz with
    | none =>
      simp only [q0, Option.bind, q] at r
      exact r.elim
    | some d =>
      cases q2 : seqD d with
      | none =>
        simp only [q0, Option.bind, q, q2] at r
        exact r.elim
      | some ds =>
        simp only [q0, Option.bind, q, q2] at r
        obtain ⟨v, hv, rw0⟩ := S.rep i w q0
        have ng : w ≠ .gone := fun z => by rw [z] at q; cases q
        have hσ := hv ng
        have live : ∀ {σ' : L2.St} {B2 H2 : Hp} {env2 : En} {fp2 : Nat → Fp}, Sim K mg B2 H2 env2 σ' fp2 → σ'[i]? = σ[i]? → env2[i]? = some w → RepO K mg B2 H2 d v := fun {σ' B2 H2 env2 fp2} S2 k e => by
          obtain ⟨v', hv', r'⟩ := S2.rep i w e
          have z := hv' ng
          rw [k, hσ] at z
          cases z
          exact repO_of r' q S2.le
        rcases seqD_cases q2 with rfl | rfl
        · left
          obtain ⟨a, us, rfl, hs, rr⟩ := seq_list (live S rfl q0) S.le
          refine ⟨_, hσ, a, rfl, ⟨us, hs⟩, fun D hD => compL_step yields_list (Aft.refl S) (fun _ z => z.elim) hD (fun B2 H2 env2 fp2 F2 A2 k l c => ?_) r⟩
          obtain ⟨a', us', ea, hs', rr'⟩ := seq_list (live A2.sim (wipe_out hi) c) A2.sim.le
          cases ea
          exact ⟨us', hs', rr'⟩
        · right
          obtain ⟨a, us, rfl, hs, rr⟩ := seq_tup (live S rfl q0) S.le
          refine ⟨_, hσ, a, rfl, ⟨us, hs⟩, fun D hD => compL_step yields_tup (Aft.refl S) (fun _ z => z.elim) hD (fun B2 H2 env2 fp2 F2 A2 k l c => ?_) r⟩
          obtain ⟨a', us', ea, hs', rr'⟩ := seq_tup (live A2.sim (wipe_out hi) c) A2.sim.le
          cases ea
          exact ⟨us', hs', rr'⟩
theorem lcR_step {e : EM} {t : Tg} {tt : BM} {m : EM} {vs : List Nat} (h : tE K mg Wd (eLcR e t tt m vs) σ H Q) : tLc (iRng1 (tCons (tE K mg Wd e) tNil)) (tG K mg (fun j => !vs.contains j) t) (tT K mg Wd' tt) (tE K mg (fun cls d _ H => Wd cls d σ H) m) vs σ H Q := by
  obtain ⟨B, env, fp, S, r⟩ := h
  unfold eLcR at r
  refine ⟨B, env, fp, S, ?_⟩
  cases q : e env with
  | stuck =>
    rw [q] at r
    exact r
  | err x e1 =>
    rw [q] at r
    exact r
  | ok o env1 =>
    rw [q] at r
    simp only [Out.bind] at r
    intro v B1 H1 fp1 F1 A R
    cases q1 : res o env1 with
    | none =>
      rw [q1] at r
      exact r.elim
    | some d =>
      have rr := res_rep A.sim R q1
      rw [q1] at r
      cases d with
      | int j =>
        by_cases hj : -(2 ^ 62) ≤ j ∧ j < 2 ^ 62
        · simp only [if_pos hj] at r
          have ev := repO_int rr
          subst ev
          exact ⟨j, rfl, hj.1, hj.2, fun D hD => compL_step (yields_range (lo := 0) (n := j.toNat)) A.drop (fun _ z => z.elim) hD (fun _ _ _ _ _ _ _ _ _ => trivial) r⟩
        · simp only [if_neg hj] at r
          exact r.elim
      | _ => exact r.elim
end
section
variable {X : Cx} {Wd : WX} {pos : Pos} {elt tg iter : Expr} {ifs : List Expr} {scope : Scope} {own : List (Str × Nat)} {e m : EM} {t : Tg} {tt : BM}
/-- the clause's tests -/
abbrev STs (X : Cx) (Wd : WX) (ifs : List Expr) (tt : BM) : Prop := PTs X ifs (tT X.K X.mg Wd tt)
theorem sts_nil : STs X Wd [] bYes := ⟨fun pins s σ H Q I h => pts_nil.run pins s σ H Q I (let ⟨B, env, fp, S, r⟩ := h; r true B H fp Nil (Aft.refl S) ⟨rfl, nil_no⟩)⟩
theorem sts_one {c : Expr} (h : ST X Wd c tt) : STs X Wd [c] tt := pts_one h
abbrev WN : WX := fun _ _ _ _ => False
theorem se_lc (tk : Takes X Wd) (hc : X.calm = true) (hN : X.N.Nodup) (he : SE X Wd iter e) (ok : BlkOk X.N X.env.scope scope own)
    (hg : ∀ (s : Shared) (H : Hp) (C : Addr) (cl : List (Str × Addr)) (fp : List Addr) (xe : Value → Shared → Prop), SG (blkE X s H scope (compEnvC scope cl C X.env) fp xe) (fun j => !(own.map (·.2)).contains j) tg t)
    (ht : ∀ (s : Shared) (H : Hp) (C : Addr) (cl : List (Str × Addr)) (fp : List Addr) (xe : Value → Shared → Prop), STs (blkE X s H scope (compEnvC scope cl C X.env) fp xe) WN ifs tt)
    (hm : ∀ (σ : L2.St) (s : Shared) (H : Hp) (C : Addr) (cl : List (Str × Addr)) (fp : List Addr) (xe : Value → Shared → Prop), Takes (blkE X s H scope (compEnvC scope cl C X.env) fp xe) (fun cls d _ H => Wd cls d σ H) → SE (blkE X s H scope (compEnvC scope cl C X.env) fp xe) (fun cls d _ H => Wd cls d σ H) elt m) (hs : ∀ x, foldedSetIterable iter X.env x = pure x := by intro _; rfl) (hst : X.stack = X.env :: X.outer := by rfl) (hfr : X.env.frame = some X.env.locals := by rfl) :
    SE X Wd (.ListComp elt [⟨tg, iter, ifs, 0⟩] scope pos) (eLc e t tt m (own.map (·.2))) := PE.less (pe_lcE tk hst hfr hc hN (pi_seq he) ok hg ht (te := fun σ => tE X.K X.mg (fun cls d _ H => Wd cls d σ H) m) hm hs) fun _ _ _ h => lc_step h
theorem se_lcV (i : Nat) {x : Str} {xpos : Pos} (tk : Takes X Wd) (hc : X.calm = true) (hN : X.N.Nodup) (ok : BlkOk X.N X.env.scope scope own)
    (hg : ∀ (s : Shared) (H : Hp) (C : Addr) (cl : List (Str × Addr)) (fp : List Addr) (xe : Value → Shared → Prop), SG (blkE X s H scope (compEnvC scope cl C X.env) fp xe) (fun j => !(own.map (·.2)).contains j) tg t)
    (ht : ∀ (s : Shared) (H : Hp) (C : Addr) (cl : List (Str × Addr)) (fp : List Addr) (xe : Value → Shared → Prop), STs (blkE X s H scope (compEnvC scope cl C X.env) fp xe) WN ifs tt)
    (hm : ∀ (σ : L2.St) (s : Shared) (H : Hp) (C : Addr) (cl : List (Str × Addr)) (fp : List Addr) (xe : Value → Shared → Prop), Takes (blkE X s H scope (compEnvC scope cl C X.env) fp xe) (fun cls d _ H => Wd cls d σ H) → SE (blkE X s H scope (compEnvC scope cl C X.env) fp xe) (fun cls d _ H => Wd cls d σ H) elt m) (hi : i ∉ own.map (·.2) := by decide) (hx : X.N[i]? = some x := by rfl)
    (hv : Vis X.env.scope x := by first | exact Or.inl rfl | exact Or.inr (Or.inl rfl) | exact Or.inr (Or.inr rfl)) (hd : (x == ("__debug__" : Str)) = false := by decide) (hcd : (x == ("__classdict__" : Str)) = false := by decide)
    (hs : ∀ y, foldedSetIterable (.Name x xpos) X.env y = pure y := by intro _; rfl) (hst : X.stack = X.env :: X.outer := by rfl) (hfr : X.env.frame = some X.env.locals := by rfl) :
    SE X Wd (.ListComp elt [⟨tg, .Name x xpos, ifs, 0⟩] scope pos) (eLcV i t tt m (own.map (·.2))) := PE.less (pe_lcE tk hst hfr hc hN (pi_seq (pe_var hx hv hd hcd)) ok hg ht (te := fun σ => tE X.K X.mg (fun cls d _ H => Wd cls d σ H) m) hm hs) fun _ _ _ h => lcV_step hi h
theorem se_lcR {a : Expr} {p pos2 : Pos} (tk : Takes X Wd) (hc : X.calm = true) (hN : X.N.Nodup) (hgl : Gl X "range") (hmg : X.mg "range" = none) (he : SE X Wd a e) (ok : BlkOk X.N X.env.scope scope own)
    (hg : ∀ (s : Shared) (H : Hp) (C : Addr) (cl : List (Str × Addr)) (fp : List Addr) (xe : Value → Shared → Prop), SG (blkE X s H scope (compEnvC scope cl C X.env) fp xe) (fun j => !(own.map (·.2)).contains j) tg t)
    (ht : ∀ (s : Shared) (H : Hp) (C : Addr) (cl : List (Str × Addr)) (fp : List Addr) (xe : Value → Shared → Prop), STs (blkE X s H scope (compEnvC scope cl C X.env) fp xe) WN ifs tt)
    (hm : ∀ (σ : L2.St) (s : Shared) (H : Hp) (C : Addr) (cl : List (Str × Addr)) (fp : List Addr) (xe : Value → Shared → Prop), Takes (blkE X s H scope (compEnvC scope cl C X.env) fp xe) (fun cls d _ H => Wd cls d σ H) → SE (blkE X s H scope (compEnvC scope cl C X.env) fp xe) (fun cls d _ H => Wd cls d σ H) elt m)
    (hs1 : starEach [a] X.env = [(false, eval a X.env)] := by rfl) (hs : ∀ x, foldedSetIterable (.Call (.Name "range" p) [a] [] pos2) X.env x = pure x := by intro _; rfl) (hst : X.stack = X.env :: X.outer := by rfl) (hfr : X.env.frame = some X.env.locals := by rfl) :
    SE X Wd (.ListComp elt [⟨tg, .Call (.Name "range" p) [a] [] pos2, ifs, 0⟩] scope pos) (eLcR e t tt m (own.map (·.2))) :=
  PE.less (pe_lcE tk hst hfr hc hN (pi_range1 hgl hmg (pa_cons he pa_nil hs1) hs1) ok hg ht (te := fun σ => tE X.K X.mg (fun cls d _ H => Wd cls d σ H) m) hm hs) fun _ _ _ h => lcR_step h
end
end Mi
set_option maxRecDepth 100000
/-! Mi9: operations on data. -/
namespace Mi
open PySem PySem.Spec PyProof.Rows L2

section
variable {K : PySem.W.Frag} {mg : Str → Option Value} {B H : Hp}
theorem repO_str {x : Str} {v : V} (h : RepO K mg B H (.str x) v) : v = .str x := by
  rcases h with h | ⟨_, _, _, e, _⟩ | ⟨_, _, _, _, _, _, e, _⟩
  · cases h
    rfl
  · cases e
  · cases e
theorem repO_non {v : V} (h : RepO K mg B H .non v) : v = .non := by
  rcases h with h | ⟨_, _, _, e, _⟩ | ⟨_, _, _, _, _, _, e, _⟩
  · cases h
    rfl
  · cases e
  · cases e
theorem repO_tup {ds : List Mi.D} {v : V} (h : RepO K mg B H (.tup ds) v) : Rep K mg B (.tup ds) v := by
  rcases h with h | ⟨_, _, _, e, _⟩ | ⟨_, _, _, _, _, _, e, _⟩
  · exact h
  · cases e
  · cases e
end
section
variable {X : Cx} {pins : List (Addr × Obj)} {σ : L2.St} {H : Hp} {s : Shared}
theorem rd_exact {a : Addr} {xs : List V} (I : Inv X pins σ H s) (h : SqX X.K H a xs) : ∃ (its : List Value) (n : Nat), Vals xs its ∧ s.heap.get? a = some { cls := .type "list", data := .seq its.toArray n } := by
  rcases h with (h | ⟨o, h⟩) | ⟨its, n, hk, hz, r⟩
  · obtain ⟨z, its, n, r, hl, e⟩ := I.lstM h
    exact ⟨its, n, r, e⟩
  · obtain ⟨_, _, its, n, r, h1⟩ := (show ObjOk X.prog X.w H s.heap a (.frz o (.lst xs)) from I.hok a _ h)
    exact ⟨its, n, r, h1⟩
  · exact ⟨its.toList, n, r, I.kIn _ _ hk⟩
end
/-! ### + -/
def rCatL (K : PySem.W.Frag) : R2 := fun x y H Q => ∃ a b xs ys, x = .ref a ∧ y = .ref b ∧ SqX K H a xs ∧ SqX K H b ys ∧ xs.length + ys.length ≤ sizeLine ∧ ∀ p, H p = none → Q (.ref p) (upd H p (.lst (xs ++ ys)))
theorem op_catL {X : Cx} : OpR X (binaryOp .Add) (rCatL X.K) := by
  intro pins s σ H x y v u Q I rx ry h
  obtain ⟨l, b, xs, zs, rfl, rfl, hH, hB, hz, q⟩ := h
  cases rx
  cases ry
  obtain ⟨its, n, r, e⟩ := rd_exact I hH
  obtain ⟨its2, n2, r2, e2⟩ := rd_exact I hB
  have l1 := r.length
  have l2 := r2.length
  refine PySem.P.add_list e e2 ?_ (by rw [List.size_toArray, List.size_toArray]; omega)
  have ea : its.toArray ++ its2.toArray = (its ++ its2).toArray := by simp
  rw [ea]
  exact ⟨.ref _, _, I.lnew (t' := s.toks) (r.append r2) (by rw [List.length_append]; omega), rfl, q _ I.fresh⟩
def pAdd : D → D → Option W
  | .int i, .int j => some (.sh (.int (i + j)))
  | .str x, .str y => if x.length + y.length ≤ sizeLine then some (.sh (.str (x ++ y))) else none
  | .lst a, .lst b => if a.length + b.length ≤ sizeLine then some (.ol (a ++ b)) else none
  | .tup a, .tup b => if a.length + b.length ≤ sizeLine then some (.sh (.tup (a ++ b))) else none
  | _, _ => none
def rAddM (K : PySem.W.Frag) : R2 := fun x y H Q => (rI0 fun i j => .int (i + j)) x y H Q ∨ (∃ i j, x = .str i ∧ y = .str j ∧ i.length + j.length ≤ sizeLine ∧ Q (.str (i ++ j)) H) ∨ rCatL K x y H Q ∨ rCatA K x y H Q
theorem op_addM {X : Cx} : OpR X (binaryOp .Add) (rAddM X.K) := op_add.or (op_add_str.or (op_catL.or op_catA))
theorem new_same {K : PySem.W.Frag} {mg : Str → Option Value} {B H : Hp} {d : Mi.D} {v : V} {Q : VK} (l : Le B H) (q : ∀ v B' H' F, New K mg B H B' H' (.sh d) v F → Q v H') (r : Rep K mg B d v) : Q v H := q v B H Nil (new_sh l r)
theorem op2_add {K : PySem.W.Frag} {mg : Str → Option Value} : Op2 K mg (rAddM K) pAdd := by
  intro B H x y d e w Q l rx ry hp q
  cases d <;> cases e <;> first | (cases hp; done) | skip
  · cases hp
    cases repO_int rx
    cases repO_int ry
    exact .inl ⟨_, _, rfl, rfl, new_same l q (.int _)⟩
  · rename_i x1 x2
    cases repO_str rx
    cases repO_str ry
    by_cases hz : x1.length + x2.length ≤ sizeLine
    · rw [pAdd, if_pos hz] at hp
      cases hp
      exact .inr (.inl ⟨_, _, rfl, rfl, hz, new_same l q (.str _)⟩)
    · rw [pAdd, if_neg hz] at hp
      cases hp
  · rename_i x1 x2
    by_cases hz : x1.length + x2.length ≤ sizeLine
    · rw [pAdd, if_pos hz] at hp
      cases hp
      have r1 := repO_tup rx
      have r2 := repO_tup ry
      obtain ⟨a, vs, rfl, h1, s1⟩ := seq_tup rx l
      obtain ⟨b, us, rfl, h2, s2⟩ := seq_tup ry l
      refine .inr (.inr (.inr ⟨_, _, _, _, rfl, rfl, h1, h2, by rw [← s1.1, ← s2.1]; exact hz, fun e1 => ?_, fun _ e1 => ?_, fun _ _ p hn => ?_⟩))
      · subst e1
        have e0 : x1 = [] := List.eq_nil_of_length_eq_zero (by rw [s1.1]; rfl)
        subst e0
        exact new_same l q r2
      · subst e1
        have e0 : x2 = [] := List.eq_nil_of_length_eq_zero (by rw [s2.1]; rfl)
        subst e0
        rw [List.append_nil] at q
        exact new_same l q r1
      · exact q _ _ _ _ (new_tup l hn (s1.append s2))
    · rw [pAdd, if_neg hz] at hp
      cases hp
  · rename_i x1 x2
    by_cases hz : x1.length + x2.length ≤ sizeLine
    · rw [pAdd, if_pos hz] at hp
      cases hp
      obtain ⟨a, vs, rfl, h1, s1⟩ := rd_list rx l
      obtain ⟨b, us, rfl, h2, s2⟩ := rd_list ry l
      exact .inr (.inr (.inl ⟨_, _, _, _, rfl, rfl, h1, h2, by rw [← s1.1, ← s2.1]; exact hz, fun p hn => q _ _ _ _ (new_ol l hn (s1.append s2))⟩))
    · rw [pAdd, if_neg hz] at hp
      cases hp
/-! ### ints -/
def pI (g : Int → Int → Option Int) : D → D → Option W
  | .int i, .int j => (g i j).map fun k => .sh (.int k)
  | _, _ => none
theorem op2_I {K : PySem.W.Frag} {mg : Str → Option Value} {C : Int → Int → Prop} {g0 : Int → Int → Int} {g : Int → Int → Option Int} (hc : ∀ i j k, g i j = some k → C i j ∧ k = g0 i j) : Op2 K mg (rI C fun i j => .int (g0 i j)) (pI g) := by
  intro B H x y d e w Q l rx ry hp q
  cases d with
  | int i =>
    cases e with
    | int j =>
      have hp' : (g i j).map (fun k => W.sh (.int k)) = some w := hp
      cases hg : g i j with
      | none =>
        rw [hg] at hp'
        cases hp'
      | some k =>
        rw [hg] at hp'
        cases hp'
        obtain ⟨c, e⟩ := hc _ _ _ hg
        subst e
        cases repO_int rx
        cases repO_int ry
        exact ⟨_, _, rfl, rfl, c, new_same l q (.int _)⟩
    | _ => cases hp
  | _ => cases hp
theorem op2_I0 {K : PySem.W.Frag} {mg : Str → Option Value} {g0 : Int → Int → Int} : Op2 K mg (rI0 fun i j => .int (g0 i j)) (pI fun i j => some (g0 i j)) := by
  intro B H x y d e w Q l rx ry hp q
  obtain ⟨i, j, e1, e2, _, h⟩ := op2_I (K := K) (mg := mg) (C := fun _ _ => True) (g0 := g0) (g := fun i j => some (g0 i j)) (fun i j k h => ⟨trivial, by cases h; rfl⟩) B H x y d e w Q l rx ry hp q
  exact ⟨i, j, e1, e2, h⟩
def gMul (i j : Int) : Option Int := if (-(2 ^ 64) < i ∧ i < 2 ^ 64) ∨ (-(2 ^ 64) < j ∧ j < 2 ^ 64) then some (i * j) else none
def gMod (i j : Int) : Option Int := if 0 < j then some (i % j) else none
def gFdiv (i j : Int) : Option Int := if 0 < j ∧ j < 1073741824 then some (i / j) else none
def gPow (i j : Int) : Option Int := if 0 ≤ j ∧ j ≤ 1000000 ∧ i.natAbs < 2 ^ 64 then some (i ^ j.toNat) else none
theorem ite_some {α : Type} {c : Prop} [Decidable c] {a b : α} (h : (if c then some a else none) = some b) : c ∧ b = a := by
  by_cases hc : c
  · rw [if_pos hc] at h
    cases h
    exact ⟨hc, rfl⟩
  · rw [if_neg hc] at h
    cases h
abbrev pSub := pI fun i j => some (i - j)
section
variable {K : PySem.W.Frag} {mg : Str → Option Value}
theorem op2_sub : Op2 K mg (rI0 fun i j => .int (i - j)) pSub := op2_I0
theorem op2_mod : Op2 K mg (rI (fun _ j => 0 < j) fun i j => .int (i % j)) (pI gMod) := op2_I fun _ _ _ h => ite_some h
theorem op2_fdiv : Op2 K mg (rI CDiv fun i j => .int (i / j)) (pI gFdiv) := op2_I (g := gFdiv) fun i j _ h => let ⟨c, e⟩ := ite_some (c := 0 < j ∧ j < 1073741824) h; ⟨c, e⟩
theorem op2_pow : Op2 K mg (rI CPow fun i j => .int (i ^ j.toNat)) (pI gPow) := op2_I (g := gPow) fun i j _ h => let ⟨c, e⟩ := ite_some (c := 0 ≤ j ∧ j ≤ 1000000 ∧ i.natAbs < 2 ^ 64) h; ⟨c, e⟩
end
/-- *: ints, a text times an int -/
def pMul : D → D → Option W
  | .int i, .int j => (gMul i j).map fun k => .sh (.int k)
  | _, _ => none
theorem op2_mul {K : PySem.W.Frag} {mg : Str → Option Value} : Op2 K mg (rI CMul fun i j => .int (i * j)) pMul := by
  intro B H x y d e w Q l rx ry hp q
  refine op2_I (g := gMul) (fun _ _ _ h => ite_some h) B H x y d e w Q l rx ry ?_ q
  cases d <;> cases e <;> first | (cases hp; done) | exact hp
/-- - e -/
def pNeg : D → Option W
  | .int i => some (.sh (.int (-i)))
  | _ => none
theorem op1_neg {K : PySem.W.Frag} {mg : Str → Option Value} : Op1 K mg (rU fun i => .int (-i)) pNeg := by
  intro B H x d w Q l rx hp q
  cases d with
  | int i =>
    cases hp
    cases repO_int rx
    exact ⟨_, rfl, new_same l q (.int _)⟩
  | _ => cases hp

/-! ### == -/
mutual
def toP : D → Option PyData
  | .non => some .none
  | .bl b => some (.bool b)
  | .int i => some (.int i)
  | .str x => some (.str x)
  | .tup ds => (toPs ds).map .tuple
  | .lst ds => (toPs ds).map .list
  | .ins _ _ => none
  | .exc _ _ => none
def toPs : List D → Option (List PyData)
  | [] => some []
  | d :: ds => (toP d).bind fun p => (toPs ds).map fun ps => p :: ps
end
section
variable {K : PySem.W.Frag} {mg : Str → Option Value} {B H : Hp}
mutual
theorem dp_of (l : Le B H) : ∀ (d : Mi.D) (p : PyData) (v : V), toP d = some p → Rep K mg B d v → Dp K H v p
  | .non, p, v, h, r => by
    rw [toP] at h
    cases h
    cases r
    exact .non
  | .bl b, p, v, h, r => by
    rw [toP] at h
    cases h
    cases r
    exact .bl b
  | .int i, p, v, h, r => by
    rw [toP] at h
    cases h
    cases r
    exact .int i
  | .str x, p, v, h, r => by
    rw [toP] at h
    cases h
    cases r
    exact .str x
  | .tup ds, p, v, h, r => by
    rw [toP] at h
    cases e : toPs ds with
    | none =>
      rw [e] at h
      cases h
    | some ps =>
      rw [e] at h
      cases h
      cases r with
      | tup hs hl hr => exact .tup (l.sqT hs) (dps_of l ds ps _ e ⟨hl, hr⟩)
  | .lst ds, p, v, h, r => by
    rw [toP] at h
    cases e : toPs ds with
    | none =>
      rw [e] at h
      cases h
    | some ps =>
      rw [e] at h
      cases h
      cases r with
      | lst hs hl hr => exact .lst (l.sqX hs).sq (dps_of l ds ps _ e ⟨hl, hr⟩)
  | .ins _ _, p, v, h, r => by
    rw [toP] at h
    cases h
  | .exc _ _, p, v, h, r => by
    rw [toP] at h
    cases h
theorem dps_of (l : Le B H) : ∀ (ds : List Mi.D) (ps : List PyData) (vs : List V), toPs ds = some ps → Reps K mg B ds vs → DpAll K H vs ps
  | [], ps, vs, h, r => by
    rw [toPs] at h
    cases h
    cases vs with
    | nil => exact .nil
    | cons v vs => exact absurd r.1 (by simp)
  | d :: ds, ps, vs, h, r => by
    rw [toPs] at h
    cases e : toP d with
    | none =>
      rw [e] at h
      cases h
    | some p =>
      cases e2 : toPs ds with
      | none =>
        rw [e, e2] at h
        cases h
      | some ps' =>
        rw [e, e2] at h
        cases h
        cases vs with
        | nil => exact absurd r.1 (by simp)
        | cons v vs =>
          obtain ⟨r1, r2⟩ := r.uncons
          exact .cons (dp_of l d p v e r1) (dps_of l ds ps' vs e2 r2)
end
theorem dp_ofO (l : Le B H) {d : Mi.D} {p : PyData} {v : V} (h : toP d = some p) (r : RepO K mg B H d v) : Dp K H v p := by
  rcases r with r | ⟨a, ds, vs, rfl, rfl, ha, r⟩ | ⟨_, _, _, _, _, _, rfl, _⟩
  · exact dp_of l d p v h r
  · rw [toP] at h
    cases e : toPs ds with
    | none =>
      rw [e] at h
      cases h
    | some ps =>
      rw [e] at h
      cases h
      exact .lst (.inl (.inl ha)) (dps_of l ds ps vs e r)
  · rw [toP] at h
    cases h
end
/-- of two scalars -/
def scD : D → D → Option Bool
  | .non, .non => some true
  | .non, .int _ | .int _, .non | .non, .bl _ | .bl _, .non | .non, .str _ | .str _, .non => some false
  | .int i, .int j => some (decide (i = j))
  | .bl i, .bl j => some (decide (i = j))
  | .str i, .str j => some (decide (i = j))
  | .int _, .str _ | .str _, .int _ | .bl _, .str _ | .str _, .bl _ => some false
  | _, _ => none
def eqP (d e : D) : Option Bool := (toP d).bind fun p => (toP e).bind fun q => if min p.depth q.depth ≤ 64 then some (PyData.eqv p q) else none
mutual
theorem toP_plain : ∀ {d : D} {p : PyData}, toP d = some p → p.plain = true
  | .non, p, h => by rw [toP] at h; cases h; rfl
  | .bl b, p, h => by rw [toP] at h; cases h; rfl
  | .int i, p, h => by rw [toP] at h; cases h; rfl
  | .str x, p, h => by rw [toP] at h; cases h; rfl
  | .tup ds, p, h => by
    rw [toP] at h
    cases e : toPs ds with
    | none => rw [e] at h; cases h
    | some ps =>
      rw [e] at h
      cases h
      rw [PyData.plain]
      exact toPs_plain e
  | .lst ds, p, h => by
    rw [toP] at h
    cases e : toPs ds with
    | none => rw [e] at h; cases h
    | some ps =>
      rw [e] at h
      cases h
      rw [PyData.plain]
      exact toPs_plain e
  | .ins _ _, p, h => by rw [toP] at h; cases h
  | .exc _ _, p, h => by rw [toP] at h; cases h
theorem toPs_plain : ∀ {ds : List D} {ps : List PyData}, toPs ds = some ps → PyData.plainAll ps = true
  | [], ps, h => by rw [toPs] at h; cases h; rfl
  | d :: ds, ps, h => by
    rw [toPs] at h
    cases e : toP d with
    | none => rw [e] at h; cases h
    | some p =>
      cases e2 : toPs ds with
      | none => rw [e, e2] at h; cases h
      | some qs =>
        rw [e, e2] at h
        cases h
        rw [PyData.plainAll, toP_plain e, toPs_plain e2]
        rfl
end
def rEqPl (K : PySem.W.Frag) : R2 := fun x y H Q => ∃ d e, Dp K H x d ∧ Dp K H y e ∧ (d.plain = true ∧ e.plain = true) ∧ min d.depth e.depth ≤ 64 ∧ Q (.bl (PyData.eqv d e)) H
def rNePl (K : PySem.W.Frag) : R2 := fun x y H Q => ∃ d e, Dp K H x d ∧ Dp K H y e ∧ (d.plain = true ∧ e.plain = true) ∧ min d.depth e.depth ≤ 64 ∧ Q (.bl (!PyData.eqv d e)) H
theorem op_eqPl {X : Cx} (hu : X.A.units + 64 < cLine) : OpR X (compareOp .Eq) (rEqPl X.K) := by
  intro pins s σ H x y v u Q I rx ry h
  obtain ⟨d, e, hd, he, ⟨sd, se⟩, sm, q⟩ := h
  obtain ⟨as, r1⟩ := Dp.reads I d x v hd rx
  obtain ⟨bs, r2⟩ := Dp.reads I e y u he ry
  exact SeqAt.eq_plain r1 r2 sd se (by omega) ⟨.bl _, H, I, rfl, q⟩
theorem op_nePl {X : Cx} (hu : X.A.units + 64 < cLine) : OpR X (compareOp .NotEq) (rNePl X.K) := by
  intro pins s σ H x y v u Q I rx ry h
  obtain ⟨d, e, hd, he, ⟨sd, se⟩, sm, q⟩ := h
  obtain ⟨as, r1⟩ := Dp.reads I d x v hd rx
  obtain ⟨bs, r2⟩ := Dp.reads I e y u he ry
  exact SeqAt.ne_plain r1 r2 sd se (by omega) ⟨.bl _, H, I, rfl, q⟩
def eqD (d e : D) : Option Bool := match scD d e with
  | some b => some b
  | none => eqP d e
def wB (b : Bool) : W := .sh (.bl b)
def pEq (d e : D) : Option W := (eqD d e).map wB
def pNe (d e : D) : Option W := (eqD d e).map fun b => wB (!b)
section
variable {K : PySem.W.Frag} {mg : Str → Option Value} {B H : Hp}
theorem sc_of {d e : Mi.D} {b : Bool} {x y : V} (h : scD d e = some b) (rx : RepO K mg B H d x) (ry : RepO K mg B H e y) : scal x y = true ∧ decide (x = y) = b := by
  cases d <;> cases e <;> first
    | (cases h; done)
    | (cases h
       first
         | cases repO_non rx
         | cases repO_bl rx
         | cases repO_int rx
         | cases repO_str rx
       first
         | cases repO_non ry
         | cases repO_bl ry
         | cases repO_int ry
         | cases repO_str ry
       refine ⟨rfl, ?_⟩
       first
         | rfl
         | simp)
theorem eqD_of (l : Le B H) {d e : Mi.D} {b : Bool} {x y : V} {Q : VK} (h : eqD d e = some b) (rx : RepO K mg B H d x) (ry : RepO K mg B H e y) :
    (scal x y = true ∧ decide (x = y) = b) ∨ ∃ p q, Dp K H x p ∧ Dp K H y q ∧ (p.plain = true ∧ q.plain = true) ∧ min p.depth q.depth ≤ 64 ∧ PyData.eqv p q = b := by
  unfold eqD at h
  cases e1 : scD d e with
  | some c =>
    rw [e1] at h
    cases h
    exact .inl (sc_of e1 rx ry)
  | none =>
    rw [e1] at h
    unfold eqP at h
    cases e2 : toP d with
    | none =>
      rw [e2] at h
      cases h
    | some p =>
      cases e3 : toP e with
      | none =>
        rw [e2, e3] at h
        cases h
      | some q =>
        rw [e2, e3] at h
        obtain ⟨s1, rfl⟩ := ite_some h
        exact .inr ⟨p, q, dp_ofO l e2 rx, dp_ofO l e3 ry, ⟨toP_plain e2, toP_plain e3⟩, s1, rfl⟩
def rEqM (K : PySem.W.Frag) : R2 := fun x y H Q => rEq x y H Q ∨ rEqPl K x y H Q
def rNeM (K : PySem.W.Frag) : R2 := fun x y H Q => rNe x y H Q ∨ rNePl K x y H Q
theorem op_eqM {X : Cx} (hu : X.A.units + 64 < cLine) : OpR X (compareOp .Eq) (rEqM X.K) := op_eq.or (op_eqPl hu)
theorem op_neM {X : Cx} (hu : X.A.units + 64 < cLine) : OpR X (compareOp .NotEq) (rNeM X.K) := op_ne.or (op_nePl hu)
theorem op2_eq : Op2 K mg (rEqM K) pEq := by
  intro B H x y d e w Q l rx ry hp q
  unfold pEq at hp
  cases h : eqD d e with
  | none =>
    rw [h] at hp
    cases hp
  | some b =>
    rw [h] at hp
    cases hp
    rcases eqD_of l h rx ry (Q := Q) with ⟨s, rfl⟩ | ⟨p, r, h1, h2, h3, h4, rfl⟩
    · exact .inl ⟨s, new_same l q (.bl _)⟩
    · exact .inr ⟨p, r, h1, h2, h3, h4, new_same l q (.bl _)⟩
theorem op2_ne : Op2 K mg (rNeM K) pNe := by
  intro B H x y d e w Q l rx ry hp q
  unfold pNe at hp
  cases h : eqD d e with
  | none =>
    rw [h] at hp
    cases hp
  | some b =>
    rw [h] at hp
    cases hp
    rcases eqD_of l h rx ry (Q := Q) with ⟨s, rfl⟩ | ⟨p, r, h1, h2, h3, h4, rfl⟩
    · exact .inl ⟨s, new_same l q (.bl _)⟩
    · exact .inr ⟨p, r, h1, h2, h3, h4, new_same l q (.bl _)⟩
end

/-! ### <, <=, >, >= -/
def ltS (i j : Str) : Bool := decide (i.cps.toList < j.cps.toList)
def pCmp (f : Int → Int → Bool) (g : Str → Str → Bool) : D → D → Option W
  | .int i, .int j => some (wB (f i j))
  | .str i, .str j => some (wB (g i j))
  | _, _ => none
def rCmpM (f : Int → Int → Bool) (g : Str → Str → Bool) : R2 := fun x y H Q => (rI0 fun i j => .bl (f i j)) x y H Q ∨ ∃ i j, x = .str i ∧ y = .str j ∧ Q (.bl (g i j)) H
section
variable {K : PySem.W.Frag} {mg : Str → Option Value}
theorem op2_cmp {f : Int → Int → Bool} {g : Str → Str → Bool} : Op2 K mg (rCmpM f g) (pCmp f g) := by
  intro B H x y d e w Q l rx ry hp q
  cases d <;> cases e <;> first | (cases hp; done) | skip
  · cases hp
    cases repO_int rx
    cases repO_int ry
    exact .inl ⟨_, _, rfl, rfl, new_same l q (.bl _)⟩
  · cases hp
    cases repO_str rx
    cases repO_str ry
    exact .inr ⟨_, _, rfl, rfl, new_same l q (.bl _)⟩
abbrev pLt := pCmp (fun i j => decide (i < j)) ltS
abbrev pLe := pCmp (fun i j => decide (i ≤ j)) fun i j => !ltS j i
abbrev pGt := pCmp (fun i j => decide (j < i)) fun i j => ltS j i
abbrev pGe := pCmp (fun i j => decide (j ≤ i)) fun i j => !ltS i j
variable {X : Cx}
theorem op_ltM : OpR X (compareOp .Lt) (rCmpM (fun i j => decide (i < j)) ltS) := op_lt.or op_lt_str
theorem op_leM : OpR X (compareOp .LtE) (rCmpM (fun i j => decide (i ≤ j)) fun i j => !ltS j i) := op_le.or op_le_str
theorem op_gtM : OpR X (compareOp .Gt) (rCmpM (fun i j => decide (j < i)) fun i j => ltS j i) := op_gt.or op_gt_str
theorem op_geM : OpR X (compareOp .GtE) (rCmpM (fun i j => decide (j ≤ i)) fun i j => !ltS i j) := op_ge.or op_ge_str
end
/-! ### is None, is True -/
def isNonD : D → Bool
  | .non => true
  | _ => false
def pIsN (neg : Bool) : D → D → Option W
  | d, .non => some (wB (neg != isNonD d))
  | .bl a, .bl b => some (wB (neg != decide (a = b)))
  | _, _ => none
theorem isNon_of {K : PySem.W.Frag} {mg : Str → Option Value} {B H : Hp} {d : Mi.D} {x : V} (r : RepO K mg B H d x) : decide (x = .non) = isNonD d := by
  rcases r with r | ⟨_, _, _, rfl, rfl, _⟩ | ⟨_, _, _, _, _, _, rfl, rfl, _⟩
  · cases r <;> simp [isNonD]
  · simp [isNonD]
  · simp [isNonD]
def rIsM (neg : Bool) : R2 := fun x y H Q => (y = .non ∧ Q (.bl (neg != decide (x = .non))) H) ∨ ∃ a b, x = .bl a ∧ y = .bl b ∧ Q (.bl (neg != decide (a = b))) H
theorem op_isM {X : Cx} : OpR X (compareOp .Is) (rIsM false) := by
  have h := op_isN.or (op_isBl (X := X))
  intro pins s σ H x y v u Q I rx ry q
  refine h pins s σ H x y v u Q I rx ry (q.imp (fun ⟨e, q⟩ => ⟨e, ?_⟩) fun ⟨a, b, e1, e2, q⟩ => ⟨a, b, e1, e2, ?_⟩)
  · simpa using q
  · simpa using q
theorem op_isntM {X : Cx} : OpR X (compareOp .IsNot) (rIsM true) := by
  have h := op_notN.or (op_notBl (X := X))
  intro pins s σ H x y v u Q I rx ry q
  refine h pins s σ H x y v u Q I rx ry (q.imp (fun ⟨e, q⟩ => ⟨e, ?_⟩) fun ⟨a, b, e1, e2, q⟩ => ⟨a, b, e1, e2, ?_⟩)
  · simpa using q
  · simpa using q
theorem op2_is {K : PySem.W.Frag} {mg : Str → Option Value} {neg : Bool} : Op2 K mg (rIsM neg) (pIsN neg) := by
  intro B H x y d e w Q l rx ry hp q
  cases e with
  | non =>
    cases repO_non ry
    have hp' : w = wB (neg != isNonD d) := by cases d <;> (cases hp; rfl)
    subst hp'
    exact .inl ⟨rfl, by rw [isNon_of rx]; exact new_same l q (.bl _)⟩
  | bl b =>
    cases d with
    | bl a =>
      cases hp
      cases repO_bl rx
      cases repO_bl ry
      exact .inr ⟨_, _, rfl, rfl, new_same l q (.bl _)⟩
    | _ => cases hp
  | _ => cases d <;> cases hp
/-! ### in, not in -/
def flat : D → Option V
  | .non => some .non
  | .bl b => some (.bl b)
  | .int i => some (.int i)
  | .str x => some (.str x)
  | _ => none
def flats : List D → Option (List V)
  | [] => some []
  | d :: ds => (flat d).bind fun v => (flats ds).map fun vs => v :: vs
def inTxt (i j : Str) : Bool := match i.cps.toList with
  | [c] => decide (c ∈ j.cps.toList)
  | _ => !(Builtin.Str.occurrences j i 0 j.length 1).isEmpty
def inFl (d : D) (ds : List D) : Option Bool := (flat d).bind fun v => (flats ds).map fun vs => inV v vs
def inDp (d : D) (ds : List D) : Option Bool := (toP d).bind fun p => (toPs ds).bind fun ps => if p.depth ≤ 63 then some (ps.any fun z => PyData.eqv z p) else none
def inD : D → D → Option Bool
  | .str i, .str j => some (inTxt i j)
  | d, .tup ds => match inFl d ds with
    | some b => some b
    | none => inDp d ds
  | d, .lst ds => match inFl d ds with
    | some b => some b
    | none => inDp d ds
  | _, _ => none
def pIn (neg : Bool) (d e : D) : Option W := (inD d e).map fun b => wB (neg != b)
def rInM (K : PySem.W.Frag) (neg : Bool) : R2 := fun x y H Q => (∃ i j, x = .str i ∧ y = .str j ∧ Q (.bl (neg != inTxt i j)) H) ∨ (∃ p xs, y = .ref p ∧ (SqL K H p xs ∨ SqT K H p xs) ∧ flatV x = true ∧ xs.all flatV = true ∧ Q (.bl (neg != inV x xs)) H) ∨
  ∃ d ds, Dp K H x d ∧ (Dp K H y (.list ds) ∨ Dp K H y (.tuple ds)) ∧ (d.plain = true ∧ PyData.plainAll ds = true) ∧ d.depth ≤ 63 ∧ Q (.bl (neg != ds.any fun z => PyData.eqv z d)) H
def rInPl (K : PySem.W.Frag) (neg : Bool) : R2 := fun x y H Q => ∃ d ds, Dp K H x d ∧ (Dp K H y (.list ds) ∨ Dp K H y (.tuple ds)) ∧ (d.plain = true ∧ PyData.plainAll ds = true) ∧ d.depth ≤ 63 ∧ Q (.bl (neg != ds.any fun z => PyData.eqv z d)) H
theorem op_inPl {X : Cx} (hu : X.A.units + 65 < cLine) : OpR X (compareOp .In) (rInPl X.K false) := by
  intro pins s σ H x y v u Q I rx ry h
  obtain ⟨d, ds, hd, he, ⟨sd, se⟩, sm, q⟩ := h
  obtain ⟨as, r1⟩ := Dp.reads I d x v hd rx
  have q' : Q (.bl (ds.any fun z => PyData.eqv z d)) H := by simpa using q
  rcases he with he | he
  · obtain ⟨bs, r2⟩ := Dp.reads I _ y u he ry
    exact SeqAt.in_list_data r2 r1 se sd (by omega) ⟨.bl _, H, I, rfl, q'⟩
  · obtain ⟨bs, r2⟩ := Dp.reads I _ y u he ry
    exact SeqAt.in_tuple_data r2 r1 se sd (by omega) ⟨.bl _, H, I, rfl, q'⟩
theorem op_notInPl {X : Cx} (hu : X.A.units + 65 < cLine) : OpR X (compareOp .NotIn) (rInPl X.K true) := by
  intro pins s σ H x y v u Q I rx ry h
  obtain ⟨d, ds, hd, he, ⟨sd, se⟩, sm, q⟩ := h
  obtain ⟨as, r1⟩ := Dp.reads I d x v hd rx
  have q' : Q (.bl (!ds.any fun z => PyData.eqv z d)) H := by simpa using q
  rcases he with he | he
  · obtain ⟨bs, r2⟩ := Dp.reads I _ y u he ry
    exact SeqAt.notIn_list_data r2 r1 se sd (by omega) ⟨.bl _, H, I, rfl, q'⟩
  · obtain ⟨bs, r2⟩ := Dp.reads I _ y u he ry
    exact SeqAt.notIn_tuple_data r2 r1 se sd (by omega) ⟨.bl _, H, I, rfl, q'⟩
theorem str_one {i : Str} {c : Nat} (h : i.cps.toList = [c]) : i = ⟨#[c]⟩ := by
  obtain ⟨a⟩ := i
  have : a = #[c] := Array.toList_inj.mp h
  rw [this]
theorem op_inM {X : Cx} (hu : X.A.units + 65 < cLine) : OpR X (compareOp .In) (rInM X.K false) := by
  intro pins s σ H x y v u Q I rx ry h
  rcases h with ⟨i, j, rfl, rfl, q⟩ | ⟨p, xs, e, hs, f1, f2, q⟩ | ⟨d, ds, h1, h2, h3, h4, q⟩
  · unfold inTxt at q
    cases e : i.cps.toList with
    | nil =>
      rw [e] at q
      exact op_in_str pins s σ H _ _ v u Q I rx ry ⟨i, j, rfl, rfl, by simpa using q⟩
    | cons c r =>
      cases r with
      | nil =>
        rw [e] at q
        cases str_one e
        exact op_in_sign pins s σ H _ _ v u Q I rx ry ⟨c, j, rfl, rfl, by simpa using q⟩
      | cons c2 r =>
        rw [e] at q
        exact op_in_str pins s σ H _ _ v u Q I rx ry ⟨i, j, rfl, rfl, by simpa using q⟩
  · exact op_in_seq pins s σ H _ _ v u Q I rx ry ⟨p, xs, e, hs, f1, f2, by simpa using q⟩
  · exact op_inPl hu pins s σ H _ _ v u Q I rx ry ⟨d, ds, h1, h2, h3, h4, q⟩
theorem op_notInM {X : Cx} (hu : X.A.units + 65 < cLine) : OpR X (compareOp .NotIn) (rInM X.K true) := by
  intro pins s σ H x y v u Q I rx ry h
  rcases h with ⟨i, j, rfl, rfl, q⟩ | ⟨p, xs, e, hs, f1, f2, q⟩ | ⟨d, ds, h1, h2, h3, h4, q⟩
  · unfold inTxt at q
    cases e : i.cps.toList with
    | nil =>
      rw [e] at q
      exact op_notIn_str pins s σ H _ _ v u Q I rx ry ⟨i, j, rfl, rfl, by simpa using q⟩
    | cons c r =>
      cases r with
      | nil =>
        rw [e] at q
        cases str_one e
        exact op_notIn_sign pins s σ H _ _ v u Q I rx ry ⟨c, j, rfl, rfl, by simpa using q⟩
      | cons c2 r =>
        rw [e] at q
        exact op_notIn_str pins s σ H _ _ v u Q I rx ry ⟨i, j, rfl, rfl, by simpa using q⟩
  · exact op_notIn_seq pins s σ H _ _ v u Q I rx ry ⟨p, xs, e, hs, f1, f2, by simpa using q⟩
  · exact op_notInPl hu pins s σ H _ _ v u Q I rx ry ⟨d, ds, h1, h2, h3, h4, q⟩
section
variable {K : PySem.W.Frag} {mg : Str → Option Value} {B H : Hp}
theorem flat_of {d : Mi.D} {v x : V} (h : flat d = some v) (r : RepO K mg B H d x) : x = v ∧ flatV v = true := by
  cases d <;> first
    | (cases h; done)
    | (cases h
       first
         | cases repO_non r
         | cases repO_bl r
         | cases repO_int r
         | cases repO_str r
       exact ⟨rfl, rfl⟩)
theorem flats_of : ∀ {ds : List Mi.D} {vs us : List V}, flats ds = some vs → Reps K mg B ds us → us = vs ∧ vs.all flatV = true
  | [], vs, us, h, r => by
    cases h
    cases us with
    | nil => exact ⟨rfl, rfl⟩
    | cons _ _ => exact absurd r.1 (by simp)
  | d :: ds, vs, us, h, r => by
    rw [flats] at h
    cases e : flat d with
    | none =>
      rw [e] at h
      cases h
    | some v =>
      cases e2 : flats ds with
      | none =>
        rw [e, e2] at h
        cases h
      | some vs' =>
        rw [e, e2] at h
        cases h
        cases us with
        | nil => exact absurd r.1 (by simp)
        | cons u us =>
          obtain ⟨r1, r2⟩ := r.uncons
          obtain ⟨rfl, f1⟩ := flat_of (H := B) e (.inl r1)
          obtain ⟨rfl, f2⟩ := flats_of e2 r2
          exact ⟨rfl, by rw [List.all_cons, f1, f2]; rfl⟩
theorem inFl_of (l : Le B H) {neg : Bool} {d : Mi.D} {ds : List Mi.D} {b : Bool} {x : V} {a : Addr} {us : List V} {Q : VK} (h : inFl d ds = some b) (rx : RepO K mg B H d x) (hs : SqL K H a us ∨ SqT K H a us) (r : Reps K mg B ds us) (q : Q (.bl (neg != b)) H) :
    rInM K neg x (.ref a) H Q := by
  unfold inFl at h
  cases e : flat d with
  | none =>
    rw [e] at h
    cases h
  | some v =>
    cases e2 : flats ds with
    | none =>
      rw [e, e2] at h
      cases h
    | some vs =>
      rw [e, e2] at h
      cases h
      obtain ⟨rfl, f1⟩ := flat_of e rx
      obtain ⟨rfl, f2⟩ := flats_of e2 r
      exact .inr (.inl ⟨a, us, rfl, hs, f1, f2, q⟩)
theorem op2_in {neg : Bool} : Op2 K mg (rInM K neg) (pIn neg) := by
  intro B H x y d e w Q l rx ry hp q
  unfold pIn at hp
  cases h : inD d e with
  | none =>
    rw [h] at hp
    cases hp
  | some b =>
    rw [h] at hp
    cases hp
    have q' : Q (.bl (neg != b)) H := new_same l q (.bl _)
    cases e with
    | str j =>
      cases d with
      | str i =>
        cases h
        cases repO_str rx
        cases repO_str ry
        exact .inl ⟨i, j, rfl, rfl, q'⟩
      | _ => cases h
    | tup ds =>
      have h' : (match inFl d ds with | some b => some b | none => inDp d ds) = some b := by cases d <;> exact h
      obtain ⟨a, vs, rfl, hs, r⟩ := seq_tup ry l
      cases e1 : inFl d ds with
      | some c =>
        rw [e1] at h'
        cases h'
        exact inFl_of l e1 rx (.inr hs) r q'
      | none =>
        rw [e1] at h'
        have h2 : inDp d ds = some b := h'
        unfold inDp at h2
        cases e2 : toP d with
        | none =>
          rw [e2] at h2
          cases h2
        | some p =>
          cases e3 : toPs ds with
          | none =>
            rw [e2, e3] at h2
            cases h2
          | some ps =>
            rw [e2, e3] at h2
            obtain ⟨s1, rfl⟩ := ite_some h2
            exact .inr (.inr ⟨p, ps, dp_ofO l e2 rx, .inr (.tup hs (dps_of l ds ps vs e3 r)), ⟨toP_plain e2, toPs_plain e3⟩, s1, q'⟩)
    | lst ds =>
      have h' : (match inFl d ds with | some b => some b | none => inDp d ds) = some b := by cases d <;> exact h
      obtain ⟨a, vs, rfl, hs, r⟩ := seq_list ry l
      cases e1 : inFl d ds with
      | some c =>
        rw [e1] at h'
        cases h'
        exact inFl_of l e1 rx (.inl hs) r q'
      | none =>
        rw [e1] at h'
        have h2 : inDp d ds = some b := h'
        unfold inDp at h2
        cases e2 : toP d with
        | none =>
          rw [e2] at h2
          cases h2
        | some p =>
          cases e3 : toPs ds with
          | none =>
            rw [e2, e3] at h2
            cases h2
          | some ps =>
            rw [e2, e3] at h2
            obtain ⟨s1, rfl⟩ := ite_some h2
            exact .inr (.inr ⟨p, ps, dp_ofO l e2 rx, .inl (.lst hs (dps_of l ds ps vs e3 r)), ⟨toP_plain e2, toPs_plain e3⟩, s1, q'⟩)
    | _ => cases d <;> cases h
end
end Mi
set_option maxRecDepth 100000
/-! Mi10: indexes, slices, isinstance, built-in functions, text methods. -/
namespace Mi
open PySem PySem.Spec PyProof.Rows L2

/-! ### e[i] -/
def pIx : D → D → Option W
  | .lst ds, .int i => (atI ds i).map .sh
  | .tup ds, .int i => (atI ds i).map .sh
  | .str z, .int i => if z.length ≤ sizeLine then (atI z.cps.toList i).map fun c => .sh (.str ⟨#[c]⟩) else none
  | _, _ => none
section
variable {K : PySem.W.Frag} {mg : Str → Option Value} {B H : Hp}
theorem atI_rep {ds : List Mi.D} {vs : List V} {i : Int} {d : Mi.D} (r : Reps K mg B ds vs) (h : atI ds i = some d) : ∃ v, atI vs i = some v ∧ Rep K mg B d v := by
  unfold atI at h ⊢
  rw [← r.1]
  cases e : ixN ds.length i with
  | none =>
    rw [e] at h
    cases h
  | some j =>
    rw [e] at h
    exact r.get h
theorem op2_ix : Op2 K mg (rIx K) pIx := by
  intro B H x y d e w Q l rx ry hp q
  cases d <;> cases e <;> first | (cases hp; done) | skip
  · rename_i z i
    obtain ⟨hz, hp⟩ : z.length ≤ sizeLine ∧ ((atI z.cps.toList i).map fun c => W.sh (.str ⟨#[c]⟩)) = some w := by
      rw [pIx] at hp
      by_cases hz : z.length ≤ sizeLine
      · rw [if_pos hz] at hp
        exact ⟨hz, hp⟩
      · rw [if_neg hz] at hp
        cases hp
    cases e1 : atI z.cps.toList i with
    | none =>
      rw [e1] at hp
      cases hp
    | some c =>
      rw [e1] at hp
      cases hp
      cases repO_str rx
      cases repO_int ry
      exact .inr (.inr ⟨z, i, c, rfl, rfl, hz, e1, new_same l q (.str _)⟩)
  · rename_i ds i
    rw [pIx] at hp
    cases e1 : atI ds i with
    | none =>
      rw [e1] at hp
      cases hp
    | some d =>
      rw [e1] at hp
      cases hp
      cases repO_int ry
      obtain ⟨a, vs, rfl, hs, r⟩ := seq_tup rx l
      obtain ⟨v, ev, rv⟩ := atI_rep r e1
      exact .inr (.inl ⟨a, vs, i, v, rfl, rfl, hs, ev, new_same l q rv⟩)
  · rename_i ds i
    rw [pIx] at hp
    cases e1 : atI ds i with
    | none =>
      rw [e1] at hp
      cases hp
    | some d =>
      rw [e1] at hp
      cases hp
      cases repO_int ry
      obtain ⟨a, vs, rfl, hs, r⟩ := seq_list rx l
      obtain ⟨v, ev, rv⟩ := atI_rep r e1
      exact .inl ⟨a, vs, i, v, rfl, rfl, hs, ev, new_same l q rv⟩
end
/-! ### e[lo:hi], e[::-1] -/
def cutD {α : Type} (xs : List α) (lo hi : Option Int) : List α := (xs.drop (HT.sIx xs.length 0 lo)).take (HT.sIx xs.length xs.length hi - HT.sIx xs.length 0 lo)
def oI' : D → Option (Option Int)
  | .int i => some (some i)
  | .non => some none
  | _ => none
def pSl : D → D → D → Option W
  | .lst ds, lo, hi => (oI' lo).bind fun a => (oI' hi).map fun b => .ol (cutD ds a b)
  | .tup ds, lo, hi => (oI' lo).bind fun a => (oI' hi).map fun b => .sh (.tup (cutD ds a b))
  | .str z, lo, hi => (oI' lo).bind fun a => (oI' hi).bind fun b => if z.length ≤ sizeLine then some (.sh (.str (Txt.slice z a b))) else none
  | _, _, _ => none
def rSlM (K : PySem.W.Frag) : V → Option Int → Option Int → Hp → VK → Prop := fun x lo hi H Q => rSlL K x lo hi H Q ∨ rSlA K x lo hi H Q ∨ C8.rSlX x lo hi H Q
theorem sl_M {X : Cx} : SlR X (rSlM X.K) := sl_list.or (sl_tupA.or C8.sl_txt)
theorem oI_oI (o : Option Int) : oI' (oI o) = some o := by cases o <;> rfl
section
variable {K : PySem.W.Frag} {mg : Str → Option Value} {B H : Hp}
theorem Reps.cut {ds : List Mi.D} {vs : List V} (r : Reps K mg B ds vs) (lo hi : Option Int) : Reps K mg B (cutD ds lo hi) (cutV vs lo hi) := by
  unfold cutD cutV
  rw [r.1]
  exact (r.drop _).take _
theorem cutD_all {α : Type} {xs : List α} {lo hi : Option Int} (h : HT.sIx xs.length 0 lo = 0 ∧ HT.sIx xs.length xs.length hi = xs.length) : cutD xs lo hi = xs := by
  unfold cutD
  rw [h.1, h.2]
  simp
theorem ops_sl : OpS K mg (rSlM K) pSl := by
  intro B H x d lo hi w Q l rx hp q
  cases d <;> first | (cases hp; done) | skip
  · rename_i z
    rw [pSl, oI_oI, oI_oI] at hp
    simp only [Option.bind] at hp
    obtain ⟨hz, rfl⟩ := ite_some hp
    cases repO_str rx
    exact .inr (.inr ⟨z, rfl, hz, new_same l q (.str _)⟩)
  · rename_i ds
    rw [pSl, oI_oI, oI_oI] at hp
    cases hp
    have r1 := repO_tup rx
    obtain ⟨a, vs, rfl, hs, r⟩ := seq_tup rx l
    refine .inr (.inl ⟨a, vs, rfl, hs, fun hw => ?_, fun _ p hn => q _ _ _ _ (new_tup l hn (r.cut lo hi))⟩)
    rw [← r.1] at hw
    simp only [cutD_all hw] at q
    exact new_same l q r1
  · rename_i ds
    rw [pSl, oI_oI, oI_oI] at hp
    cases hp
    obtain ⟨a, vs, rfl, hs, r⟩ := seq_list rx l
    exact .inl ⟨a, vs, rfl, hs, fun p hn => q _ _ _ _ (new_ol l hn (r.cut lo hi))⟩
end
/-! t[::-1] -/
theorem slice_back {prog : Program} {w : World} {A : Around} {E : Value → Shared → Prop} {s : Shared} {sl : Addr} {vl vu vs : Value} {n : Nat} {Q : Int × Int × Nat → Shared → Prop}
    (hs : s.heap.IsSliceOf sl vl vu vs) (pl : IsPart vl none) (pu : IsPart vu none) (ps : IsPart vs (some (-1))) (h : Q ((n : Int) - 1, -1, n) s) :
    wpAny (model prog w) A (Builtin.Slice.sliceApplied (.ref sl) (pure (n : Int))) Q E s := by
  obtain ⟨os, ho1, ho2, ho3⟩ := id hs
  unfold Builtin.Slice.sliceApplied
  unfold Builtin.Slice.sliceFields
  refine wpAny_bind (wpAny_bind (wpAny_field ho1 ho3 (x := vl) rfl (wpAny_bind (wpAny_field ho1 ho3 (x := vu) rfl (wpAny_bind (wpAny_field ho1 ho3 (x := vs) rfl (wpAny_pure ?_)))))))
  refine wpAny_bind (HT.slicePart_ ps ?_)
  show wpAny _ _ (if ((-1 : Int) == 0) = true then _ else _) _ _ s
  rw [if_neg (by decide)]
  refine wpAny_bind (HT.slicePart_ pl (wpAny_bind (HT.slicePart_ pu (wpAny_bind (wpAny_pure ?_)))))
  have e1 : Builtin.Slice.sliceAdjust none none (-1) (n : Int) = ((n : Int) - 1, -1) := rfl
  have e2 : Builtin.Slice.slicePlaces ((n : Int) - 1) (-1) (-1) = n := by
    unfold Builtin.Slice.slicePlaces
    rw [if_neg (by omega)]
    split
    · have : ((n : Int) - 1 - -1 - 1) / (- -1) = (n : Int) - 1 := by
        rw [show (- -1 : Int) = 1 from rfl, Int.ediv_one]
        omega
      rw [this]
      omega
    · omega
  show wpAny _ _ (match Builtin.Slice.sliceAdjust none none (-1) (n : Int) with | (lo, hi) => pure (lo, (-1 : Int), Builtin.Slice.slicePlaces lo hi (-1))) _ _ s
  rw [e1]
  show wpAny _ _ (pure ((n : Int) - 1, (-1 : Int), Builtin.Slice.slicePlaces ((n : Int) - 1) (-1) (-1))) _ _ s
  rw [e2]
  exact wpAny_pure h
theorem fm_some {α β : Type} {f : α → Option β} {g : α → β} : ∀ (l : List α), (∀ m ∈ l, f m = some (g m)) → l.filterMap f = l.map g
  | [], _ => rfl
  | m :: l, h => by
    rw [List.filterMap_cons, h m List.mem_cons_self, fm_some l fun x hx => h x (List.mem_cons_of_mem _ hx)]
    rfl
theorem pick_back (xs : Array Value) : ((List.range xs.size).filterMap fun (m : Nat) => xs[((xs.size : Int) - 1 + (m : Int) * (-1)).toNat]?).toArray = xs.toList.reverse.toArray := by
  congr 1
  refine List.ext_getElem? fun i => ?_
  have e : (List.range xs.size).filterMap (fun (m : Nat) => xs[((xs.size : Int) - 1 + (m : Int) * (-1)).toNat]?) = (List.range xs.size).map fun m => xs[xs.size - 1 - m]! := by
    refine fm_some _ fun m hm => ?_
    have hm := List.mem_range.mp hm
    have : ((xs.size : Int) - 1 + (m : Int) * (-1)).toNat = xs.size - 1 - m := by omega
    rw [this, Array.getElem?_eq_getElem (by omega), getElem!_pos xs _ (by omega)]
  rw [e, List.getElem?_map]
  by_cases hi : i < xs.size
  · rw [List.getElem?_range hi, List.getElem?_reverse (by simpa using hi)]
    simp only [Option.map_some, Array.length_toList]
    rw [getElem!_pos xs _ (by omega)]
    simp
  · rw [List.getElem?_eq_none (by simp; omega), List.getElem?_eq_none (by simp; omega)]
    rfl
theorem item_back {prog : Program} {w : World} {A : Around} {E : Value → Shared → Prop} {s : Shared} {t sl : Addr} {items : Array Value} {vl vu vs : Value} {Q : Value → Shared → Prop} (ht : IsTup s.heap t items)
    (hs : s.heap.IsSliceOf sl vl vu vs) (pl : IsPart vl none) (pu : IsPart vu none) (ps : IsPart vs (some (-1)))
    (h : Q (.ref s.heap.objs.size) { s with heap := s.heap.push { cls := .type "tuple", data := .seq items.toList.reverse.toArray } }) (hz : items.size ≤ sizeLine) :
    wpAny (model prog w) A (getItem (.ref t) (.ref sl)) Q E s := by
  have hok : sizeOk (.seq items.toList.reverse.toArray) := by
    show items.toList.reverse.toArray.size ≤ sizeLine
    simpa using hz
  obtain ⟨os, ho1, ho2, ho3⟩ := id hs
  have hT : s.TypeIs (.ref sl) "slice" := ⟨os, ho1, ho2⟩
  unfold getItem
  try with_reducible refine wpAny_holding ?_
  first | refine wpAny_bind (wpAny_pure ?_) | skip
  refine wpAny_bind (wpAny_sequenceKey (ht.typeIs) (by decide) ?_)
  refine wpAny_bind (wpAny_callSpecial?_slot (name := Str.ofString "__getitem__") (ht.typeIs) PyProof.Rows.slot_tuple_getitem
    (wpAny_call_entry PyProof.Rows.slot_tuple_getitem (ht.typeIs) entry_tuple_getitem ?_ (args_tuple_getitem ..)))
  show wpAny _ _ (Builtin.Tuple.tupleItemsOf (.ref t) >>= _) _ _ s
  refine wpAny_bind ((PyProof.Rows.tupleItemsOf_ ht ?_))
  refine wpAny_bind (wpAny_typeOf hT ?_)
  rw [if_pos (by decide)]
  refine wpAny_bind (slice_back hs pl pu ps ?_)
  have hno : ¬ (((items.size : Int) - 1 == 0 && (-1 : Int) == 1 && items.size == items.size) = true) := by simp
  show wpAny _ _ (if ((items.size : Int) - 1 == 0 && (-1 : Int) == 1 && items.size == items.size) = true then _ else _) _ _ s
  rw [if_neg hno, pick_back]
  first
    | exact wpAny_bind (m := Builtin.Tuple.tupleExact _) (wpAny_newObj_type (wpAny_pure ⟨_, rfl, wpAny_pure h⟩) hok)
    | exact wpAny_bind (m := Builtin.Tuple.tupleExact _) (wpAny_newObj_type (wpAny_bind (wpAny_pure (wpAny_pure ⟨_, rfl, wpAny_pure h⟩))) hok)
    | exact wpAny_bind (wpAny_bind (m := Builtin.Tuple.tupleExact _) (wpAny_newObj_type (wpAny_pure (wpAny_pure ⟨_, rfl, wpAny_pure h⟩)) hok))
    | exact wpAny_bind (wpAny_bind (m := Builtin.Tuple.tupleExact _) (wpAny_newObj_type (wpAny_pure ⟨_, rfl, wpAny_pure h⟩) hok))
def tRevM (K : PySem.W.Frag) (te : TE) : TE := fun σ H Q => te σ H fun x H1 => (∃ a xs, x = .ref a ∧ SqL K H1 a xs ∧ ∀ p, H1 p = none → Q (.ref p) (upd H1 p (.lst xs.reverse))) ∨ (∃ a xs, x = .ref a ∧ SqT K H1 a xs ∧ ∀ p, H1 p = none → Q (.ref p) (upd H1 p (.tup xs.reverse)))
theorem pe_revM {X : Cx} {e : Expr} {te : TE} {k : Nat} {p1 p2 p3 pos : Pos} (he : PE X e te) : PE X (.Subscript e (.Slice none none (some (.UnaryOp .USub (.Constant (.int 1) k p1) p2)) p3) pos) (tRevM X.K te) := by
  refine ⟨fun pins s σ H Q I h => Subscript_ (thn (he.run pins s σ H _ I h) fun v s1 ⟨x, H1, I1, r1, q1⟩ => ?_)⟩
  have hst : PO X (some (.UnaryOp .USub (.Constant (.int 1) k p1) p2)) (tPart (tUn (rU fun i => .int (-i)) (tC (.int 1)))) := po_some ((pe_un un_neg pe_int))
  refine wpAny_Slice (thn (po_none.run pins s1 σ H1 (fun o H2 => o = none ∧ H2 = H1) I1 (And.intro rfl rfl)) fun vl s2 ⟨l, H2, I2, pl, el, e2⟩ => ?_)
  cases el
  cases e2
  refine thn (po_none.run pins s2 σ H1 (fun o H3 => o = none ∧ H3 = H1) I2 (And.intro rfl rfl)) fun vu s3 ⟨u, H3, I3, pu, eu, e3⟩ => ?_
  cases eu
  cases e3
  refine thn (hst.run pins s3 σ H1 (fun o H4 => o = some (-1) ∧ H4 = H1) I3 ⟨1, rfl, -1, rfl, And.intro rfl rfl⟩) fun vs s4 ⟨o, H4, I4, ps, eo, e4⟩ => ?_
  cases eo
  cases e4
  have I5 : Inv X pins σ H1 { s4 with heap := s4.heap.push { cls := .type "slice", data := .fields #[vl, vu, vs] } } := I4.kept (t' := s4.toks) (fun b ob q => Heap.get?_push_of_some _ q)
  rcases q1 with ⟨a, xs, rfl, hx, q⟩ | ⟨a, xs, rfl, hx, q⟩
  · cases r1
    obtain ⟨its, r, ht, hz⟩ := (I5.list hx)
    have hlen := r.length
    show wpAny (model X.prog X.w) X.A (subscriptTail e (.Slice none none (some (.UnaryOp .USub (.Constant (.int 1) k p1) p2)) p3) (.ref a) (.ref s4.heap.objs.size)) (EP X pins σ Q) X.xe _
    refine tail_any (ops := [.ref a, .ref s4.heap.objs.size]) (ht.isList.typeIs) (PySem.slot_list_getitem.lookup) ?_ (by with_unfolding_all rfl)
    refine wpAny_getItem_list_slice (ht.isList) (Heap.IsSliceOf.new _ vl vu vs) pl pu ps (by decide) ?_ (by rw [List.size_toArray]; omega)
    rw [PySem.W.krv_pick]
    refine ⟨.ref _, _, I5.laid (t' := s4.toks) (o := .lst xs.reverse) (fun b ob q => Heap.get?_push_of_some _ q) (Nat.le_refl _) ?_, rfl, q _ (I5.hok.fresh (Nat.le_refl _))⟩
    exact ⟨(by rw [List.length_reverse]; exact hz), _, 0, r.reverse, Heap.get?_push_size _ rfl⟩
  · cases r1
    obtain ⟨its, r, ht, hz⟩ := (I5.tuple hx)
    have hlen := r.length
    show wpAny (model X.prog X.w) X.A (subscriptTail e (.Slice none none (some (.UnaryOp .USub (.Constant (.int 1) k p1) p2)) p3) (.ref a) (.ref s4.heap.objs.size)) (EP X pins σ Q) X.xe _
    refine tail_any (ops := [.ref a, .ref s4.heap.objs.size]) (ht.typeIs) (PyProof.Rows.slot_tuple_getitem.lookup) ?_ (by with_unfolding_all rfl)
    refine item_back ht (Heap.IsSliceOf.new _ vl vu vs) pl pu ps ?_ (by rw [List.size_toArray]; omega)
    refine ⟨.ref _, _, I5.laid (t' := s4.toks) (o := .tup xs.reverse) (fun b ob q => Heap.get?_push_of_some _ q) (Nat.le_refl _) ?_, rfl, q _ (I5.hok.fresh (Nat.le_refl _))⟩
    exact ⟨(by rw [List.length_reverse]; exact hz), _, r.reverse, IsTup.new _ _⟩
def pRev : D → Option W
  | .lst ds => some (.ol ds.reverse)
  | .tup ds => some (.sh (.tup ds.reverse))
  | _ => none
theorem se_rev {X : Cx} {Wd : WX} {e : Expr} {m : EM} {k : Nat} {p1 p2 p3 pos : Pos} (he : SE X Wd e m) : SE X Wd (.Subscript e (.Slice none none (some (.UnaryOp .USub (.Constant (.int 1) k p1) p2)) p3) pos) (eP1 pRev m) :=
  PE.less (pe_revM he) fun σ H Q h => (prim1_step h).mono fun x H1 ⟨B, d, w, l, r, hp, q⟩ => by
    cases d with
    | lst ds =>
      cases hp
      obtain ⟨a, vs, rfl, hs, rr⟩ := seq_list r l
      exact .inl ⟨a, vs, rfl, hs, fun p hn => q _ _ _ _ (new_ol l hn rr.reverse)⟩
    | tup ds =>
      cases hp
      obtain ⟨a, vs, rfl, hs, rr⟩ := seq_tup r l
      exact .inr ⟨a, vs, rfl, hs, fun p hn => q _ _ _ _ (new_tup l hn rr.reverse)⟩
    | _ => cases hp

/-! ### isinstance -/
def isT (T : String) : D → Option Bool
  | .bl _ => some (T == "bool" || T == "int")
  | .int _ => some (T == "int")
  | .str _ => some (T == "str")
  | .tup _ => some (T == "tuple")
  | .lst _ => some (T == "list")
  | .non => some false
  | .ins _ _ => none
  | .exc _ _ => none
structure TOk (T : String) : Prop where
  bl : kitB "bool" T = some (T == "bool" || T == "int")
  int : kitB "int" T = some (T == "int")
  str : kitB "str" T = some (T == "str")
  tup : kitB "tuple" T = some (T == "tuple")
  lst : kitB "list" T = some (T == "list")
  non : kitB "NoneType" T = some false
theorem tok_int : TOk "int" := ⟨by decide +kernel, by decide +kernel, by decide +kernel, by decide +kernel, by decide +kernel, by decide +kernel⟩
theorem tok_bool : TOk "bool" := ⟨by decide +kernel, by decide +kernel, by decide +kernel, by decide +kernel, by decide +kernel, by decide +kernel⟩
theorem tok_str : TOk "str" := ⟨by decide +kernel, by decide +kernel, by decide +kernel, by decide +kernel, by decide +kernel, by decide +kernel⟩
theorem tok_tuple : TOk "tuple" := ⟨by decide +kernel, by decide +kernel, by decide +kernel, by decide +kernel, by decide +kernel, by decide +kernel⟩
theorem tok_list : TOk "list" := ⟨by decide +kernel, by decide +kernel, by decide +kernel, by decide +kernel, by decide +kernel, by decide +kernel⟩
theorem tok_dict : TOk "dict" := ⟨by decide +kernel, by decide +kernel, by decide +kernel, by decide +kernel, by decide +kernel, by decide +kernel⟩
def pIsi (T : String) (d : D) : Option W := (isT T d).map wB
section
variable {K : PySem.W.Frag} {mg : Str → Option Value} {B H : Hp}
theorem tyx_of (l : Le B H) {d : Mi.D} {x : V} {T : String} {b : Bool} (t : TOk T) (h : isT T d = some b) (r : RepO K mg B H d x) : ∃ n, TyX K H x (.type n) ∧ kitB n T = some b := by
  cases d with
  | non =>
    cases h
    cases repO_non r
    exact ⟨_, .base .non, t.non⟩
  | bl c =>
    cases h
    cases repO_bl r
    exact ⟨_, .base (.bl _), t.bl⟩
  | int i =>
    cases h
    cases repO_int r
    exact ⟨_, .base (.int _), t.int⟩
  | str z =>
    cases h
    cases repO_str r
    exact ⟨_, .base (.str _), t.str⟩
  | tup ds =>
    cases h
    obtain ⟨a, vs, rfl, hs, _⟩ := seq_tup r l
    rcases hs with (hs | ⟨o, hs⟩) | ⟨o, its, n, e, c, _⟩
    · exact ⟨_, .base (.tup hs), t.tup⟩
    · exact ⟨_, .fTuple hs, t.tup⟩
    · exact ⟨_, .kTuple e c, t.tup⟩
  | lst ds =>
    cases h
    obtain ⟨a, vs, rfl, hs, _⟩ := rd_list r l
    rcases hs with (hs | ⟨o, hs⟩) | ⟨its, n, hk, _⟩
    · exact ⟨_, .base (.lst hs), t.lst⟩
    · exact ⟨_, .base (.frz hs), t.lst⟩
    · exact ⟨_, .kList hk rfl, t.lst⟩
  | ins c ds => cases h
  | exc c ds => cases h
end
theorem se_isi {X : Cx} {Wd : WX} {e : Expr} {m : EM} {T : Str} {p p2 pos : Pos} (T' : String) (t : TOk T') (hg : Gl X "isinstance") (hm : X.mg "isinstance" = none) (hg2 : Gl X T) (hm2 : X.mg T = none) (hv2 : bootBuiltins T = some (.type T')) (he : SE X Wd e m)
    (hn2 : T ≠ "__name__" := by decide) (hd2 : (T == ("__debug__" : Str)) = false := by decide)
    (hs : starEach [e, .Name T p2] X.env = (false, eval e X.env) :: starEach [.Name T p2] X.env := by rfl) (hs2 : starEach [.Name T p2] X.env = (false, eval (.Name T p2) X.env) :: starEach [] X.env := by rfl)
    (hpl : (backTo pos (starEach [.Name T p2] X.env)).any (·.1) = false := by rfl) : SE X Wd (.Call (.Name "isinstance" p) [e, .Name T p2] [] pos) (eP1 (pIsi T') m) :=
  PE.less (pe_callB call_isi hg hm (by kernel_rfl) (pa_cons he (pa_cons (pe_bltn (v := .ty T') hg2 hm2 hv2 rfl hn2 hd2) pa_nil hs2) hs) (by decide) (by decide) hs hpl) fun σ H Q h => (prim1_step h).mono fun x H1 ⟨B, d, w, l, r, hp, q⟩ => by
    unfold pIsi at hp
    cases e1 : isT T' d with
    | none =>
      rw [e1] at hp
      cases hp
    | some b =>
      rw [e1] at hp
      cases hp
      obtain ⟨n, ty, k⟩ := tyx_of l t e1 r
      exact ⟨x, .ty T', _, _, b, rfl, .ty T', ty, kit_ty k, new_same l q (.bl _)⟩
/-! ### len, int, str, bool -/
def pLen : List D → Option W
  | [.lst ds] => some (.sh (.int ds.length))
  | [.tup ds] => some (.sh (.int ds.length))
  | [.str z] => if z.length ≤ sizeLine then some (.sh (.int z.length)) else none
  | _ => none
def rLenM (K : PySem.W.Frag) : List V → Hp → VK → Prop := fun xs H Q => (∃ p ys, xs = [.ref p] ∧ (SqL K H p ys ∨ SqT K H p ys) ∧ Q (.int ys.length) H) ∨ ∃ z, xs = [.str z] ∧ z.length ≤ sizeLine ∧ Q (.int z.length) H
theorem call_lenM {X : Cx} : CallR X (.builtin "len") (rLenM X.K) := call_len_seq.or call_len_str
def pInt : List D → Option W
  | [.int i] => some (.sh (.int i))
  | [.bl b] => some (.sh (.int (if b = true then 1 else 0)))
  | [.str z] => if z.length ≤ 640 then (PySem.intText? z).map fun i => .sh (.int i) else none
  | _ => none
def rIntM : List V → Hp → VK → Prop := fun xs H Q => ((∃ i, xs = [.int i] ∧ Q (.int i) H) ∨ ∃ k, xs = [.bl k] ∧ Q (.int (if k then 1 else 0)) H) ∨ ∃ a n, xs = [.str a] ∧ PySem.intText? a = some n ∧ a.length ≤ 640 ∧ Q (.int n) H
theorem call_intM {X : Cx} : CallR X (.type "int") rIntM := call_int1.or call_int_str
def pStr : List D → Option W
  | [.int i] => if i.natAbs.log2 < 1920 then some (.sh (.str (toString i))) else none
  | [.str z] => some (.sh (.str z))
  | _ => none
def rStrM : List V → Hp → VK → Prop := fun xs H Q => (∃ i : Int, xs = [.int i] ∧ i.natAbs.log2 < 1920 ∧ Q (.str (toString i)) H) ∨ ∃ a, xs = [.str a] ∧ Q (.str a) H
theorem call_strM {X : Cx} : CallR X (.type "str") rStrM := call_str_int.or SkE.call_str_str
def rListM (K : PySem.W.Frag) : List V → Hp → VK → Prop := fun xs H Q => ∃ p ys, xs = [.ref p] ∧ (SqL K H p ys ∨ SqT K H p ys) ∧ ∀ l, H l = none → Q (.ref l) (upd H l (.lst ys))
/-- list(e) -/
def pList : List D → Option W
  | [.lst ds] => some (.ol ds)
  | [.tup ds] => some (.ol ds)
  | _ => none
/-- tuple(e) -/
def pTuple : List D → Option W
  | [.lst ds] => some (.sh (.tup ds))
  | [.tup ds] => some (.sh (.tup ds))
  | _ => none
section
variable {K : PySem.W.Frag} {mg : Str → Option Value} {B H : Hp}
theorem repOs_one {d : Mi.D} {vs : List V} (h : RepOs K mg B H [d] vs) : ∃ v, vs = [v] ∧ RepO K mg B H d v := by
  cases h with
  | cons h t =>
    cases t
    exact ⟨_, rfl, h⟩
theorem repOs_two {d e : Mi.D} {vs : List V} (h : RepOs K mg B H [d, e] vs) : ∃ v u, vs = [v, u] ∧ RepO K mg B H d v ∧ RepO K mg B H e u := by
  cases h with
  | cons h t =>
    obtain ⟨u, rfl, h2⟩ := repOs_one t
    exact ⟨_, _, rfl, h, h2⟩
/-- one argument -/
theorem opN_one {r : List V → Hp → VK → Prop} {p : List Mi.D → Option W} (h0 : p [] = none) (h2 : ∀ d e ds, p (d :: e :: ds) = none)
    (h : ∀ (B H : Hp) (x : V) (d : Mi.D) (w : W) (Q : VK), Le B H → RepO K mg B H d x → p [d] = some w → (∀ v B' H' F, New K mg B H B' H' w v F → Q v H') → r [x] H Q) : OpN K mg r p := by
  intro B H vs ds w Q l rs hp q
  cases ds with
  | nil =>
    rw [h0] at hp
    cases hp
  | cons d ds =>
    cases ds with
    | nil =>
      obtain ⟨v, rfl, r1⟩ := repOs_one rs
      exact h B H v d w Q l r1 hp q
    | cons e ds =>
      rw [h2] at hp
      cases hp
theorem opn_len : OpN K mg (rLenM K) pLen := opN_one rfl (fun d e ds => by cases d <;> rfl) fun B H x d w Q l r hp q => by
  cases d <;> first | (cases hp; done) | skip
  · obtain ⟨hz, rfl⟩ := ite_some (show (if _ then some (W.sh (.int _)) else none) = some w from hp)
    cases repO_str r
    exact .inr ⟨_, rfl, hz, new_same l q (.int _)⟩
  · cases hp
    obtain ⟨a, vs, rfl, hs, rr⟩ := seq_tup r l
    rw [rr.1] at q
    exact .inl ⟨a, vs, rfl, .inr hs, new_same l q (.int _)⟩
  · cases hp
    obtain ⟨a, vs, rfl, hs, rr⟩ := seq_list r l
    rw [rr.1] at q
    exact .inl ⟨a, vs, rfl, .inl hs, new_same l q (.int _)⟩
theorem opn_int : OpN K mg rIntM pInt := opN_one rfl (fun d e ds => by cases d <;> rfl) fun B H x d w Q l r hp q => by
  cases d <;> first | (cases hp; done) | skip
  · cases hp
    cases repO_bl r
    exact .inl (.inr ⟨_, rfl, new_same l q (.int _)⟩)
  · cases hp
    cases repO_int r
    exact .inl (.inl ⟨_, rfl, new_same l q (.int _)⟩)
  · rename_i z
    by_cases hz : z.length ≤ 640
    · rw [pInt, if_pos hz] at hp
      cases e : PySem.intText? z with
      | none =>
        rw [e] at hp
        cases hp
      | some i =>
        rw [e] at hp
        cases hp
        cases repO_str r
        exact .inr ⟨z, i, rfl, e, hz, new_same l q (.int _)⟩
    · rw [pInt, if_neg hz] at hp
      cases hp
theorem opn_str : OpN K mg rStrM pStr := opN_one rfl (fun d e ds => by cases d <;> rfl) fun B H x d w Q l r hp q => by
  cases d <;> first | (cases hp; done) | skip
  · obtain ⟨hz, rfl⟩ := ite_some (show (if _ then some (W.sh (.str _)) else none) = some w from hp)
    cases repO_int r
    exact .inl ⟨_, rfl, hz, new_same l q (.str _)⟩
  · cases hp
    cases repO_str r
    exact .inr ⟨_, rfl, new_same l q (.str _)⟩
theorem opn_list : OpN K mg (rListM K) pList := opN_one rfl (fun d e ds => by cases d <;> rfl) fun B H x d w Q l r hp q => by
  cases d <;> first | (cases hp; done) | skip
  · cases hp
    obtain ⟨a, vs, rfl, hs, rr⟩ := seq_tup r l
    exact ⟨a, vs, rfl, .inr hs, fun p hn => q _ _ _ _ (new_ol l hn rr)⟩
  · cases hp
    obtain ⟨a, vs, rfl, hs, rr⟩ := seq_list r l
    exact ⟨a, vs, rfl, .inl hs, fun p hn => q _ _ _ _ (new_ol l hn rr)⟩
def rTupM (K : PySem.W.Frag) : List V → Hp → VK → Prop := fun xs H Q => ∃ p ys, xs = [.ref p] ∧ ((SqL K H p ys ∧ ∀ l, H l = none → Q (.ref l) (upd H l (.tup ys))) ∨ (SqT K H p ys ∧ Q (.ref p) H))
theorem opn_tuple : OpN K mg (rTupM K) pTuple := opN_one rfl (fun d e ds => by cases d <;> rfl) fun B H x d w Q l r hp q => by
  cases d <;> first | (cases hp; done) | skip
  · cases hp
    have r1 := repO_tup r
    obtain ⟨a, vs, rfl, hs, rr⟩ := seq_tup r l
    exact ⟨a, vs, rfl, .inr ⟨hs, new_same l q r1⟩⟩
  · cases hp
    obtain ⟨a, vs, rfl, hs, rr⟩ := seq_list r l
    exact ⟨a, vs, rfl, .inl ⟨hs, fun p hn => q _ _ _ _ (new_tup l hn rr)⟩⟩
end
/-! ### text methods -/
def pS1 (g : Str → Option W) : List D → Option W
  | [.str a] => g a
  | _ => none
def pS2 (g : Str → Str → Option W) : List D → Option W
  | [.str a, .str b] => g a b
  | _ => none
section
variable {K : PySem.W.Frag} {mg : Str → Option Value} {B H : Hp}
/-- a method of two texts -/
theorem opM_S2 {r : V → List V → Hp → VK → Prop} {g : Str → Str → Option W}
    (h : ∀ (B H : Hp) (a b : Str) (w : W) (Q : VK), Le B H → g a b = some w → (∀ v B' H' F, New K mg B H B' H' w v F → Q v H') → r (.str a) [.str b] H Q) : OpM K mg r (pS2 g) := by
  intro B H x xs ds w Q l rs hp q
  cases rs with
  | @cons d _ ds _ r1 rs =>
    cases rs with
    | nil => cases d <;> cases hp
    | @cons e _ ds _ r2 rs =>
      cases rs with
      | nil =>
        cases d <;> first | (cases hp; done) | skip
        cases e <;> first | (cases hp; done) | skip
        cases repO_str r1
        cases repO_str r2
        exact h B H _ _ w Q l hp q
      | cons r3 rs => cases d <;> first | (cases hp; done) | (cases e <;> cases hp)
theorem opM_S1 {r : V → List V → Hp → VK → Prop} {g : Str → Option W}
    (h : ∀ (B H : Hp) (a : Str) (w : W) (Q : VK), Le B H → g a = some w → (∀ v B' H' F, New K mg B H B' H' w v F → Q v H') → r (.str a) [] H Q) : OpM K mg r (pS1 g) := by
  intro B H x xs ds w Q l rs hp q
  cases rs with
  | @cons d _ ds _ r1 rs =>
    cases rs with
    | nil =>
      cases d <;> first | (cases hp; done) | skip
      cases repO_str r1
      exact h B H _ w Q l hp q
    | cons r2 rs => cases d <;> cases hp
abbrev pStrip := pS2 fun a b => if a.length ≤ sizeLine then some (.sh (.str (Txt.stripChars a b))) else none
abbrev pRstrip := pS2 fun a b => if a.length ≤ sizeLine then some (.sh (.str (Txt.rstripChars a b))) else none
abbrev pSplit := pS2 fun a b => if (b.length == 0) = false ∧ a.length + 2 ≤ sizeLine then some (.ol ((Txt.split a b).map .str)) else none
abbrev pPart := pS2 fun a b => if (b.length == 0) = false ∧ a.length ≤ sizeLine then some (.sh (.tup [.str (Txt.partition a b).1, .str (Txt.partition a b).2.1, .str (Txt.partition a b).2.2])) else none
abbrev pStarts := pS2 fun a b => some (wB (Txt.startswith a b))
abbrev pUpper := pS1 fun a => if a.length ≤ 5592405 then some (.sh (.str (Txt.upper a))) else none
theorem opm_strip : OpM K mg (fun x xs H Q => ∃ a b, x = .str a ∧ xs = [.str b] ∧ a.length ≤ sizeLine ∧ Q (.str (Txt.stripChars a b)) H) pStrip := opM_S2 fun B H a b w Q l hp q => by
  obtain ⟨hz, rfl⟩ := ite_some hp
  exact ⟨a, b, rfl, rfl, hz, new_same l q (.str _)⟩
theorem opm_rstrip : OpM K mg (fun x xs H Q => ∃ a b, x = .str a ∧ xs = [.str b] ∧ a.length ≤ sizeLine ∧ Q (.str (Txt.rstripChars a b)) H) pRstrip := opM_S2 fun B H a b w Q l hp q => by
  obtain ⟨hz, rfl⟩ := ite_some hp
  exact ⟨a, b, rfl, rfl, hz, new_same l q (.str _)⟩
theorem reps_strs (ys : List Str) : Reps K mg B (ys.map Mi.D.str) (ys.map V.str) := ⟨by simp, fun i d v e1 e2 => by
  rw [List.getElem?_map] at e1 e2
  cases e : ys[i]? with
  | none =>
    rw [e] at e1
    cases e1
  | some y =>
    rw [e] at e1 e2
    cases e1
    cases e2
    exact .str y⟩
theorem opm_split : OpM K mg (fun x xs H Q => ∃ a b, x = .str a ∧ xs = [.str b] ∧ (b.length == 0) = false ∧ a.length + 2 ≤ sizeLine ∧ rNewStrs (Txt.split a b) H Q) pSplit := opM_S2 fun B H a b w Q l hp q => by
  obtain ⟨⟨h1, h2⟩, rfl⟩ := ite_some hp
  exact ⟨a, b, rfl, rfl, h1, h2, fun p hn => q _ _ _ _ (new_ol l hn (reps_strs _))⟩
theorem opm_part : OpM K mg (fun x xs H Q => ∃ a b, x = .str a ∧ xs = [.str b] ∧ (b.length == 0) = false ∧ a.length ≤ sizeLine ∧
    ∀ p, H p = none → Q (.ref p) (upd H p (.tup [.str (Txt.partition a b).1, .str (Txt.partition a b).2.1, .str (Txt.partition a b).2.2]))) pPart := opM_S2 fun B H a b w Q l hp q => by
  obtain ⟨⟨h1, h2⟩, rfl⟩ := ite_some hp
  exact ⟨a, b, rfl, rfl, h1, h2, fun p hn => q _ _ _ _ (new_tup l hn (reps_strs [_, _, _]))⟩
theorem opm_starts : OpM K mg (fun x xs H Q => ∃ a b, x = .str a ∧ xs = [.str b] ∧ Q (.bl (Txt.startswith a b)) H) pStarts := opM_S2 fun B H a b w Q l hp q => by
  cases hp
  exact ⟨a, b, rfl, rfl, new_same l q (.bl _)⟩
theorem opm_upper : OpM K mg (fun x xs H Q => ∃ a, x = .str a ∧ xs = [] ∧ a.length ≤ 5592405 ∧ Q (.str (Txt.upper a)) H) pUpper := opM_S1 fun B H a w Q l hp q => by
  obtain ⟨hz, rfl⟩ := ite_some hp
  exact ⟨a, rfl, rfl, hz, new_same l q (.str _)⟩
def txts : List D → Option (List Str)
  | [] => some []
  | .str x :: ds => (txts ds).map fun ys => x :: ys
  | _ :: _ => none
def pJoin2 : D → D → Option W
  | .str a, e => (seqD e).bind fun ds => (txts ds).bind fun ys => if (ys.map (·.length)).sum + ys.length * a.length ≤ 16777216 then some (.sh (.str (Txt.join a ys))) else none
  | _, _ => none
abbrev pJoin := p2 pJoin2
theorem opM_two {K : PySem.W.Frag} {mg : Str → Option Value} {r : V → List V → Hp → VK → Prop} {g : Mi.D → Mi.D → Option W}
    (h : ∀ (B H : Hp) (x y : V) (d e : Mi.D) (w : W) (Q : VK), Le B H → RepO K mg B H d x → RepO K mg B H e y → g d e = some w → (∀ v B' H' F, New K mg B H B' H' w v F → Q v H') → r x [y] H Q) : OpM K mg r (p2 g) := by
  intro B H x xs ds w Q l rs hp q
  cases rs with
  | cons r1 rs =>
    cases rs with
    | nil => cases hp
    | cons r2 rs =>
      cases rs with
      | nil => exact h B H _ _ _ _ w Q l r1 r2 hp q
      | cons r3 rs => cases hp
theorem txts_of : ∀ {ds : List Mi.D} {ys : List Str} {vs : List V}, txts ds = some ys → Reps K mg B ds vs → vs = ys.map V.str
  | [], ys, vs, h, r => by
    cases h
    cases vs with
    | nil => rfl
    | cons _ _ => exact absurd r.1 (by simp)
  | .str x :: ds, ys, vs, h, r => by
    rw [txts] at h
    cases e : txts ds with
    | none =>
      rw [e] at h
      cases h
    | some zs =>
      rw [e] at h
      cases h
      cases vs with
      | nil => exact absurd r.1 (by simp)
      | cons v vs =>
        obtain ⟨r1, r2⟩ := r.uncons
        cases r1
        rw [txts_of e r2]
        rfl
  | .non :: ds, ys, vs, h, r => by cases h
  | .bl _ :: ds, ys, vs, h, r => by cases h
  | .int _ :: ds, ys, vs, h, r => by cases h
  | .tup _ :: ds, ys, vs, h, r => by cases h
  | .lst _ :: ds, ys, vs, h, r => by cases h
  | .ins _ _ :: ds, ys, vs, h, r => by cases h
  | .exc _ _ :: ds, ys, vs, h, r => by cases h
theorem opm_join : OpM K mg (fun x xs H Q => ∃ a p, ∃ ys : List Str, x = .str a ∧ xs = [.ref p] ∧ (SqL K H p (ys.map V.str) ∨ SqT K H p (ys.map V.str)) ∧
    (ys.map (·.length)).sum + ys.length * a.length ≤ 16777216 ∧ Q (.str (Txt.join a ys)) H) pJoin := opM_two fun B H x y d e w Q l r1 r2 hp q => by
  cases d <;> first | (cases hp; done) | skip
  rename_i a
  rw [pJoin2] at hp
  cases e0 : seqD e with
  | none =>
    rw [e0] at hp
    cases hp
  | some ds =>
    rw [e0] at hp
    simp only [Option.bind] at hp
    cases e1 : txts ds with
    | none =>
      rw [e1] at hp
      cases hp
    | some ys =>
      rw [e1] at hp
      obtain ⟨hz, rfl⟩ := ite_some hp
      cases repO_str r1
      rcases seqD_cases e0 with rfl | rfl
      · obtain ⟨p, vs, rfl, hs, rr⟩ := seq_list r2 l
        cases txts_of e1 rr
        exact ⟨a, p, ys, rfl, rfl, .inl hs, hz, new_same l q (.str _)⟩
      · obtain ⟨p, vs, rfl, hs, rr⟩ := seq_tup r2 l
        cases txts_of e1 rr
        exact ⟨a, p, ys, rfl, rfl, .inr hs, hz, new_same l q (.str _)⟩
end
end Mi
set_option maxRecDepth 100000
/-! Mi11: defs that are called while no repr is under way; repr. -/
namespace Mi
open PySem PySem.Spec PyProof.Rows L2

/-- a def's promise where nothing guarded is under way -/
structure FnG (P : Program) (w : World) (K : PySem.W.Frag) (mg : Str → Option Value) (base : Heap) (CX : CXT) (k : Nat) (f : Addr) (fd : FuncData) (ps : List Str) (sp : Sp) : Prop where
  len : ∀ vs H Q E, sp vs H Q E → vs.length = ps.length
  run : ∀ (A : Around) (outer : List Env) (s : Shared) (H : Hp) (args : PySem.Args) (us : List Value) (vs : List V) (Q : VK) (E : XK), A.guards = some [] → Room k A → Env0 P w K mg base A outer s H → BindsTo s fd args (ps.zip us) → Vals vs us → sp vs H Q E →
    codeAny (model P w) A (.call (.ref f) args) (CR CX outer P w H s Q E) s
theorem fnG_ok {P : Program} {w : World} {K : PySem.W.Frag} {mg : Str → Option Value} {base : Heap} {CX : CXT} {k : Nat} {f : Addr} {fd : FuncData} {ps : List Str} {sp : Sp} (F : FnOk P w K mg base CX k f fd ps sp) : FnG P w K mg base CX k f fd ps sp :=
  ⟨F.len, fun A outer s H args us vs Q E _ => F.run A outer s H args us vs Q E⟩
section
variable {P : Program} {w : World} {K : PySem.W.Frag} {mg : Str → Option Value} {base : Heap} {x qual : Str} {params : Arguments} {body : List Stmt} {scope : Scope} {dvs : List V} {kws : List (Str × V)} {f : Addr} {fd : FuncData}
theorem fnG_of {CX : CXT} {N ps : List Str} {k : Nat} {sp : Sp} (F : FunD K x qual params body scope dvs kws f fd) (S : FnScope N ps scope) (len : ∀ vs H Q E, sp vs H Q E → vs.length = ps.length)
    (hbody : ∀ (cdv : Value) (A : Around) (outer : List Env) (s : Shared) (H : Hp) (vs : List V) (Q : VK) (E : XK), A.guards = some [] → Room k (A.deeper (envOfC qual scope s.heap.objs.size f cdv)) → sp vs H Q E →
      ∃ t, PSs (cxOf CX P w K mg base N qual scope f cdv A outer s H E) body t ∧ t { nx := fun _ H' => Q .non H', rt := Q } (L2.start N vs) H) : FnG P w K mg base CX (k + 1) f fd ps sp := by
  obtain ⟨oc, od, dV, kV, doc, pm, an, cdv, ct, osl, rfl, lk, hcd, _, _⟩ := F.ex
  refine ⟨len, fun A outer s H args us vs Q E hG hr e0 hb r hsp => ?_⟩
  have KX : K.In s.heap := e0.mod.kin.keeps fun b o e => (e0.bs b o e).1
  have lim : s.heap.NoLimit := e0.mod.nolimit.keeps fun b o e => (e0.bs b o e).1
  have hkind : ∀ y ∈ ps.zip us, scope.names.lookup y.1 = some .local ∨ (scope.names.lookup y.1 = some .cell ∧ ((cellsFrom (s.heap.objs.size + 1) scope.names []).lookup y.1).isSome = true) := fun ⟨n, v⟩ hy => by
    rcases S.par n (List.of_mem_zip hy).1 with q | q
    · exact .inl q
    · exact .inr ⟨q, PySem.W.cellsFrom_some _ _ _ (.inl q)⟩
  refine codeAny_call_function hr.depth (KX _ _ lk) rfl S.co S.gen rfl (PySem.W.codeRec_of KX hcd) (hb _ _ _ _ (wpAny_newFunctionEnv_cells S.kind hkind fun env he s1 y => ?_))
  subst he
  obtain ⟨t, ht, hq⟩ := hbody cdv A outer s H vs Q E hG (hr.deeper _) hsp
  have I : Inv (cxOf CX P w K mg base N qual scope f cdv A outer s H E) [] (L2.start N vs) H s1 := inv_start S hr.hd e0 (len _ _ _ _ hsp) r y
  refine ⟨lim.keeps y.toInCall.keep, codeAny_func (wpAny_mono (ht.run [] s1 (L2.start N vs) H _ I hq) (fun fl s' hs => ?_) fun e s' hs => hs)⟩
  cases fl with
  | ret u =>
    obtain ⟨v, σ', H', J, rv, q⟩ := hs
    exact ⟨v, H', J.os, J.bare, J.base, J.hok, rv, q⟩
  | next =>
    obtain ⟨σ', H', J, q⟩ := hs
    exact ⟨.non, H', J.os, J.bare, J.base, J.hok, rfl, q⟩
  | brk => exact let ⟨_, _, _, q⟩ := hs; False.elim q
  | cont => exact let ⟨_, _, _, q⟩ := hs; False.elim q
end
section
variable {X : Cx} {CX : CXT} {k : Nat} {f : Addr} {fd : FuncData} {ps : List Str} {sp : Sp} {E : L2.St → XK} {x : Str} {p pos : Pos} {e : Expr} {es : List Expr} {t : TA}
theorem run_fnG {pins : List (Addr × Obj)} {σ : L2.St} {H : Hp} {s : Shared} {Q : VK} {us : List Value} {vs : List V} (F : FnG X.prog X.w X.K X.mg X.base CX k f fd ps sp) (hG : X.A.guards = some []) (hr : Room k X.A) (hb : Binds X.K fd ps []) (hx : PassesAt CX X σ (E σ))
    (I : Inv X pins σ H s) (r : Vals vs us) (h : sp vs H Q (E σ)) : wpAny (model X.prog X.w) X.A (call (.ref f) us) (EP X pins σ Q) X.xe s := by
  have hl : us.length = ps.length := by rw [← r.length]; exact F.len _ _ _ _ h
  have b := hb s us I.kIn (by rw [List.append_nil]; exact hl)
  rw [List.append_nil] at b
  refine wpAny_call (codeAny_mono (F.run X.A X.stack s H ⟨us, []⟩ us vs Q (E σ) hG hr I.env0 b r h) fun r s' hq => ?_)
  cases r with
  | error e => exact hx pins H s e s' I hq
  | ok fl =>
    cases fl with
    | ret u => exact I.after hq
    | _ => exact False.elim hq
theorem pe_callG (F : FnG X.prog X.w X.K X.mg X.base CX k f fd ps sp) (hG : X.A.guards = some []) (hr : Room k X.A) (hg : Gl X x) (hm : X.mg x = some (.ref f)) (hk : PySem.W.keepIn X.K (.ref f) = true) (hb : Binds X.K fd ps []) (hx : ∀ σ, PassesAt CX X σ (E σ))
    (ha : PA X (e :: es) t) (hdb : (x == ("__debug__" : Str)) = false := by decide) (he : starEach (e :: es) X.env = (false, eval e X.env) :: starEach es X.env := by rfl) (hpl : (backTo pos (starEach es X.env)).any (·.1) = false := by rfl) :
    PE X (.Call (.Name x p) (e :: es) [] pos) (tCallS sp E t) :=
  ⟨fun pins s σ H Q I h => wpAny_Call_Name_kw (ld_glob I hg hm (PySem.W.callWith_K (h₀ := X.base) I.ok.mod.kin hk (thn (ha.run pos pins s σ H _ I h) fun us s1 ⟨vs, H1, I1, r, q⟩ => ⟨I1.kIn, run_fnG F hG hr hb (hx σ) I1 r q⟩) he hpl) hdb)⟩
end

/-! ### the mirror's promise where no repr is under way -/
structure FOG (P : Program) (w : World) (K : PySem.W.Frag) (mg : Str → Option Value) (base : Heap) (x : Str) (k n : Nat) (io : List Bool) (m : FM) : Prop where
  ex : ∃ (f : Addr) (fd : FuncData) (ps : List Str), mg x = some (.ref f) ∧ PySem.W.keepIn K (.ref f) = true ∧ Binds K fd ps [] ∧ FnG P w K mg base (L2.CX P w) k f fd ps (spM K mg m n io)
theorem FO.g {P : Program} {w : World} {K : PySem.W.Frag} {mg : Str → Option Value} {base : Heap} {x : Str} {k n : Nat} {io : List Bool} {m : FM} (h : FO P w K mg base x k n io m) : FOG P w K mg base x k n io m :=
  let ⟨f, fd, ps, h1, h2, h3, h4⟩ := h.ex
  ⟨f, fd, ps, h1, h2, h3, fnG_ok h4⟩
theorem fog_of {P : Program} {w : World} {K : PySem.W.Frag} {mg : Str → Option Value} {base : Heap} {x nm qual : Str} {params : Arguments} {bd : List Stmt} {scope : Scope} {f : Addr} {fd : FuncData} {N ps : List Str} {k n l : Nat} {io : List Bool} {body : SM}
    (F : FunD K nm qual params bd scope [] [] f fd) (hm : mg x = some (.ref f)) (S : FnScope N ps scope) (hn : ps.length = n) (hl : n + l = N.length) (hio : io.length ≤ n)
    (hb : ∀ (kV doc pm : Value) (an : Option Addr) (cdv ct : Value) (us : List Value), us.length = ps.length → bindArgs (PySem.W.fnOf nm qual params bd scope .none kV doc pm an cdv ct) ⟨us, []⟩ = pure (ps.zip us))
    (hbody : ∀ (cdv : Value) (A : Around) (outer : List Env) (s : Shared) (H : Hp) (E : XK), A.guards = some [] → Room k (A.deeper (envOfC qual scope s.heap.objs.size f cdv)) →
      SB (cxOf (L2.CX P w) P w K mg base N qual scope f cdv A outer s H E) (fun cls d _ H => E cls d H) (kpOf io) bd body) : FOG P w K mg base x (k + 1) n io (fnM l io body) :=
  ⟨f, fd, ps, hm, F.kp, F.bindsN hb, fnG_of F S (fun vs H Q E h => by rw [h.1, hn]) fun cdv A outer s H vs Q E hG hr h => ⟨_, hbody cdv A outer s H E hG hr, body_step hl hio h⟩⟩
section
variable {X : Cx} {Wd : WX} {pos : Pos} {e : Expr} {es : List Expr} {ms : AM}
theorem se_callG {x : Str} {k j n : Nat} {p : Pos} {m : FM} (G : FOG X.prog X.w X.K X.mg X.base x k n [] m) (hG : X.A.guards = some []) (hr : Room j X.A) (hk : k ≤ j) (tk : Takes X Wd) (hg : Gl X x) (ha : SA X Wd (e :: es) ms) (hn : (e :: es).length = n)
    (hdb : (x == ("__debug__" : Str)) = false := by decide) (he : starEach (e :: es) X.env = (false, eval e X.env) :: starEach es X.env := by rfl) (hpl : (backTo pos (starEach es X.env)).any (·.1) = false := by rfl) :
    SE X Wd (.Call (.Name x p) (e :: es) [] pos) (eCall m ms) := by
  obtain ⟨f, fd, ps, hm, kp, b, F⟩ := G.ex
  exact PE.less (pe_callG (E := fun σ cls d H => Wd cls d σ H) F hG (hr.mono hk) hg hm kp b (fun σ => passAt tk σ) ha.pa hdb he hpl) fun σ H Q h => call_step (n := n) (fun env os env' q => (ha.len env os env' q).trans hn) h
theorem se_callIG {x : Str} {k j n : Nat} {p : Pos} {io : List Bool} {m : FM} (G : FOG X.prog X.w X.K X.mg X.base x k n io m) (hG : X.A.guards = some []) (hr : Room j X.A) (hk : k ≤ j) (tk : Takes X Wd) (hg : Gl X x) (ha : SA X Wd (e :: es) ms) (hn : (e :: es).length = n)
    (hdb : (x == ("__debug__" : Str)) = false := by decide) (he : starEach (e :: es) X.env = (false, eval e X.env) :: starEach es X.env := by rfl) (hpl : (backTo pos (starEach es X.env)).any (·.1) = false := by rfl) :
    SE X Wd (.Call (.Name x p) (e :: es) [] pos) (eCallI m io ms) := by
  obtain ⟨f, fd, ps, hm, kp, b, F⟩ := G.ex
  exact PE.less (pe_callG (E := fun σ cls d H => Wd cls d σ H) F hG (hr.mono hk) hg hm kp b (fun σ => passAt tk σ) ha.pa hdb he hpl) fun σ H Q h => callI_step (n := n) (fun env os env' q => (ha.len env os env' q).trans hn) h
end

/-! ### repr -/
mutual
theorem toP_noDict : ∀ (d : D) (p : PyData), toP d = some p → p.hasDict = false
  | .non, p, h => by
    rw [toP] at h
    cases h
    rfl
  | .bl b, p, h => by
    rw [toP] at h
    cases h
    rfl
  | .int i, p, h => by
    rw [toP] at h
    cases h
    rfl
  | .str x, p, h => by
    rw [toP] at h
    cases h
    rfl
  | .tup ds, p, h => by
    rw [toP] at h
    cases e : toPs ds with
    | none =>
      rw [e] at h
      cases h
    | some ps =>
      rw [e] at h
      cases h
      exact toPs_noDict ds ps e
  | .lst ds, p, h => by
    rw [toP] at h
    cases e : toPs ds with
    | none =>
      rw [e] at h
      cases h
    | some ps =>
      rw [e] at h
      cases h
      exact toPs_noDict ds ps e
  | .ins _ _, p, h => by
    rw [toP] at h
    cases h
  | .exc _ _, p, h => by
    rw [toP] at h
    cases h
theorem toPs_noDict : ∀ (ds : List D) (ps : List PyData), toPs ds = some ps → PyData.hasDictAll ps = false
  | [], ps, h => by
    rw [toPs] at h
    cases h
    rfl
  | d :: ds, ps, h => by
    rw [toPs] at h
    cases e : toP d with
    | none =>
      rw [e] at h
      cases h
    | some p =>
      cases e2 : toPs ds with
      | none =>
        rw [e, e2] at h
        cases h
      | some ps' =>
        rw [e, e2] at h
        cases h
        show (p.hasDict || PyData.hasDictAll ps') = false
        rw [toP_noDict d p e, toPs_noDict ds ps' e2]
        rfl
end
def pRepr : List D → Option W
  | [d] => (toP d).bind fun p => if p.showable = true ∧ p.depth ≤ 60 ∧ p.shown.length ≤ sizeLine then some (.sh (.str p.shown)) else none
  | _ => none
def rReprM (K : PySem.W.Frag) : List V → Hp → VK → Prop := fun xs H Q => ∃ x p, xs = [x] ∧ Dp K H x p ∧ p.hasDict = false ∧ p.showable = true ∧ p.depth ≤ 60 ∧ p.shown.length ≤ sizeLine ∧ Q (.str p.shown) H
theorem call_reprM {X : Cx} (hG : X.A.guards = some []) (hu : X.A.units + 64 < cLine) : CallR X (.builtin "repr") (rReprM X.K) := by
  intro pins s σ H xs us Q I r h
  obtain ⟨x, p, rfl, hd, hn, hs, hdp, hz, q⟩ := h
  obtain ⟨u, rfl, ru⟩ := vals1 r
  cases hd with
  | non =>
    cases ru
    exact PySem.P.repr_of_none ⟨.str _, H, I.tok _, ⟨_, rfl⟩, q⟩
  | bl b =>
    cases ru
    refine PySem.P.repr_of_bool ⟨.str _, H, I.tok _, ⟨_, rfl⟩, ?_⟩
    cases b <;> exact q
  | int i =>
    obtain ⟨t, rfl⟩ := ru
    have hi : i.natAbs.log2 < 1920 := by simpa [PyData.showable] using hs
    exact PySem.P.repr_of_int hi ⟨.str _, H, I.tok _, ⟨_, rfl⟩, q⟩
  | str z =>
    obtain ⟨t, rfl⟩ := ru
    exact PySem.P.repr_of_str ⟨.str _, H, I.tok _, ⟨_, rfl⟩, q⟩ hz
  | lst h1 h2 =>
    obtain ⟨as, rd⟩ := Dp.reads I _ _ u (.lst h1 h2) ru
    cases ru
    exact repr_of_reads' rd hs (PyData.noDict_hsm hn) hG (by omega) (fun _ _ e => e) (fun h' t tk hk => ⟨.str _, H, I.kept hk, ⟨t, rfl⟩, q⟩) hz
  | tup h1 h2 =>
    obtain ⟨as, rd⟩ := Dp.reads I _ _ u (.tup h1 h2) ru
    cases ru
    exact repr_of_reads' rd hs (PyData.noDict_hsm hn) hG (by omega) (fun _ _ e => e) (fun h' t tk hk => ⟨.str _, H, I.kept hk, ⟨t, rfl⟩, q⟩) hz
theorem opn_repr {K : PySem.W.Frag} {mg : Str → Option Value} : OpN K mg (rReprM K) pRepr := opN_one rfl (fun d e ds => rfl) fun B H x d w Q l r hp q => by
  rw [pRepr] at hp
  cases e : toP d with
  | none =>
    rw [e] at hp
    cases hp
  | some p =>
    rw [e] at hp
    obtain ⟨⟨h1, h2, h3⟩, rfl⟩ := ite_some hp
    exact ⟨x, p, rfl, dp_ofO l e r, toP_noDict d p e, h1, h2, h3, new_same l q (.str _)⟩

/-! ### the end of a law whose promise is kept where no repr is under way -/
theorem law_callG {P : Program} {w : World} {K : PySem.W.Frag} {mg mb : Str → Option Value} {CX : CXT} {k : Nat} {fa a : Addr} {fd : FuncData} {x : Str} {sp : Sp} {s₁ : Shared} {vs : List Value} {ns : List Int}
    (KX : K.In s₁.heap) (hns : s₁.heap.Ns mainGlobals mg) (hb : s₁.heap.Ns builtinsNs mb) (hbb : ∀ x : Str, x ≠ "__name__" → mb x = bootBuiltins x) (hlim : s₁.heap.NoLimit) (hg : s₁.gens = #[])
    (ha : s₁.heap.get? a = some { cls := .type "list", data := .seq vs.toArray }) (hi : IntsAre vs ns) (hl : ns.length ≤ sizeLine) (hr : Room k callerA)
    (F : ∀ base : Heap, K.In base → base.Ns mainGlobals mg → FnG P w K mg base CX k fa fd [x] sp) (hbind : ∀ (s : Shared) (u : Value), BindsTo s fd ⟨[u], []⟩ [(x, u)])
    (hsp : ∀ H : Hp, Only H → SqX K H a (ns.map V.int) → sp [.ref a] H (fun v _ => v = .bl true) fun _ _ _ => False)
    (hCX : ∀ H e s', CX [] H s₁ (fun _ _ _ => False) e s' → False) :
    codeAny (model P w) callerA (.call (.ref fa) ⟨[.ref a], []⟩) (fun r s' => r = .ok (.ret (.bool true)) ∧ OldK s₁.heap s'.heap ∧ s'.os = s₁.os ∧ AllBare s'.gens) s₁ := by
  have rv := vals_ints hi
  have lenV := hi.length
  let ob : Obj := { cls := .type "list", data := .seq vs.toArray }
  -- at most the script is tracked, frozen
  have core : ∀ H : Hp, (∀ b, b ≠ a → H b = none) → (H a = some (.frz ob (.lst (ns.map V.int))) ∧ K.lookup a = none ∨ H a = none) → SqX K H a (ns.map V.int) →
      codeAny (model P w) callerA (.call (.ref fa) ⟨[.ref a], []⟩) (fun r s' => r = .ok (.ret (.bool true)) ∧ OldK s₁.heap s'.heap ∧ s'.os = s₁.os ∧ AllBare s'.gens) s₁ := fun H Hn Ha hq => by
    have hok : HOk P w H s₁.heap := fun b u z => by
      by_cases hb : b = a
      · subst hb
        rcases Ha with ⟨Ha, _⟩ | Ha
        · rw [Ha] at z
          cases z
          exact ⟨ha, by rw [List.length_map]; exact hl, vs, _, rv, ha⟩
        · rw [Ha] at z
          cases z
      · rw [Hn b hb] at z
        cases z
    have nsK : ∀ {b : Addr} {m : Str → Option Value}, s₁.heap.Ns b m → (hidT s₁.heap H).Ns b m := fun {b m} ⟨o, es, ep, e, d, r⟩ => ⟨o, es, ep, hidT_get e (Hn b fun z => by
      rw [z, ha] at e
      cases e
      cases d), d, r⟩
    have hKb : K.In (hidT s₁.heap H) := fun b o e => hidT_get (KX b o e) (by
      by_cases hb : b = a
      · subst hb
        rcases Ha with ⟨_, nK⟩ | Ha
        · rw [nK] at e
          cases e
        · exact Ha
      · exact Hn b hb)
    have hM : Mod K mg (hidT s₁.heap H) := ⟨hKb, nsK hns, ⟨mb, nsK hb, hbb⟩, let ⟨mc, h1, h2⟩ := hlim; ⟨mc, nsK h1, h2⟩⟩
    have e0 : Env0 P w K mg (hidT s₁.heap H) callerA [] s₁ H := ⟨rfl, hM, fun b o e => of_hidT e, Nat.le_of_eq (hidT_size _ _), trivial, fun b hb => absurd (show b ∈ ([] : List Addr) from hb) (by simp), hok, .of_eq hg⟩
    have hO : Only H := fun b => by
      by_cases hb : b = a
      · rcases Ha with ⟨Ha, _⟩ | Ha
        · exact .inr ⟨_, _, by rw [hb]; exact Ha⟩
        · exact .inl (by rw [hb]; exact Ha)
      · exact .inl (Hn b hb)
    refine codeAny_mono ((F _ hKb (nsK hns)).run callerA [] s₁ H ⟨[.ref a], []⟩ [.ref a] [.ref a] _ _ rfl hr e0 (hbind s₁ (.ref a)) (.cons rfl .nil) (hsp H hO hq)) fun r s' h => ?_
    cases r with
    | error e => exact (hCX H e s' h).elim
    | ok fl =>
      cases fl with
      | ret u =>
        obtain ⟨v, H', os, bare, un, hok', r', q⟩ := h
        have q' : v = .bl true := q
        subst q'
        obtain rfl : u = Value.bool true := r'
        refine ⟨rfl, OldK.of_keep fun b o e => ?_, os, bare⟩
        have keep : H b = none → s'.heap.get? b = some o := fun n => un.keep b o e n (by intro z; exact absurd (show b ∈ ([] : List Addr) from z) (by simp)) (by simp)
        by_cases hb : b = a
        · subst hb
          rcases Ha with ⟨Ha, _⟩ | Ha
          · have e2 := (hok' b _ (un.frzs b ob _ Ha)).1
            rw [ha] at e
            cases e
            exact e2
          · exact keep Ha
        · exact keep (Hn b hb)
      | _ => exact False.elim h
  cases hk : K.lookup a with
  | some o =>
    have e := KX a o hk
    rw [ha] at e
    cases e
    exact core (fun _ => none) (fun _ _ => rfl) (.inr rfl) (.inr ⟨vs.toArray, _, hk, by rw [List.size_toArray, lenV]; exact hl, by simpa using rv⟩)
  | none => exact core (fun b => if b = a then some (.frz ob (.lst (ns.map V.int))) else none) (fun b h => if_neg h) (.inl ⟨if_pos rfl, hk⟩) (.inl (.inr ⟨ob, if_pos rfl⟩))
theorem walk_G {l : PySem.W.OpenLaw} {n k : Nat} {q : Program} {loose : List Str} {XP : (Str → Option Value) → Heap → Prop} {YP : World → Heap → Prop} {d : DefRec} {CX : World → CXT} {x : Str}
    (hn : l.most = some n) (hn2 : n ≤ sizeLine) (hdf : d.params.defaults = []) (hr : Room k callerA)
    (F : ∀ (w : World) (mg : Str → Option Value) (fa : Addr) (h : Heap), YP w h → h.Ns mainGlobals mg → mg d.name = some (.ref fa) →
      ∃ (K : PySem.W.Frag) (fd : FuncData) (sp : Sp), K.In h ∧ (∀ (s : Shared) (u : Value), BindsTo s fd ⟨[u], []⟩ [(x, u)]) ∧
        (∀ (H : Hp) (a : Addr) (ns : List Int), ns.length ≤ n → (∀ z ∈ ns, Builtin.Int.intBits z ≤ 1048576) → Only H → SqX K H a (ns.map V.int) → sp [.ref a] H (fun v _ => v = .bl true) fun _ _ _ => False) ∧
        ∀ base : Heap, K.In base → base.Ns mainGlobals mg → FnG l.prog w K mg base (CX w) k fa fd [x] sp)
    (hCX : ∀ (w : World) (H : Hp) (s : Shared) (e : Value) (s' : Shared), CX w [] H s (fun _ _ _ => False) e s' → False) :
    PySem.W.WalkO q loose XP YP l.row.toRowW d [] (fun f vs => PySem.call f vs) := by
  refine Att.attach_callB hn hdf fun w s₀ s₁ mg mb fa o pm cd doc a vs ns G Y ho hd hcd hmg hobj hints hlen hbits hg => ?_
  obtain ⟨K, fd, sp, KX, hb, hsp, hF⟩ := F w mg fa _ Y G.T.g hmg
  exact law_callG KX G.T.g G.T.b G.T.builtins G.T.nolimit hg hobj hints (Nat.le_trans hlen hn2) hr hF hb (fun H hO hS => hsp H a ns hlen hbits hO hS) fun H e s' => hCX w H s₁ e s'
end Mi
set_option maxRecDepth 100000
/-! Mi12: instances of own classes. -/
namespace Mi
open PySem PySem.Spec PyProof.Rows L2

/-- where the name stands -/
def idxN (f : Str) : List Str → Option Nat
  | [] => none
  | n :: ns => if n = f then some 0 else (idxN f ns).map (· + 1)
def putN {α : Type} (k : Nat) (x : α) (xs : List α) : List α := if k < xs.length then xs.set k x else xs ++ [x]
theorem idxN_get {f : Str} : ∀ {ns : List Str} {k : Nat}, idxN f ns = some k → ns[k]? = some f
  | [], k, h => by cases h
  | n :: ns, k, h => by
    rw [idxN] at h
    by_cases e : n = f
    · rw [if_pos e] at h
      cases h
      rw [e]
      rfl
    · rw [if_neg e] at h
      cases q : idxN f ns with
      | none =>
        rw [q] at h
        cases h
      | some j =>
        rw [q] at h
        cases h
        have z : ns[j]? = some f := idxN_get q
        show (n :: ns)[j + 1]? = some f
        rw [List.getElem?_cons_succ]
        exact z
theorem lookup_at {f : Str} : ∀ {ns : List Str} {fv : List (Str × V)} {k : Nat} {q : Str × V}, fv.map (·.1) = ns.take fv.length → idxN f ns = some k → fv[k]? = some q → fv.lookup f = some q.2
  | ns, [], k, q, _, _, h => by cases h
  | [], p :: fv, k, q, h, _, _ => by simp at h
  | n :: ns, (g, x) :: fv, k, q, h, h2, h3 => by
    simp only [List.map_cons, List.length_cons, List.take_succ_cons, List.cons.injEq] at h
    obtain ⟨h0, h1⟩ := h
    subst h0
    rw [idxN] at h2
    by_cases e : g = f
    · rw [if_pos e] at h2
      cases h2
      cases h3
      subst e
      simp [List.lookup]
    · rw [if_neg e] at h2
      cases q1 : idxN f ns with
      | none =>
        rw [q1] at h2
        cases h2
      | some j =>
        rw [q1] at h2
        cases h2
        have e2 : (f == g) = false := by simpa using fun z : f = g => e z.symm
        simp only [List.lookup, e2]
        exact lookup_at h1 q1 (by simpa using h3)
theorem putF_at {f : Str} {y : V} : ∀ {ns : List Str} {fv : List (Str × V)} {k : Nat}, fv.map (·.1) = ns.take fv.length → idxN f ns = some k → k ≤ fv.length → putF f y fv = putN k (f, y) fv
  | ns, [], k, _, _, h => by
    have : k = 0 := by simpa using h
    subst this
    rfl
  | [], p :: fv, k, h, _, _ => by simp at h
  | n :: ns, (g, x) :: fv, k, h, h2, h3 => by
    simp only [List.map_cons, List.length_cons, List.take_succ_cons, List.cons.injEq] at h
    obtain ⟨h0, h1⟩ := h
    subst h0
    rw [idxN] at h2
    by_cases e : g = f
    · rw [if_pos e] at h2
      cases h2
      subst e
      show (if g = g then (g, y) :: fv else _) = _
      rw [if_pos rfl]
      rfl
    · rw [if_neg e] at h2
      cases q1 : idxN f ns with
      | none =>
        rw [q1] at h2
        cases h2
      | some j =>
        rw [q1] at h2
        cases h2
        show (if g = f then _ else (g, x) :: putF f y fv) = _
        rw [if_neg e, putF_at h1 q1 (by simpa using h3)]
        unfold putN
        by_cases hj : j < fv.length
        · rw [if_pos hj, if_pos (by simpa using hj)]
          rfl
        · rw [if_neg hj, if_neg (by simpa using hj)]
          rfl
theorem putN_len {α : Type} {k : Nat} {x : α} {xs : List α} : (putN k x xs).length = if k < xs.length then xs.length else xs.length + 1 := by
  unfold putN
  split <;> simp
theorem putN_names {f : Str} {y : V} {ns : List Str} {fv : List (Str × V)} {k : Nat} (h : fv.map (·.1) = ns.take fv.length) (h2 : idxN f ns = some k) (h3 : k ≤ fv.length) : (putN k (f, y) fv).map (·.1) = ns.take (putN k (f, y) fv).length := by
  have g := idxN_get h2
  by_cases hk : k < fv.length
  · have e1 : (putN k (f, y) fv).length = fv.length := by rw [putN_len, if_pos hk]
    rw [e1, ← h]
    unfold putN
    rw [if_pos hk, List.map_set]
    apply List.ext_getElem?
    intro i
    by_cases e : k = i
    · subst e
      rw [List.getElem?_set_self (by simpa using hk), h, List.getElem?_take_of_lt hk, g]
    · rw [List.getElem?_set_ne e]
  · have ek : k = fv.length := by omega
    have e1 : (putN k (f, y) fv).length = fv.length + 1 := by rw [putN_len, if_neg hk]
    rw [e1]
    unfold putN
    rw [if_neg hk, List.map_append, h, List.take_succ, ← ek, g]
    rfl
theorem putN_get {α : Type} {k i : Nat} {x z : α} {xs : List α} (hk : k ≤ xs.length) (h : (putN k x xs)[i]? = some z) : (i = k ∧ z = x) ∨ (i ≠ k ∧ xs[i]? = some z) := by
  unfold putN at h
  by_cases hl : k < xs.length
  · rw [if_pos hl] at h
    by_cases e : k = i
    · subst e
      rw [List.getElem?_set_self hl] at h
      cases h
      exact .inl ⟨rfl, rfl⟩
    · rw [List.getElem?_set_ne e] at h
      exact .inr ⟨fun z => e z.symm, h⟩
  · rw [if_neg hl] at h
    by_cases e : i < xs.length
    · rw [List.getElem?_append_left e] at h
      exact .inr ⟨by omega, h⟩
    · rw [List.getElem?_append_right (by omega)] at h
      have ei : i - xs.length = 0 := by
        rcases Nat.eq_zero_or_pos (i - xs.length) with q | q
        · exact q
        · rw [List.getElem?_eq_none (by simp; omega)] at h
          cases h
      rw [ei] at h
      cases h
      exact .inl ⟨by omega, rfl⟩
/-- what is known of a class: its attributes are its instances' own -/
def CF (K : PySem.W.Frag) (mg : Str → Option Value) (cs : List Nat) : Prop := ∀ c ∈ cs, ∀ C, mg (lay c).1 = some (.ref C) → Cls K C ∧ ∀ f ∈ (lay c).2, NoAttr K C f
/-- an attribute that is shared -/
def fldW (cs : List Nat) (f : Str) : W → Option D
  | .oi c ws => if c ∈ cs then (idxN f (lay c).2).bind fun k => match ws[k]? with
    | some (.sh d) => some d
    | _ => none else none
  | .sh (.ins c ds) => if c ∈ cs then (idxN f (lay c).2).bind fun k => ds[k]? else none
  | _ => none
def eFld (cs : List Nat) (i : Nat) (f : Str) : EM := fun env => match (env[i]?).bind (fldW cs f) with
  | some d => .ok (.val (.sh d)) env
  | none => .stuck
/-- .. of a value -/
def eFldE (cs : List Nat) (m : EM) (f : Str) : EM := fun env => (m env).bind fun o env1 => match o with
  | .val w => match fldW cs f w with
    | some d => .ok (.val (.sh d)) env1
    | none => .stuck
  | .slot _ => .stuck
section
variable {K : PySem.W.Frag} {mg : Str → Option Value} {B B' H H' : Hp} {env env' : En} {σ : L2.St} {fp fp' : Nat → Fp} {Wd : WX} {F : Fp} {Q : VK}
theorem ite_none {α : Type} {c : Prop} [Decidable c] {x : Option α} {b : α} (h : (if c then x else none) = some b) : c ∧ x = some b := by
  by_cases q : c
  · rw [if_pos q] at h
    exact ⟨q, h⟩
  · rw [if_neg q] at h
    cases h
theorem idx_mem {f : Str} {ns : List Str} {k : Nat} (h : idxN f ns = some k) : f ∈ ns := List.mem_of_getElem? (idxN_get h)
theorem fld_rep {cs : List Nat} {f : Str} {w : W} {d : Mi.D} {x : V} (hc : CF K mg cs) (r : RepW K mg B H w x F) (l : Le B H) (h : fldW cs f w = some d) :
    ∃ a C dx fs v, x = .ref a ∧ H a = some (.ins C dx fs) ∧ Cls K C ∧ NoAttr K C f ∧ fs.lookup f = some v ∧ Rep K mg B d v := by
  cases r with
  | gone e => cases h
  | ol _ _ _ => cases h
  | on _ _ _ _ _ _ => cases h
  | ot _ _ _ _ _ _ => cases h
  | @oi a C dx c ws fv fp F ha hd hm hl hn rr dj na e =>
    obtain ⟨h0, h⟩ := ite_none (show (if c ∈ cs then (idxN f (lay c).2).bind fun k => match ws[k]? with | some (.sh d) => some d | _ => none else none) = some d from h)
    obtain ⟨c1, c2⟩ := hc c h0 C hm
    cases e1 : idxN f (lay c).2 with
    | none =>
      rw [e1] at h
      cases h
    | some k =>
      rw [e1] at h
      have h : (match ws[k]? with | some (.sh d) => some d | _ => none) = some d := h
      cases e2 : ws[k]? with
      | none =>
        rw [e2] at h
        cases h
      | some w =>
        rw [e2] at h
        cases w with
        | sh d' =>
          cases h
          obtain ⟨hk, _⟩ := List.getElem?_eq_some_iff.mp e2
          have e3 : fv[k]? = some fv[k] := List.getElem?_eq_getElem (by rw [← hl]; exact hk)
          have r1 := rr k _ _ e2 e3
          cases r1 with
          | sh r1 _ => exact ⟨a, C, dx, fv, _, rfl, ha, c1, c2 f (idx_mem e1), lookup_at hn e1 e3, r1⟩
        | _ => cases h
  | @sh d0 v F r e =>
    cases d0 with
    | ins c ds =>
      obtain ⟨h0, h⟩ := ite_none (show (if c ∈ cs then (idxN f (lay c).2).bind fun k => ds[k]? else none) = some d from h)
      cases r with
      | @ins a C dx c ds fv ha hm hl hn rr =>
        obtain ⟨c1, c2⟩ := hc c h0 C hm
        cases e1 : idxN f (lay c).2 with
        | none =>
          rw [e1] at h
          cases h
        | some k =>
          rw [e1] at h
          have e2 : ds[k]? = some d := h
          obtain ⟨hk, _⟩ := List.getElem?_eq_some_iff.mp e2
          have e3 : fv[k]? = some fv[k] := List.getElem?_eq_getElem (by rw [← hl]; exact hk)
          exact ⟨a, C, dx, fv, _, rfl, l _ _ ha, c1, c2 f (idx_mem e1), lookup_at hn e1 e3, rr k _ _ e2 e3⟩
    | _ => cases h
theorem fld_step {cs : List Nat} {i : Nat} {f : Str} (hc : CF K mg cs) (h : tE K mg Wd (eFld cs i f) σ H Q) : tFld K (tVar i) f σ H Q := by
  obtain ⟨B, env, fp, S, r⟩ := h
  unfold eFld at r
  cases q : env[i]? with
  | none =>
    rw [q] at r
    exact r.elim
  | some w =>
    cases q2 : fldW cs f w with
    | none =>
      simp only [q, Option.bind, q2] at r
      exact r.elim
    | some d =>
      simp only [q, Option.bind, q2] at r
      obtain ⟨x, hx, rw0⟩ := S.rep i w q
      have ng : w ≠ .gone := fun z => by rw [z] at q2; cases q2
      obtain ⟨a, C, dx, fs, v, rfl, ha, c1, c2, lk, rv⟩ := fld_rep hc rw0 S.le q2
      exact ⟨_, hx ng, a, C, dx, fs, v, rfl, ha, c1, c2, lk, r v B H fp Nil (Aft.refl S) (.sh rv nil_no)⟩
theorem fldE_step {cs : List Nat} {m : EM} {f : Str} (hc : CF K mg cs) (h : tE K mg Wd (eFldE cs m f) σ H Q) : tFld K (tE K mg Wd m) f σ H Q := by
  obtain ⟨B, env, fp, S, r⟩ := h
  refine ⟨B, env, fp, S, ?_⟩
  unfold eFldE at r
  cases e : m env with
  | stuck =>
    rw [e] at r
    exact r
  | err x e1 =>
    rw [e] at r
    exact r
  | ok o env1 =>
    rw [e] at r
    simp only [Out.bind] at r
    intro x B1 H1 fp1 F1 A1 R1
    cases o with
    | slot j => exact r.elim
    | val w =>
      cases q2 : fldW cs f w with
      | none =>
        simp only [q2] at r
        exact r.elim
      | some d =>
        simp only [q2] at r
        obtain ⟨a, C, dx, fs, v, rfl, ha, c1, c2, lk, rv⟩ := fld_rep hc R1 A1.sim.le q2
        exact ⟨a, C, dx, fs, v, rfl, ha, c1, c2, lk, r v B1 H1 fp1 Nil A1.drop (.sh rv nil_no)⟩
/-! ### an attribute is set -/
theorem Sim.ownO (S : Sim K mg B H env σ fp) {i c : Nat} {ws : List W} (e : env[i]? = some (.oi c ws)) : ∃ (a C dx : Addr) (fv : List (Str × V)) (fpi : Nat → Fp), σ[i]? = some (some (.ref a)) ∧ H a = some (.ins C dx fv) ∧ H dx = some (.own a) ∧ mg (lay c).1 = some (.ref C) ∧ ws.length = fv.length ∧
    fv.map (·.1) = (lay c).2.take fv.length ∧ (∀ (i : Nat) (w : W) (q : Str × V), ws[i]? = some w → fv[i]? = some q → RepW K mg B H w q.2 (fpi i)) ∧ (∀ i j b, fpi i b → fpi j b → i = j) ∧ (∀ i, ¬ fpi i a ∧ ¬ fpi i dx) ∧ ∀ b, fp i b ↔ b = a ∨ b = dx ∨ ∃ i, i < ws.length ∧ fpi i b := by
  obtain ⟨v, hv, r⟩ := S.rep i _ e
  cases r with
  | oi h hd hm l n r dj na e => exact ⟨_, _, _, _, _, hv (fun z => nomatch z), h, hd, hm, l, n, r, dj, na, e⟩
theorem Sim.writeO (S : Sim K mg B H env σ fp) {i c k : Nat} {ws : List W} {f : Str} {d : Mi.D} {y : V} (e : env[i]? = some (.oi c ws)) (ek : idxN f (lay c).2 = some k) (hk : k ≤ ws.length) (ry : Rep K mg B d y) :
    ∃ a C dx fv, σ[i]? = some (some (.ref a)) ∧ H a = some (.ins C dx fv) ∧ mg (lay c).1 = some (.ref C) ∧ ws.length = fv.length ∧ ∃ fp2, Sim K mg B (upd H a (.ins C dx (putF f y fv))) (env.set i (.oi c (putN k (.sh d) ws))) σ fp2 ∧
      Grow B B H (upd H a (.ins C dx (putF f y fv))) (All fp) (All fp2) := by
  obtain ⟨a, C, dx, fv, fpi, hσ, ha, hd, hm, hl, hn, rr, dj, na, ef⟩ := S.ownO e
  have hi : i < env.length := (List.getElem?_eq_some_iff.mp e).1
  have fa : fp i a := (ef a).mpr (.inl rfl)
  have fd : fp i dx := (ef dx).mpr (.inr (.inl rfl))
  have nba : B a = none := S.nb i a fa
  have dxa : dx ≠ a := fun z => by
    rw [z, ha] at hd
    cases hd
  have hk2 : k ≤ fv.length := by rw [← hl]; exact hk
  have ep := putF_at (y := y) hn ek hk2
  let fpj : Nat → Fp := fun j b => j ≠ k ∧ fpi j b
  let F2 : Fp := fun b => b = a ∨ b = dx ∨ ∃ j, j < (putN k (W.sh d) ws).length ∧ fpj j b
  have F2sub : ∀ b, F2 b → fp i b := fun b h => (ef b).mpr (by
    rcases h with h | h | ⟨j, hj, nk, h⟩
    · exact .inl h
    · exact .inr (.inl h)
    · refine .inr (.inr ⟨j, ?_, h⟩)
      rw [putN_len] at hj
      split at hj
      · exact hj
      · omega)
  have keep : ∀ {b : Addr} {o : HO}, b ≠ a → H b = some o → upd H a (.ins C dx (putF f y fv)) b = some o := fun {b o} h hb => by rw [upd_ne h]; exact hb
  have rO : RepW K mg B (upd H a (.ins C dx (putF f y fv))) (.oi c (putN k (.sh d) ws)) (.ref a) F2 := by
    refine .oi (fp := fpj) upd_same (keep dxa hd) hm ?_ ?_ (fun j w q hw hq => ?_) (fun j j2 b h1 h2 => dj j j2 b h1.2 h2.2) (fun j => ⟨fun h => (na j).1 h.2, fun h => (na j).2 h.2⟩) fun b => Iff.rfl
    · rw [ep, putN_len, putN_len, hl]
    · rw [ep]
      exact putN_names hn ek hk2
    · rw [ep] at hq
      rcases putN_get hk hw with ⟨rfl, rfl⟩ | ⟨nk, hw⟩
      · rcases putN_get hk2 hq with ⟨_, rfl⟩ | ⟨z, _⟩
        · exact .sh ry fun b h => h.1 rfl
        · exact absurd rfl z
      · rcases putN_get hk2 hq with ⟨z, _⟩ | ⟨_, hq⟩
        · exact absurd z nk
        · have r0 := rr j w q hw hq
          have r1 := r0.ext (H' := upd H a (.ins C dx (putF f y fv))) (Le.refl B) fun b o fb hb => keep (fun z => (na j).1 (by rw [← z]; exact fb)) hb
          exact r1.fp fun b => ⟨fun h => ⟨nk, h⟩, fun h => h.2⟩
  have S1 : Sim K mg B (upd H a (.ins C dx (putF f y fv))) (env.set i .gone) σ (fpS fp i Nil) := by
    have S0 : Sim K mg B H (env.set i .gone) σ (fpS fp i Nil) := S.turn hi (fun z => absurd rfl z) (.gone (v := .non) nil_no) (fun _ z => z.elim) fun _ z => z.elim
    have nA : ∀ b, All (fpS fp i Nil) b → b ≠ a := fun b ⟨j, h⟩ z => by
      by_cases q : j = i
      · rw [q, fpS_same] at h
        exact h
      · rw [fpS_ne q, z] at h
        exact q (S.dj j i a h fa)
    refine S0.ext (Le.refl B) (fun b o hb => keep (fun z => by rw [z, nba] at hb; cases hb) (S.le b o hb)) (fun b o h hb => keep (nA b h) hb) fun b h => S0.nball b h
  have S2 := S1.turn (i := i) (w := .oi c (putN k (.sh d) ws)) (v := .ref a) (F := F2) (by simpa using hi) (fun _ => hσ) rO (fun b h => S.nb i b (F2sub b h)) fun b h j hj g => by
    rw [fpS_ne hj] at g
    exact hj (S.dj j i b g (F2sub b h))
  rw [List.set_set] at S2
  refine ⟨a, C, dx, fv, hσ, ha, hm, hl, _, S2, ⟨fun b o nb hb => keep (fun z => nb ⟨i, by rw [z]; exact fa⟩) hb, Le.refl B, fun _ _ h => .inl h, fun b ⟨j, h⟩ => .inl ?_⟩⟩
  by_cases q : j = i
  · rw [q, fpS_same] at h
    exact ⟨i, F2sub b h⟩
  · rw [fpS_ne q, fpS_ne q] at h
    exact ⟨j, h⟩
end
end Mi
set_option maxRecDepth 100000
/-! Mi13: attributes set, methods called, instances made. -/
namespace Mi
open PySem PySem.Spec PyProof.Rows L2

def setA (cs : List Nat) (f : Str) (d : D) : W → Option W
  | .oi c ws => if c ∈ cs ∧ ws.length < 900 then (idxN f (lay c).2).bind fun k => if k ≤ ws.length then some (.oi c (putN k (.sh d) ws)) else none else none
  | _ => none
/-- x.f = e -/
def sSetF (cs : List Nat) (i : Nat) (f : Str) (m : EM) : SM := fun env => (m env).bind fun o env1 => match (sres o env1).bind fun d => (env1[i]?).bind (setA cs f d) with
  | some w => .ok .nx (env1.set i w)
  | none => .stuck
/-- x.f += e, ints -/
def sAugF (cs : List Nat) (i : Nat) (f : Str) (g : Int → Int → Int) (m : EM) : SM := fun env => match env[i]? with
  | some (.oi c ws) => match fldW cs f (.oi c ws) with
    | some (.int p) => (m env).bind fun o env1 => match res o env1, env1[i]? with
      | some (.int q), some (.oi c2 ws2) => if c2 = c then match setA cs f (.int (g p q)) (.oi c2 ws2) with
        | some w => .ok .nx (env1.set i w)
        | none => .stuck else .stuck
      | _, _ => .stuck
    | _ => .stuck
  | _ => .stuck
section
variable {K : PySem.W.Frag} {mg : Str → Option Value} {B B' H H' : Hp} {env env' : En} {σ σ1 : L2.St} {fp fp' : Nat → Fp} {Wd : WX} {F : Fp} {kp : Kp} {D D' : Ends} {Q : VK}
theorem setA_inv {cs : List Nat} {f : Str} {d : Mi.D} {w w' : W} (h : setA cs f d w = some w') : ∃ c ws k, w = .oi c ws ∧ c ∈ cs ∧ ws.length < 900 ∧ idxN f (lay c).2 = some k ∧ k ≤ ws.length ∧ w' = .oi c (putN k (.sh d) ws) := by
  cases w with
  | oi c ws =>
    obtain ⟨⟨h1, h2⟩, h⟩ := ite_none (show (if c ∈ cs ∧ ws.length < 900 then (idxN f (lay c).2).bind fun k => if k ≤ ws.length then some (W.oi c (putN k (.sh d) ws)) else none else none) = some w' from h)
    cases e : idxN f (lay c).2 with
    | none =>
      rw [e] at h
      cases h
    | some k =>
      rw [e] at h
      obtain ⟨h3, h4⟩ := ite_some (show (if k ≤ ws.length then some (W.oi c (putN k (.sh d) ws)) else none) = some w' from h)
      exact ⟨c, ws, k, rfl, h1, h2, e, h3, h4⟩
  | _ => cases h
/-- slot i's attribute f is now the shared y -/
theorem Aft.putA {env0 : En} {B0 H0 : Hp} {fp0 : Nat → Fp} (A : Aft K mg B0 H0 fp0 env σ B H fp Nil) {cs : List Nat} (hc : CF K mg cs) {i : Nat} {f : Str} {d : Mi.D} {y : V} {w' : W} (h : (env[i]?).bind (setA cs f d) = some w') (ry : Rep K mg B d y) :
    ∃ a C dx fv c ws, env[i]? = some (.oi c ws) ∧ mg (lay c).1 = some (.ref C) ∧ σ[i]? = some (some (.ref a)) ∧ H a = some (.ins C dx fv) ∧ Cls K C ∧ NoAttr K C f ∧ fv.length < 1000 ∧
      ∃ fp2, Aft K mg B0 H0 fp0 (env.set i w') σ B (upd H a (.ins C dx (putF f y fv))) fp2 Nil := by
  cases q : env[i]? with
  | none =>
    rw [q] at h
    cases h
  | some w =>
    rw [q] at h
    obtain ⟨c, ws, k, rfl, h1, h2, h3, h4, rfl⟩ := setA_inv h
    obtain ⟨a, C, dx, fv, hσ, ha, hm, hl, fp2, S2, g2⟩ := A.sim.writeO q h3 h4 ry
    obtain ⟨c1, c2⟩ := hc c h1 C hm
    exact ⟨a, C, dx, fv, c, ws, rfl, hm, hσ, ha, c1, c2 f (idx_mem h3), by omega, fp2, S2, (A.gr.trans (g2.more fun b h => .inl h)).less fun b h => h.elim id fun z => z.elim, fun _ z => z.elim, fun _ z => z.elim⟩
theorem setF_step {cs : List Nat} {i : Nat} {f : Str} {m : EM} (hc : CF K mg cs) (h : tS K mg Wd kp (sSetF cs i f m) D σ H) : sFld K (tVar i) (tE K mg Wd m) f D σ H := by
  obtain ⟨B, env, fp, S, r⟩ := h
  unfold sSetF at r
  refine exp_step S r fun o env1 r v B1 H1 fp1 F1 A R => ?_
  cases q : (sres o env1).bind fun d => (env1[i]?).bind (setA cs f d) with
  | none =>
    simp only [q] at r
    exact r.elim
  | some w =>
    simp only [q] at r
    cases q1 : sres o env1 with
    | none =>
      rw [q1] at q
      cases q
    | some d =>
      rw [q1] at q
      have A2 := A.shared
      have rd := sres_rep (B1 := share B1 H1 F1) A.sim R q1 (share_bk A.nb) fun b o f h => by rw [share_in f]; exact h
      obtain ⟨a, C, dx, fv, c, ws, _, _, hσ, ha, c1, c2, hl, fp2, A3⟩ := A2.putA (env0 := env) hc q rd
      exact ⟨_, hσ, a, C, dx, fv, rfl, ha, c1, c2, hl, r σ _ _ fp2 A3 (Keep.refl _ _)⟩
def rIG (g : Int → Int → Int) : V → V → Hp → VK → Prop := fun x y H Q => ∃ i j, x = .int i ∧ y = .int j ∧ Q (.int (g i j)) H
theorem augF_step {cs : List Nat} {i : Nat} {f : Str} {g : Int → Int → Int} {m : EM} (hc : CF K mg cs) (h : tS K mg Wd kp (sAugF cs i f g m) D σ H) : sFldAug K (tVar i) (tE K mg Wd m) (rIG g) f D σ H := by
  obtain ⟨B, env, fp, S, r⟩ := h
  unfold sAugF at r
  cases q : env[i]? with
  | none =>
    rw [q] at r
    exact r.elim
  | some w =>
    cases w with
    | oi c ws =>
      simp only [q] at r
      cases q1 : fldW cs f (.oi c ws) with
      | none =>
        rw [q1] at r
        exact r.elim
      | some d =>
        cases d with
        | int p =>
          simp only [q1] at r
          obtain ⟨x, hx, rw0⟩ := S.rep i _ q
          obtain ⟨a, C, dx, fs, v, rfl, ha, c1, c2, lk, rv⟩ := fld_rep hc rw0 S.le q1
          obtain ⟨a0, C0, dx0, fv0, _, hσ0, ha0, _, hm0, _⟩ := S.ownO q
          have hσ := hx fun z => nomatch z
          rw [hσ] at hσ0
          cases hσ0
          rw [ha] at ha0
          cases ha0
          cases rv
          refine ⟨_, hσ, a, C, dx, fs, _, rfl, ha, c1, c2, lk, exp_step S r fun o env1 r y B1 H1 fp1 F1 A R => ?_⟩
          cases q2 : res o env1 with
          | none =>
            rw [q2] at r
            exact r.elim
          | some e =>
            cases e with
            | int j =>
              cases q3 : env1[i]? with
              | none =>
                rw [q2, q3] at r
                exact r.elim
              | some w2 =>
                cases w2 with
                | oi c3 ws2 =>
                  by_cases hcc : c3 = c
                  · simp only [q2, q3, if_pos hcc] at r
                    cases q4 : setA cs f (.int (g p j)) (.oi c3 ws2) with
                    | none =>
                      rw [q4] at r
                      exact r.elim
                    | some w3 =>
                      rw [q4] at r
                      cases repO_int (res_rep A.sim R q2)
                      obtain ⟨a', C', dx', fv', c', ws', e1, hm', hσ', ha', _, _, hl', fp2, A3⟩ := A.drop.putA (env0 := env) hc (i := i) (f := f) (d := .int (g p j)) (y := .int (g p j)) (w' := w3) (by rw [q3]; exact q4) (.int _)
                      rw [hσ] at hσ'
                      cases hσ'
                      rw [q3] at e1
                      cases e1
                      rw [hcc, hm0] at hm'
                      cases hm'
                      exact ⟨p, j, rfl, rfl, dx', fv', ha', hl', r σ _ _ fp2 A3 (Keep.refl _ _)⟩
                  · simp only [q2, q3, if_neg hcc] at r
                    exact r.elim
                | _ =>
                  rw [q2, q3] at r
                  exact r.elim
            | _ =>
              rw [q2] at r
              exact r.elim
        | _ =>
          rw [q1] at r
          exact r.elim
    | _ =>
      rw [q] at r
      exact r.elim
end
section
variable {X : Cx} {Wd : WX} {kp : Kp} {pos p pos' : Pos} {e : Expr} {m : EM} {f : Str}
section
variable (cs : List Nat) (i : Nat) {x : Str} (hc : CF X.K X.mg cs) (he : SE X Wd e m) (hN : X.N[i]? = some x := by rfl) (hv : Vis X.env.scope x := by first | exact Or.inl rfl | exact Or.inr (Or.inl rfl) | exact Or.inr (Or.inr rfl)) (hd : (x == ("__debug__" : Str)) = false := by decide)
    (hcd : (x == ("__classdict__" : Str)) = false := by decide)
include hc hN hv hd hcd
theorem se_fld (hb : attributeBase (.Name x p) f X.env (eval (.Name x p) X.env) = eval (.Name x p) X.env := by rfl) : SE X Wd (.Attribute (.Name x p) f pos) (eFld cs i f) := PE.less (pe_fld (pe_var hN hv hd hcd) hb) fun _ _ _ h => fld_step hc h
include he
theorem ss_setF (hs : swapsWith e (some (.Attribute (.Name x p) f pos')) pos.line X.env = pure false := by rfl) : SS X Wd kp (.Assign [.Attribute (.Name x p) f pos'] e pos) (sSetF cs i f m) :=
  PS.less (ps_fld (pe_var hN hv hd hcd) he hs) fun _ _ _ h => setF_step hc h
theorem ss_augF : SS X Wd kp (.AugAssign (.Attribute (.Name x p) f pos') .Add e pos) (sAugF cs i f (fun a b => a + b) m) := PS.less (ps_fldaug (rd := rIG fun a b => a + b) (pe_var hN hv hd hcd) he in_add) fun _ _ _ h => augF_step hc h
end
theorem se_fldE (cs : List Nat) (hc : CF X.K X.mg cs) (he : SE X Wd e m) (hb : attributeBase e f X.env (eval e X.env) = eval e X.env := by rfl) : SE X Wd (.Attribute e f pos) (eFldE cs m f) := PE.less (pe_fld he hb) fun _ _ _ h => fldE_step hc h
end
end Mi
set_option maxRecDepth 100000
/-! Mi14: methods called, instances made. -/
namespace Mi
open PySem PySem.Spec PyProof.Rows L2

/-- a method of class c keeps its mirror's promise (self is the first argument) -/
structure FOM (P : Program) (w : World) (K : PySem.W.Frag) (mg : Str → Option Value) (base : Heap) (c : Nat) (m : Str) (k n : Nat) (io : List Bool) (f : FM) : Prop where
  ex : ∃ (C g : Addr) (fd : FuncData) (ps : List Str), mg (lay c).1 = some (.ref C) ∧ Cls K C ∧ Meth K C m g ∧ Binds K fd ps [] ∧ FnOk P w K mg base (L2.CX P w) k g fd ps (spM K mg f n io)
/-- its constructor -/
structure FOK (P : Program) (w : World) (K : PySem.W.Frag) (mg : Str → Option Value) (base : Heap) (c : Nat) (k n : Nat) (f : FM) : Prop where
  ex : ∃ (C g : Addr) (fd : FuncData) (ps : List Str), mg (lay c).1 = some (.ref C) ∧ Mk K C g ∧ Binds K fd ps [] ∧ FnOk P w K mg base (L2.CX P w) k g fd ps (spM K mg f n [true])
/-- x.m(..), x the name in slot i -/
def eMeth (c i : Nat) (f : FM) (io : List Bool) (ms : AM) : EM := fun env => match env[i]? with
  | some (.oi c' _) => if c' = c then eCallI f (true :: io) (aCons (eV i) ms) env else .stuck
  | _ => .stuck
/-- C(..) -/
def eMake (c : Nat) (f : FM) (ms : AM) : EM := fun env => (ms env).bind fun os env1 => match aress os env1 with
  | none => .stuck
  | some ws => match f (.oi c [] :: ws) with
    | .ok (.sh .non) [w] => .ok (.val w) env1
    | .err x [_] => .err x env1
    | _ => .stuck
def tMethV (i : Nat) (C : Addr) (m : Str) (sp : Sp) (E : L2.St → XK) (t : TA) : TE := fun σ H Q => ∃ a dx fs, σ[i]? = some (some (.ref a)) ∧ H a = some (.ins C dx fs) ∧ fs.lookup m = none ∧ t σ H fun vs H2 => sp (.ref a :: vs) H2 Q (E σ)
def tMakeS (C : Addr) (sp : Sp) (E : L2.St → XK) (t : TA) : TE := fun σ H Q => t σ H fun vs H1 => ∀ x dx, H1 x = none → H1 dx = none → dx ≠ x → sp (.ref x :: vs) (upd (upd H1 dx (.own x)) x (.ins C dx [])) (fun v H2 => v = .non ∧ Q (.ref x) H2) (E σ)
section
variable {X : Cx} {CX : CXT} {k i : Nat} {f C : Addr} {fd : FuncData} {ps : List Str} {sp : Sp} {E : L2.St → XK} {x m : Str} {p pos apos : Pos} {e : Expr} {es : List Expr} {t : TA}
theorem pe_methV {pl : Sem Bool} (hN : X.N[i]? = some x) (hv : Vis X.env.scope x) (hd : (x == ("__debug__" : Str)) = false) (hcd : (x == ("__classdict__" : Str)) = false) (c : Cls X.K C) (hm : Meth X.K C m f) (F : FnOk X.prog X.w X.K X.mg X.base CX k f fd ps sp)
    (hr : Room k X.A) (hb : Binds X.K fd ps []) (hx : ∀ σ, PassesAt CX X σ (E σ)) (ha : PA X (e :: es) t)
    (hst : starEach (e :: es) X.env = (false, eval e X.env) :: starEach es X.env := by rfl) (hpl : (backTo pos (starEach es X.env)).any (·.1) = false := by rfl)
    (ht : eval (.Call (.Attribute (.Name x p) m apos) (e :: es) [] pos) X.env = (do
      let ov ← eval (.Name x p) X.env
      standAt apos.atName
      let (f, first) ← holding [ov] (getMethod ov m pl)
      callWith pos f first (backTo pos (starEach (e :: es) X.env)) (backToKw pos (keywordEach [] X.env))) := by rfl) :
    PE X (.Call (.Attribute (.Name x p) m apos) (e :: es) [] pos) (tMethV i C m sp E t) := by
  refine ⟨fun pins s σ H Q I ⟨a, dx, fs, hσ, ea, l, q⟩ => ?_⟩
  refine PySem.W.methodCall_KW (pl := pl) (thn ((pe_var (pos := p) hN hv hd hcd).run pins s σ H (fun y H1 => y = .ref a ∧ H1 = H) I ⟨_, hσ, rfl, rfl⟩) fun u s1 ⟨y, H1, I1, rx, ey, eH⟩ => ?_) ht
  subst ey eH
  obtain rfl : u = Value.ref a := rx
  refine getmeth_ok I1 ea c hm l ?_
  refine PySem.W.callWith_K (first := [.ref a]) (h₀ := X.base) I.ok.mod.kin hm.kp (thn (ha.run pos pins s1 σ _ _ I1 q) fun us s2 ⟨vs, H2, I2, r, q2⟩ => ⟨I2.kIn, ?_⟩) hst hpl
  exact run_fnS (us := .ref a :: us) (vs := .ref a :: vs) F hr hb (hx σ) I2 (.cons rfl r) q2
theorem pe_methV0 {pl : Sem Bool} (hN : X.N[i]? = some x) (hv : Vis X.env.scope x) (hd : (x == ("__debug__" : Str)) = false) (hcd : (x == ("__classdict__" : Str)) = false) (c : Cls X.K C) (hm : Meth X.K C m f) (F : FnOk X.prog X.w X.K X.mg X.base CX k f fd ps sp)
    (hr : Room k X.A) (hb : Binds X.K fd ps []) (hx : ∀ σ, PassesAt CX X σ (E σ))
    (ht : eval (.Call (.Attribute (.Name x p) m apos) [] [] pos) X.env = (do
      let ov ← eval (.Name x p) X.env
      standAt apos.atName
      let (f, first) ← holding [ov] (getMethod ov m pl)
      callWith pos f first (backTo pos (starEach [] X.env)) (backToKw pos (keywordEach [] X.env))) := by rfl) :
    PE X (.Call (.Attribute (.Name x p) m apos) [] [] pos) (tMethV i C m sp E tNil) := by
  refine ⟨fun pins s σ H Q I ⟨a, dx, fs, hσ, ea, l, q⟩ => ?_⟩
  refine PySem.W.methodCall_KW (pl := pl) (thn ((pe_var (pos := p) hN hv hd hcd).run pins s σ H (fun y H1 => y = .ref a ∧ H1 = H) I ⟨_, hσ, rfl, rfl⟩) fun u s1 ⟨y, H1, I1, rx, ey, eH⟩ => ?_) ht
  subst ey eH
  obtain rfl : u = Value.ref a := rx
  refine getmeth_ok I1 ea c hm l ?_
  exact PySem.W.callWith_K0 (first := [.ref a]) I1.kIn hm.kp (run_fnS (us := [.ref a]) (vs := [.ref a]) F hr hb (hx σ) I1 (.cons rfl .nil) q)
theorem pe_makeS (M : Mk X.K C f) (F : FnOk X.prog X.w X.K X.mg X.base CX k f fd ps sp) (hr : Room (k + 1) X.A) (hg : Gl X x) (hm : X.mg x = some (.ref C)) (hb : Binds X.K fd ps []) (hx : ∀ σ, PassesAt CX X σ (E σ)) (ha : PA X (e :: es) t)
    (hdb : (x == ("__debug__" : Str)) = false := by decide) (he : starEach (e :: es) X.env = (false, eval e X.env) :: starEach es X.env := by rfl) (hpl : (backTo pos (starEach es X.env)).any (·.1) = false := by rfl) :
    PE X (.Call (.Name x p) (e :: es) [] pos) (tMakeS C sp E t) := by
  refine ⟨fun pins s0 σ H Q I h => wpAny_Call_Name_kw (ld_glob I hg hm (PySem.W.callWith_K (h₀ := X.base) I.ok.mod.kin M.kp (thn (ha.run pos pins s0 σ H _ I h) fun us s ⟨vs, H1, I1, r, q⟩ => ⟨I1.kIn, ?_⟩) he hpl) hdb)⟩
  show wpAny _ _ (call (.ref C) us) _ _ _
  have hq := q (s.heap.objs.size + 1) s.heap.objs.size (I1.hok.fresh (Nat.le_succ _)) (I1.hok.fresh (Nat.le_refl _)) (Nat.ne_of_lt (Nat.lt_succ_self _))
  have I2 := Inv.made (C := C) I1
  have r2 : Vals (V.ref (s.heap.objs.size + 1) :: vs) (Value.ref (s.heap.objs.size + 1) :: us) := .cons rfl r
  have hl : (Value.ref (s.heap.objs.size + 1) :: us).length = ps.length := by
    have z := r2.length
    rw [F.len _ _ _ _ hq] at z
    exact z.symm
  have b := hb _ (Value.ref (s.heap.objs.size + 1) :: us) I2.kIn (by rw [List.append_nil]; exact hl)
  rw [List.append_nil] at b
  refine wpAny_call (make_map (f := f) I1.kIn M.makes M.init (beq_iff_eq.mp M.fn) (codeAny_mono (F.run _ X.stack _ _ ⟨Value.ref (s.heap.objs.size + 1) :: us, []⟩ (Value.ref (s.heap.objs.size + 1) :: us) _ _ (E σ) (hr.make C us [])
    (I2.env0.make C us []) b r2 hq) fun r s' hq' => ?_))
  cases r with
  | error z => exact hx σ pins _ _ z s' I2 hq'
  | ok fl =>
    cases fl with
    | ret u =>
      obtain ⟨v, H', I3, rv, ev, q3⟩ := I2.after hq'
      subst ev
      exact ⟨rv, ⟨V.ref (s.heap.objs.size + 1), H', I3, rfl, q3⟩⟩
    | _ => exact False.elim hq'
end
section
variable {K : PySem.W.Frag} {mg : Str → Option Value} {B B' H H' : Hp} {env env' : En} {σ : L2.St} {fp fp' : Nat → Fp} {Wd : WX} {F : Fp} {Q : VK}
theorem lookup_out {m : Str} : ∀ {fv : List (Str × V)} {ns : List Str}, fv.map (·.1) = ns.take fv.length → m ∉ ns → fv.lookup m = none
  | [], ns, _, _ => rfl
  | p :: fv, [], h, _ => by simp at h
  | (g, x) :: fv, n :: ns, h, hm => by
    simp only [List.map_cons, List.length_cons, List.take_succ_cons, List.cons.injEq] at h
    obtain ⟨h0, h1⟩ := h
    subst h0
    have e2 : (m == g) = false := by simpa using fun z : m = g => hm (by rw [z]; exact List.mem_cons_self)
    simp only [List.lookup, e2]
    exact lookup_out h1 fun z => hm (List.mem_cons_of_mem _ z)
theorem meth_step {c i n : Nat} {f : FM} {io : List Bool} {ms : AM} {C : Addr} {m : Str} (hm : mg (lay c).1 = some (.ref C)) (ho : m ∉ (lay c).2) (hl : ∀ env os env', aCons (eV i) ms env = .ok os env' → os.length = n) (h : tE K mg Wd (eMeth c i f io ms) σ H Q) :
    tMethV i C m (spM K mg f n (true :: io)) (fun σ cls d H => Wd cls d σ H) (tA K mg Wd ms) σ H Q := by
  obtain ⟨B, env, fp, S, r⟩ := h
  unfold eMeth at r
  cases q : env[i]? with
  | none =>
    rw [q] at r
    exact r.elim
  | some w =>
    cases w with
    | oi c' ws =>
      by_cases hc : c' = c
      · subst hc
        simp only [q, if_pos] at r
        obtain ⟨a, C', dx, fv, _, hσ, ha, _, hm', _, hn, _⟩ := S.ownO q
        rw [hm] at hm'
        cases hm'
        refine ⟨a, dx, fv, hσ, ha, lookup_out hn ho, ?_⟩
        have h1 := aCons_step (callI_step (n := n) hl ⟨B, env, fp, S, r⟩)
        obtain ⟨v, hv, h2⟩ := var_step h1
        rw [hσ] at hv
        cases hv
        exact h2
      · simp only [q, if_neg hc] at r
        exact r.elim
    | _ =>
      rw [q] at r
      exact r.elim
theorem make_step {c n : Nat} {f : FM} {ms : AM} {C : Addr} (hm : mg (lay c).1 = some (.ref C)) (hl : ∀ env os env', ms env = .ok os env' → os.length = n) (h : tE K mg Wd (eMake c f ms) σ H Q) :
    tMakeS C (spM K mg f (n + 1) [true]) (fun σ cls d H => Wd cls d σ H) (tA K mg Wd ms) σ H Q := by
  obtain ⟨B, env, fp, S, r⟩ := h
  refine ⟨B, env, fp, S, ?_⟩
  unfold eMake at r
  cases e : ms env with
  | stuck =>
    rw [e] at r
    exact r
  | err x e1 =>
    rw [e] at r
    exact r
  | ok os env1 =>
    rw [e] at r
    simp only [Out.bind] at r
    intro vs B1 H1 fp1 F1 A1 R1
    cases q : aress os env1 with
    | none =>
      rw [q] at r
      exact r.elim
    | some ws =>
      simp only [q] at r
      intro x dx hx hdx ne
      obtain ⟨fa, A, ea⟩ := aress_rep A1.sim R1 q A1.nb
      let H2 : Hp := upd (upd H1 dx (.own x)) x (.ins C dx [])
      have k2 : ∀ {b : Addr} {o : HO}, H1 b = some o → H2 b = some o := fun {b o} hb => by
        show upd (upd H1 dx (.own x)) x (.ins C dx []) b = some o
        rw [upd_ne (ne_of_none hb hx), upd_ne (ne_of_none hb hdx)]
        exact hb
      have hB : ∀ {b : Addr}, H1 b = none → B1 b = none := fun h => le_none A1.sim.le h
      let F0 : Fp := fun b => b = x ∨ b = dx
      have ro : RepW K mg B1 H2 (.oi c []) (.ref x) F0 :=
        .oi (dx := dx) (fv := []) (fp := fun _ => Nil) upd_same (by show upd (upd H1 dx (.own x)) x (.ins C dx []) dx = _; rw [upd_ne ne, upd_same]) hm rfl rfl (fun i w q h => by simp at h) (fun _ _ _ h => h.elim) (fun _ => ⟨id, id⟩) fun b =>
          ⟨fun h => h.elim .inl fun h => .inr (.inl h), fun h => h.elim .inl fun h => h.elim .inr fun ⟨_, h, _⟩ => absurd h (by simp)⟩
      have Ax : Args K mg B1 H2 ws vs fa := ⟨A.len, fun j w v h1 h2 => (A.rep j w v h1 h2).ext (Le.refl B1) fun b o _ hb => k2 hb, A.out, A.dj, A.nb⟩
      have n1 : ∀ b, All fa b → b ≠ x ∧ b ≠ dx := fun b ⟨j, h⟩ => by
        have hj : j < ws.length := by
          rcases Nat.lt_or_ge j ws.length with z | z
          · exact z
          · exact absurd h (A.out j z b)
        have hjv : j < vs.length := by rw [← A.len]; exact hj
        obtain ⟨o, hb, _⟩ := (A.rep j _ _ (List.getElem?_eq_getElem hj) (List.getElem?_eq_getElem hjv)).there b h
        exact ⟨ne_of_none hb hx, ne_of_none hb hdx⟩
      have Ac : Args K mg B1 H2 (.oi c [] :: ws) (.ref x :: vs) _ := .cons ro Ax (fun b h g => by
        obtain ⟨z1, z2⟩ := n1 b g
        exact h.elim z1 z2) fun b h => by
          rcases h with rfl | rfl
          · exact hB hx
          · exact hB hdx
      refine ⟨by rw [List.length_cons, ← R1.len, hl _ _ _ e], B1, _, _, fun b o hb => k2 (A1.sim.le b o hb), Ac, ?_⟩
      -- the slots, beside the call
      have S2 : Sim K mg B1 H2 env1 σ fp1 := A1.sim.ext (Le.refl B1) (fun b o hb => k2 (A1.sim.le b o hb)) (fun b o _ hb => k2 hb) A1.sim.nball
      have g12 : Grow B1 B1 H1 H2 (Or2 (All fp1) F1) (Or2 (All fp1) (Or2 F0 F1)) := ⟨fun b o _ hb => k2 hb, Le.refl B1, fun _ _ h => .inl h, fun b h => by
        rcases h with h | h | h
        · exact .inl (.inl h)
        · rcases h with rfl | rfl
          · exact .inr hx
          · exact .inr hdx
        · exact .inl (.inr h)⟩
      have ap : ∀ b, All fp1 b → ¬ All (fun j => match j with | 0 => F0 | j + 1 => fa j) b := fun b g h => by
        rcases all_cons.mp h with h | h
        · obtain ⟨o, hb, _⟩ := A1.sim.there b g
          rcases h with rfl | rfl
          · rw [hx] at hb
            cases hb
          · rw [hdx] at hb
            cases hb
        · exact A1.apart b ((ea b).mp h) g
      have later : ∀ {B3 H3 : Hp} {G : Fp}, Le B3 H3 → Grow B1 B3 H2 H3 (All fun j => match j with | 0 => F0 | j + 1 => fa j) G → (∀ b, G b → B3 b = none) → Aft K mg B H fp env1 σ B3 H3 fp1 G := fun {B3 H3 G} l g nb => by
        obtain ⟨kk, n2, ap2⟩ := g.beside (G := All fp1) ap S2.nball S2.there
        refine ⟨S2.ext g.bk l kk n2, ?_, fun b h g' => ap2 b g' h, nb⟩
        have g1 : Grow B1 B3 H2 H3 (Or2 (All fp1) (Or2 F0 F1)) (Or2 G (All fp1)) := (g.frame (All fp1)).more fun b h => by
          rcases h with h | h
          · rcases all_cons.mp h with h | h
            · exact .inr (.inl h)
            · exact .inr (.inr ((ea b).mp h))
          · exact .inl h
        exact ((A1.gr.trans g12).trans g1).less fun b h => h.elim .inr .inl
      cases q2 : f (.oi c [] :: ws) with
      | stuck =>
        rw [q2] at r
        exact r.elim
      | ok w outs =>
        rw [q2] at r
        cases w with
        | sh d =>
          cases d with
          | non =>
            cases outs with
            | nil => exact r.elim
            | cons w' outs =>
              cases outs with
              | cons _ _ => exact r.elim
              | nil =>
                intro v B3 H3 F3 Fo l rv ho dj nb g
                cases ho with
                | yes h1 t1 dj1 e1 =>
                  cases t1 with
                  | nil e2 =>
                    cases rv with
                    | sh rv ev =>
                      cases rv
                      refine ⟨rfl, r (.ref x) B3 H3 fp1 _ (later l (g.less fun b h => .inl ((e1 b).mpr (.inl h))) fun b h => nb b (.inl ((e1 b).mpr (.inl h)))) h1⟩
          | _ => exact r.elim
        | _ => exact r.elim
      | err y outs =>
        rw [q2] at r
        cases outs with
        | nil => exact r.elim
        | cons w' outs =>
          cases outs with
          | cons _ _ => exact r.elim
          | nil =>
            intro cls d B3 H3 Fo l ho nb g xr
            exact r cls d B3 H3 fp1 (later l (g.less fun b h => h.elim) fun _ h => h.elim) xr
end
section
variable {X : Cx} {Wd : WX} {pos p apos : Pos} {e : Expr} {es : List Expr} {ms : AM}
theorem se_meth {x m : Str} {c k j n : Nat} {io : List Bool} {f : FM} {pl : Sem Bool} (i : Nat) (G : FOM X.prog X.w X.K X.mg X.base c m k n (true :: io) f) (hr : Room j X.A) (hk : k ≤ j) (tk : Takes X Wd) (ha : SA X Wd (e :: es) ms) (hn : (e :: es).length + 1 = n)
    (hN : X.N[i]? = some x := by rfl) (ho : m ∉ (lay c).2 := by decide) (hv : Vis X.env.scope x := by first | exact Or.inl rfl | exact Or.inr (Or.inl rfl) | exact Or.inr (Or.inr rfl)) (hd : (x == ("__debug__" : Str)) = false := by decide) (hcd : (x == ("__classdict__" : Str)) = false := by decide)
    (hst : starEach (e :: es) X.env = (false, eval e X.env) :: starEach es X.env := by rfl) (hpl : (backTo pos (starEach es X.env)).any (·.1) = false := by rfl)
    (ht : eval (.Call (.Attribute (.Name x p) m apos) (e :: es) [] pos) X.env = (do
      let ov ← eval (.Name x p) X.env
      standAt apos.atName
      let (f, first) ← holding [ov] (getMethod ov m pl)
      callWith pos f first (backTo pos (starEach (e :: es) X.env)) (backToKw pos (keywordEach [] X.env))) := by rfl) :
    SE X Wd (.Call (.Attribute (.Name x p) m apos) (e :: es) [] pos) (eMeth c i f io ms) := by
  obtain ⟨C, g, fd, ps, hm, hc, hme, b, F⟩ := G.ex
  have hl : ∀ env os env', aCons (eV i) ms env = .ok os env' → os.length = n := (show ∀ env os env', aCons (eV i) ms env = .ok os env' → os.length = n from fun env os env' q => by
    unfold aCons at q
    cases e1 : eV i env with
    | ok o env1 =>
      cases e2 : ms env1 with
      | ok os' env2 =>
        simp only [e1, e2, Out.bind] at q
        cases q
        rw [List.length_cons, ha.len _ _ _ e2]
        exact hn
      | err x e3 => simp only [e1, e2, Out.bind] at q; cases q
      | stuck => simp only [e1, e2, Out.bind] at q; cases q
    | err x e3 => simp only [e1, Out.bind] at q; cases q
    | stuck => simp only [e1, Out.bind] at q; cases q)
  exact PE.less (pe_methV (E := fun σ cls d H => Wd cls d σ H) (pl := pl) hN hv hd hcd hc hme F (hr.mono hk) b (fun σ => passAt tk σ) ha.pa hst hpl ht) fun σ H Q h => meth_step hm ho hl h
theorem se_meth0 {x m : Str} {c k j : Nat} {f : FM} {pl : Sem Bool} (i : Nat) (G : FOM X.prog X.w X.K X.mg X.base c m k 1 [true] f) (hr : Room j X.A) (hk : k ≤ j) (tk : Takes X Wd)
    (hN : X.N[i]? = some x := by rfl) (ho : m ∉ (lay c).2 := by decide) (hv : Vis X.env.scope x := by first | exact Or.inl rfl | exact Or.inr (Or.inl rfl) | exact Or.inr (Or.inr rfl)) (hd : (x == ("__debug__" : Str)) = false := by decide) (hcd : (x == ("__classdict__" : Str)) = false := by decide)
    (ht : eval (.Call (.Attribute (.Name x p) m apos) [] [] pos) X.env = (do
      let ov ← eval (.Name x p) X.env
      standAt apos.atName
      let (f, first) ← holding [ov] (getMethod ov m pl)
      callWith pos f first (backTo pos (starEach [] X.env)) (backToKw pos (keywordEach [] X.env))) := by rfl) :
    SE X Wd (.Call (.Attribute (.Name x p) m apos) [] [] pos) (eMeth c i f [] aNil) := by
  obtain ⟨C, g, fd, ps, hm, hc, hme, b, F⟩ := G.ex
  have hl : ∀ env os env', aCons (eV i) aNil env = .ok os env' → os.length = 1 := fun env os env' q => by
    unfold aCons at q
    cases e1 : eV i env with
    | ok o env1 =>
      simp only [e1, aNil, Out.bind] at q
      cases q
      rfl
    | err x e3 => simp only [e1, Out.bind] at q; cases q
    | stuck => simp only [e1, Out.bind] at q; cases q
  exact PE.less (pe_methV0 (E := fun σ cls d H => Wd cls d σ H) (pl := pl) hN hv hd hcd hc hme F (hr.mono hk) b (fun σ => passAt tk σ) ht) fun σ H Q h =>
    let ⟨a, dx, fs, h1, h2, h3, h4⟩ := meth_step hm ho hl h
    ⟨a, dx, fs, h1, h2, h3, aNil_step h4⟩
theorem se_make {x : Str} {c k j n : Nat} {f : FM} (G : FOK X.prog X.w X.K X.mg X.base c k n f) (hx : (lay c).1 = x) (hr : Room j X.A) (hk : k + 1 ≤ j) (tk : Takes X Wd) (hg : Gl X x) (ha : SA X Wd (e :: es) ms) (hn : (e :: es).length + 1 = n)
    (hdb : (x == ("__debug__" : Str)) = false := by decide) (he : starEach (e :: es) X.env = (false, eval e X.env) :: starEach es X.env := by rfl) (hpl : (backTo pos (starEach es X.env)).any (·.1) = false := by rfl) :
    SE X Wd (.Call (.Name x p) (e :: es) [] pos) (eMake c f ms) := by
  obtain ⟨C, g, fd, ps, hm, hmk, b, F⟩ := G.ex
  subst hn
  refine PE.less (pe_makeS (E := fun σ cls d H => Wd cls d σ H) hmk F (hr.mono hk) hg (by rw [← hx]; exact hm) b (fun σ => passAt tk σ) ha.pa hdb he hpl) fun σ H Q h => make_step hm (fun env os env' q => ha.len env os env' q) h
end
end Mi
set_option maxRecDepth 100000
/-! Mi15: exceptions. -/
namespace Mi
open PySem PySem.Spec PyProof.Rows L2

/-! ### raise C('..') -/
structure EXC (K : PySem.W.Frag) (mg : Str → Option Value) (id : Nat) : Prop where
  ex : ∃ C : Addr, mg (exNm id) = some (.ref C) ∧ PySem.W.excIn K C He.veBase "ValueError.__new__" = true ∧ PySem.W.keepIn K (.ref C) = true ∧ PySem.W.subIn K (.ref C) (.type "BaseException") = some true ∧ PySem.W.typeIn K (.ref C) = some (.type "type")
def sRaise (id : Nat) : SM := fun env => .err ⟨id, none⟩ env
section
variable {X : Cx} {Wd : WX} {kp : Kp} {pos p p2 pos2 : Pos} {x m : Str} {j : Nat}
theorem ss_raise (id : Nat) (F : EXC X.K X.mg id) (hx : exNm id = x) (hc : X.calm = true) (tk : Takes X Wd) (hg : Gl X x) (hdb : (x == ("__debug__" : Str)) = false := by decide) :
    SS X Wd kp (.Raise (some (.Call (.Name x p) [.Constant (.str m) j p2] [] pos2)) none pos) (sRaise id) := by
  obtain ⟨C, h1, h2, h3, h4, h5⟩ := F.ex
  refine PS.less (ps_raise hc tk (pmk_own PySem.F.excBase_ValueError h2 (by rw [← hx]; exact h1) h3 (raises_own h4 h5) hg hdb)) fun D σ H h => ?_
  obtain ⟨B, env, fp, S, r⟩ := h
  exact r (.ref C) none σ B H fp (Aft.refl S) (Keep.refl _ _) ⟨h1, rfl⟩
end

/-! ### raise InvalidWords(e) -/
def oexB (K : PySem.W.Frag) (C : Addr) : Bool := (match K.lookup C with
  | some ⟨.type "type", _, .cls cd, sl⟩ => (match cd.mro, sl.toList with
    | .ref C' :: bm, [_, _, _, _, some (.builtin n), _] => C' == C && n == "ValueError.__new__" && !cd.hasDel && cd.hasDict && PySem.HandSPX.refsVE bm
    | _, _ => false)
  | _ => false) && (decide (PySem.W.findIn K (.ref C) "__setattr__" = some (some (.builtin "object.__setattr__"))) && (decide (PySem.W.subIn K (.ref C) (.type "BaseException") = some true) &&
    (decide (PySem.W.typeIn K (.ref C) = some (.type "type")) && PySem.W.keepIn K (.ref C))))
theorem oexB_ok {K : PySem.W.Frag} {C : Addr} (h : oexB K C = true) : OexC K C := by
  obtain ⟨q, h⟩ := Bool.and_eq_true_iff.mp h
  obtain ⟨h2, h⟩ := Bool.and_eq_true_iff.mp h
  obtain ⟨h3, h⟩ := Bool.and_eq_true_iff.mp h
  obtain ⟨h4, h5⟩ := Bool.and_eq_true_iff.mp h
  refine ⟨?_, of_decide_eq_true h2, of_decide_eq_true h3, of_decide_eq_true h4, h5⟩
  split at q
  · rename_i dd cd sl ho
    split at q
    · rename_i C' bm k0 k1 k2 k3 n k5 hm hs
      simp only [Bool.and_eq_true, beq_iff_eq, Bool.not_eq_true'] at q
      obtain ⟨⟨⟨⟨rfl, rfl⟩, hdel⟩, hhd⟩, hbm⟩ := q
      obtain ⟨nm, bs, mro, ns, qn, hd, sn, sub, ab, col, del⟩ := cd
      dsimp only at hm hdel hhd
      subst hm hdel hhd
      have hsl : sl = #[k0, k1, k2, k3, some (.builtin "ValueError.__new__"), k5] := by
        obtain ⟨l⟩ := sl
        simp only at hs
        rw [hs]
      subst hsl
      exact ⟨nm, qn, ns, bs, bm, sn, sub, ab, col, dd, k0, k1, k2, k3, k5, ho, hbm⟩
    · cases q
  · cases q
/-- what InvalidWords.__init__ does -/
def spPl (K : PySem.W.Frag) : Sp := fun vs H Q _ => ∃ (a C : Addr) (n : Int), vs = [.ref a, .int n] ∧ OexC K C ∧ PySem.W.findIn K (.ref C) "place" = some none ∧ H a = some (exo a C none) ∧
  ∀ dx, H dx = none → dx ≠ a → Q .non (upd (upd H dx (exd dx [("place", .int n)])) a (exo a C (some dx)))
structure EXW (P : Program) (w : World) (K : PySem.W.Frag) (mg : Str → Option Value) (base : Heap) (k : Nat) : Prop where
  ex : ∃ (C fI : Addr) (fd : FuncData) (ps : List Str), mg ("InvalidWords" : Str) = some (.ref C) ∧ OexC K C ∧ PySem.W.findIn K (.ref C) "__init__" = some (some (.ref fI)) ∧ PySem.W.typeIn K (.ref fI) = some (.type "function") ∧
    PySem.W.findIn K (.ref C) "place" = some none ∧ Binds K fd ps [] ∧ FnOk P w K mg base (L2.CX P w) k fI fd ps (spPl K)
theorem exw_of {P : Program} {w : World} {K : PySem.W.Frag} {mg : Str → Option Value} {base : Heap} {C fI : Addr} {nm qual : Str} {params : Arguments} {bd : List Stmt} {scope : Scope} {fd : FuncData} {p1 p2 p3 pos : Pos}
    (F : FunD K nm qual params bd scope [] [] fI fd) (hbd : bd = [.Assign [.Attribute (.Name "self" p1) "place" p2] (.Name "place" p3) pos]) (S : FnScope ["self", "place"] ["self", "place"] scope)
    (v1 : scope.names.lookup ("self" : Str) = some .local) (v2 : scope.names.lookup ("place" : Str) = some .local)
    (hb : ∀ (kV doc pm : Value) (an : Option Addr) (cdv ct : Value) (us : List Value), us.length = 2 → bindArgs (PySem.W.fnOf nm qual params bd scope .none kV doc pm an cdv ct) ⟨us, []⟩ = pure ((["self", "place"] : List Str).zip us))
    (hm : mg ("InvalidWords" : Str) = some (.ref C)) (h1 : OexC K C) (h2 : PySem.W.findIn K (.ref C) "__init__" = some (some (.ref fI))) (h3 : PySem.W.typeIn K (.ref fI) = some (.type "function")) (h4 : PySem.W.findIn K (.ref C) "place" = some none) :
    EXW P w K mg base 1 := by
  subst hbd
  refine ⟨C, fI, fd, ["self", "place"], hm, h1, h2, h3, h4, F.bindsN hb, FunD.ok F S (fun vs H Q E ⟨a, C, n, e, _⟩ => by rw [e]; rfl) fun cdv A outer s H vs Q E hr h => ⟨_, pss_one (ps_ost (pe_var (i := 0) rfl (.inl v1) (by decide) (by decide)) (pe_var (i := 1) rfl (.inl v2) (by decide) (by decide)) (by rfl)), ?_⟩⟩
  obtain ⟨a, C', n, rfl, hC, hp, ha, hq⟩ := h
  exact ⟨_, rfl, _, rfl, a, C', rfl, hC, hp, .inl ⟨ha, fun dx n1 n2 => hq dx n1 n2⟩⟩
def sRaiseW (m : EM) : SM := fun env => (m env).bind fun o env1 => match res o env1 with
  | some (.int n) => .err ⟨16, some n⟩ env1
  | _ => .stuck
section
variable {X : Cx} {Wd : WX} {kp : Kp} {pos p pos2 : Pos} {e : Expr} {m : EM}
theorem ss_raiseW {k j : Nat} (F : EXW X.prog X.w X.K X.mg X.base k) (hr : Room j X.A) (hk : k + 1 ≤ j) (hc : X.calm = true) (tk : Takes X Wd) (hg : Gl X "InvalidWords") (he : SE X Wd e m)
    (hs : starEach [e] X.env = (false, eval e X.env) :: starEach [] X.env := by rfl) (hpl : (backTo pos2 (starEach [] X.env)).any (·.1) = false := by rfl) :
    SS X Wd kp (.Raise (some (.Call (.Name "InvalidWords" p) [e] [] pos2)) none pos) (sRaiseW m) := by
  obtain ⟨C, fI, fd, ps, hm, h1, h2, h3, h4, b, F1⟩ := F.ex
  have hx : Passes (L2.CX X.prog X.w) X (fun _ _ _ => False) := fun pins σ H s e s' I ⟨a, B, H', cls, d, _, _, _, _, _, _, _, z⟩ => z.elim
  refine PS.less (ps_raise hc tk (pmk_oex (dvs := []) h1 h2 h3 F1 (hr.mono hk) b .nil hx hg hm (pa_cons he pa_nil hs) (by decide) hs hpl)) fun D σ H h => ?_
  obtain ⟨B, env, fp, S, r⟩ := h
  unfold sRaiseW at r
  refine exp_step S r fun o env1 r v B1 H1 fp1 F1' A R => ?_
  cases q : res o env1 with
  | none =>
    rw [q] at r
    exact r.elim
  | some d =>
    have rr := res_rep A.sim R q
    rw [q] at r
    cases d with
    | int n =>
      cases repO_int rr
      refine ⟨by show 1 ≤ 1000; decide, fun a ha => ⟨a, C, n, rfl, h1, h4, upd_same, fun dx n1 n2 => ⟨rfl, dx, [("place", .int n)], upd_same, ?_, ?_, ?_⟩⟩⟩
      · rw [upd_ne n2, upd_same]
      · rw [upd_ne n2] at n1
        exact n1
      · rw [upd_ne n2] at n1
        have keep : ∀ b o, H1 b = some o → upd (del (upd (upd (upd H1 a (exo a C none)) dx (exd dx [("place", .int n)])) a (exo a C (some dx))) a) dx (.xd [("place", .int n)]) b = some o := fun b o hb => by
          have e1 := ne_of_none hb ha
          have e2 := ne_of_none hb n1
          rw [upd_ne e2, del_ne e1, upd_ne e1, upd_ne e2, upd_ne e1]
          exact hb
        refine r (.ref C) (some dx) σ B1 _ fp1 ⟨A.sim.ext (Le.refl B1) (fun b o hb => keep b o (A.sim.le b o hb)) (fun b o _ hb => keep b o hb) A.sim.nball, ?_, fun _ z => z.elim, fun _ z => z.elim⟩ (Keep.refl _ _) ⟨hm, dx, rfl, upd_same⟩
        exact (A.drop.gr.trans (⟨fun b o _ hb => keep b o hb, Le.refl B1, fun _ _ h => .inl h, fun _ h => .inl h⟩ : Grow B1 B1 H1 _ (Or2 (All fp1) Nil) (Or2 (All fp1) Nil)))
    | _ => exact r.elim
end

/-! ### try .. except C as e: x = e.place -/
/-- which of the program's exceptions the clause takes -/
def XM (K : PySem.W.Frag) (mg : Str → Option Value) (c : Value) (hs : Nat → Bool) : Prop := ∀ (id : Nat) (cls : Value), mg (exNm id) = some cls → PySem.W.exmOne K cls c = some (hs id)
def sTryGet (hs : Nat → Bool) (i j : Nat) (body : SM) : SM := fun env => match body env with
  | .err x env1 => if hs x.id = true then match x.arg, env1[i]? with
    | some n, some _ => .ok .nx ((env1.set j (.sh (.int n))).set i .gone)
    | _, _ => .stuck else .err x env1
  | r => r
section
variable {K : PySem.W.Frag} {mg : Str → Option Value} {B B' H H' : Hp} {env env' : En} {σ σ1 : L2.St} {fp fp' : Nat → Fp} {Wd : WX} {F : Fp} {kp : Kp} {D D' : Ends} {Q : VK}
theorem Sim.forget (S : Sim K mg B H env σ fp) {i : Nat} (hi : ∀ w, env[i]? = some w → w = .gone) : Sim K mg B H env (σ.set i none) fp := by
  refine ⟨by simpa using S.len, S.le, fun j w e => ?_, S.out, S.dj, S.nb⟩
  obtain ⟨v, h, r⟩ := S.rep j w e
  refine ⟨v, fun n => ?_, r⟩
  by_cases q : i = j
  · subst q
    exact absurd (hi w e) n
  · rw [List.getElem?_set_ne q]
    exact h n
theorem tryGet_step {hs : Nat → Bool} {i j : Nat} {body : SM} {c : Value} {C0 : Addr} (hi : kp i = false) (hj : kp j = false) (hij : i ≠ j) (hX : XM K mg c hs) (hC : ∀ (x : Ex) n, hs x.id = true → x.arg = some n → mg (exNm x.id) = some (.ref C0)) (h : tS K mg Wd kp (sTryGet hs i j body) D σ H) :
    tS K mg (wAs K c i (fun a cls d => tAsg (tXf a cls d C0 "place" (tVar i)) (gName j)) Wd D) kp body D σ H := by
  obtain ⟨B, env, fp, S, r⟩ := h
  refine ⟨B, env, fp, S, ?_⟩
  unfold sTryGet at r
  cases e : body env with
  | stuck =>
    rw [e] at r
    exact r
  | ok f env1 =>
    rw [e] at r
    cases f with
    | nx => exact r
    | bk => exact r
    | ct => exact r
    | rt w => exact r
  | err x env1 =>
    rw [e] at r
    intro cls d σ' B' H' fp' A k xr
    have hcls := xr.1
    refine ⟨hs x.id, hX x.id cls hcls, fun hb a ha => ?_, fun hb => ?_⟩
    · simp only [if_pos hb] at r
      cases q : x.arg with
      | none =>
        rw [q] at r
        exact r.elim
      | some n =>
        cases q0 : env1[i]? with
        | none =>
          rw [q, q0] at r
          exact r.elim
        | some w0 =>
          rw [q, q0] at r
          have hxr := xr.2
          rw [q] at hxr
          obtain ⟨dd, ed, hd⟩ := hxr
          have hcc := hC x n hb q
          rw [hcls] at hcc
          cases hcc
          have li : i < σ'.length := by
            rw [← A.sim.len]
            exact (List.getElem?_eq_some_iff.mp q0).1
          refine ⟨_, List.getElem?_set_self li, rfl, rfl, dd, _, _, ed, hd, rfl, ?_⟩
          show D.nx (((σ'.set i (some (.ref a))).set j (some (.int n))).set i none) H'
          obtain ⟨fp1, A1⟩ := (A.drop).put (w := .sh (.int n)) (v := .int n) (.sh (.int n) nil_no) j
          have li1 : i < (env1.set j (W.sh (.int n))).length := by rw [A1.sim.len]; simpa using li
          have S2 : Sim K mg B' H' ((env1.set j (.sh (.int n))).set i .gone) (σ'.set j (some (.int n))) (fpS fp1 i Nil) := A1.sim.turn (v := .non) li1 (fun z => absurd rfl z) (.gone nil_no) (fun _ z => z.elim) fun _ z => z.elim
          have S3 := S2.forget (i := i) fun w e => by
            rw [List.getElem?_set_self li1] at e
            cases e
            rfl
          have es : ((σ'.set i (some (.ref a))).set j (some (.int n))).set i none = (σ'.set j (some (.int n))).set i none := by
            rw [List.set_comm _ _ hij, List.set_set, List.set_comm _ _ (Ne.symm hij)]
          rw [es]
          refine r _ B' H' _ ⟨S3, A1.gr.less fun b h => ?_, fun _ z => z.elim, fun _ z => z.elim⟩ (k.trans fun z hz => ?_)
          · rcases h with h | h
            · rcases all_set h with h | h
              · exact .inl h
              · exact h.elim
            · exact h.elim
          · rw [List.getElem?_set_ne (fun y => by rw [y, hz] at hi; cases hi), List.getElem?_set_ne (fun y => by rw [y, hz] at hj; cases hj)]
    · simp only [if_neg (show ¬ hs x.id = true by rw [hb]; decide)] at r
      exact r cls d σ' B' H' fp' A k xr
end
end Mi
set_option maxRecDepth 100000
/-! Mi16: more loops. -/
namespace PySem
open AutoSeq1 (wpAny_loadPart')
theorem meets_enumerate_newTu (l : Addr) (items : Array Value) (n : Nat) (dct : Option Addr) (sl : Array (Option Value)) :
    Meets (Builtin.«enumerate.__new__» ⟨[.type "enumerate", .ref l], []⟩) (fun _ R s => s.heap.get? l = some { cls := .type "tuple", dict := dct, data := .seq items n, slots := sl } ∧
      R (.ok (.ret (.ref (s.heap.push { cls := .type "tuple_iterator", data := .fields #[.ref l, .int 0 0] }).objs.size)))
        { s with heap := (s.heap.push { cls := .type "tuple_iterator", data := .fields #[.ref l, .int 0 0] }).push { cls := .type "enumerate", data := .fields #[.none, .bool false, .ref s.heap.objs.size, rawInt 0, .none, .none] } }) :=
  .of_wp fun prog w A R s h => by
    obtain ⟨hp, g, d, tk, os⟩ := s; obtain ⟨hl, h⟩ := h
    have hsub := sub_enumerate
    have hL : Heap.IsTuple (Shared.heap ⟨hp, g, d, tk, os⟩) l items := ⟨_, hl, rfl, n, rfl⟩
    wp_walk using wpAny_loadPart' hl
    refine wpAny_stack_any fun st => wpAny_pure ?_
    split
    · rename_i c _ _ _ _ _
      cases (c == Value.type "enumerate")
      · wp_walk using wpAny_loadPart' hl, wpAny_pyIter_tuple hL
        exact ⟨_, rfl, h⟩
      · wp_walk using wpAny_loadPart' hl, wpAny_pyIter_tuple hL
        exact ⟨_, rfl, h⟩
    · wp_walk using wpAny_loadPart' hl, wpAny_pyIter_tuple hL
      exact ⟨_, rfl, h⟩
theorem call_enumerate_tuple {prog : Program} {w : World} {A : Around} {E : Value → Shared → Prop} {s : Shared} {l : Addr} {items : Array Value} {Q : Value → Shared → Prop} (hL : s.heap.IsTuple l items)
    (h : ∀ h', IsEnum h' (s.heap.objs.size + 1) s.heap.objs.size 0 .none → h'.IsTupleIter s.heap.objs.size l 0 → h'.objs.size = s.heap.objs.size + 2 →
      (∀ b o, s.heap.get? b = some o → h'.get? b = some o) → Q (.ref (s.heap.objs.size + 1)) { s with heap := h' }) :
    wpAny (model prog w) A (call (.type "enumerate") [.ref l]) Q E s := by
  obtain ⟨⟨c, dct, dt, sl⟩, hl, hc, n, hd⟩ := hL
  replace hc : c = .type "tuple" := hc
  replace hd : dt = .seq items n := hd
  subst hc hd
  refine callType_new F.called_enumerate (by decide) (F.typeCall_enumerate_1 _) (F.newCall_enumerate_1 _) (fun obj => F.args_object_init_2 obj _) F.entry_enumerate_new
    (meets_enumerate_newTu l items n dct sl) ⟨hl, ?_⟩
  have hz : (s.heap.push { cls := .type "tuple_iterator", data := .fields #[.ref l, .int 0 0] }).objs.size = s.heap.objs.size + 1 := Heap.size_push ..
  show _ ∧ _
  rw [hz]
  have he : IsEnum ((s.heap.push { cls := .type "tuple_iterator", data := .fields #[.ref l, .int 0 0] }).push
      { cls := .type "enumerate", data := .fields #[.none, .bool false, .ref s.heap.objs.size, rawInt 0, .none, .none] }) (s.heap.objs.size + 1) s.heap.objs.size 0 .none := by
    have := Heap.get?_push_size (s.heap.push { cls := .type "tuple_iterator", data := .fields #[.ref l, .int 0 0] })
      (o := { cls := .type "enumerate", data := .fields #[.none, .bool false, .ref s.heap.objs.size, rawInt 0, .none, .none] }) rfl
    rw [hz] at this; exact this
  refine ⟨⟨_, he, rfl⟩, h _ he ⟨_, Heap.get?_push_of_some _ (Heap.get?_push_size _ rfl), rfl, rfl⟩ (by rw [Heap.size_push, hz]) fun b o x => Heap.get?_push_of_some _ (Heap.get?_push_of_some _ x)⟩
end PySem
namespace Mi
open PySem PySem.Spec PyProof.Rows L2
/-- the tuple at a, each item in a new pair -/
def Iteu (K : PySem.W.Frag) (a : Addr) (n : Nat) : It :=
  ⟨fun i H => ∃ (xs : List V) (x : V), SqT K H a xs ∧ xs.length = n ∧ xs[i]? = some x, fun i H v H' => ∃ T x, v = .ref T ∧ H T = none ∧ H' = upd H T (.tup [.int (i : Nat), x]) ∧ ∀ xs, SqT K H a xs → xs[i]? = some x, fun i H => ∃ xs : List V, SqT K H a xs ∧ xs.length = n ∧ n ≤ i⟩
theorem turn_enumT {P : Program} {w : World} {K : PySem.W.Frag} {elts : List Expr} {kk : Nat} {tpos : Pos} (a e it : Addr) (n : Nat) :
    Turn P w K (.Tuple elts kk tpos) (Iteu K a n) [e, it] e (fun i h => (∃ old, IsEnum h e it ((i : Nat) : Int) old) ∧ h.IsTupleIter it a i ∧ e ≠ it ∧ i ≤ n) where
  mem := by simp
  obj := fun i h st b hb => by
    obtain ⟨⟨old, he⟩, ⟨o, ho, hc, hd⟩, _⟩ := st
    have e' : b = e ∨ b = it := by simpa using hb
    rcases e' with z | z
    · rw [z]; exact ⟨_, he, fun v q => nomatch q⟩
    · rw [z]; exact ⟨o, ho, fun v q => by rw [hd] at q; cases q⟩
  keep := fun i h h' st k => let ⟨⟨old, he⟩, hi, hne, hl⟩ := st; ⟨⟨old, k e (by simp) _ he⟩, hi.at fun o q => k it (by simp) o q, hne, hl⟩
  item := by
    intro X hP hw hK hc i pins s σ H E I hf st hg
    subst hP hw hK
    obtain ⟨⟨old, he⟩, hit, hne, _⟩ := st
    obtain ⟨xs, x, hq, hn, hx⟩ := hg
    obtain ⟨its, rv, p, hz⟩ := I.tuple hq
    obtain ⟨u, hu, ru⟩ := rv.get hx
    have hel : e < s.heap.objs.size := Heap.lt_size he
    have hil : it < s.heap.objs.size := by obtain ⟨_, q, _⟩ := hit; exact Heap.lt_size q
    have no : ∀ {b : Addr} {o : Obj} {c : String}, s.heap.get? b = some o → o.cls = .type c → c ≠ "tuple" → a ≠ b := fun {b o c} e1 c1 nc z => by
      obtain ⟨o2, e2, c2, n2, d2⟩ := p
      rw [z, e1] at e2
      cases e2
      rw [c1] at c2
      exact nc (Value.type.inj c2)
    have hta : a ≠ it := by
      obtain ⟨o, e1, c1, d1⟩ := hit
      exact no e1 c1 (by decide)
    have hte : a ≠ e := no he rfl (by decide)
    have hi : i < its.toArray.size := by
      obtain ⟨z, _⟩ := List.getElem?_eq_some_iff.mp hu
      simpa using z
    refine wpAny_pyNext_enum_itemD (Draws.tuple (A := X.A.in1) (I.ok.hd hc) it a hta its.toArray) he ⟨hit, p⟩ hi hne (by simp [hne, Ne.symm hte]) fun x' h' tk hx' ho hst hT hsz hk => ?_
    have ex : x' = u := by
      have z : its[i]? = some x' := by simpa using hx'
      rw [hu] at z
      exact (Option.some.inj z).symm
    subst ex
    refine ⟨_, rfl, wpAny_letOwnedTupleGo_enum (s := { s with heap := h', toks := tk + 1 }) ho fun h'' he' sb => ?_⟩
    have hT2 : h''.get? s.heap.objs.size = some { cls := .type "tuple", data := .seq #[.int i tk, x'] } := (sb.2 _ (Nat.ne_of_gt hel)).trans hT
    have new : ObjOk X.prog X.w (upd H s.heap.objs.size (.tup [.int (i : Nat), x])) h'' s.heap.objs.size (.tup [.int (i : Nat), x]) :=
      ⟨by show 2 ≤ sizeLine; decide, [.int i tk, x'], .cons ⟨_, rfl⟩ (.cons ru .nil), ⟨_, hT2, rfl, _, rfl⟩⟩
    have I1 : Inv X pins σ (upd H s.heap.objs.size (.tup [.int (i : Nat), x])) { s with heap := h'', toks := tk + 1 } :=
      I.turnedNew (ch := [e, it]) (fun b ob hb q => (sb.2 b (fun z => hb (by simp [z]))).trans (hk b ob (fun z => hb (by simp [z])) (fun z => hb (by simp [z])) q)) hf (Nat.le_refl _) new
    have hl := rv.length
    refine ⟨.ref s.heap.objs.size, _, I1, rfl, ⟨_, x, rfl, I.hok.fresh (Nat.le_refl _), rfl, fun ys hy => by rw [I.tuple_inj hy hq]; exact hx⟩, ⟨⟨x', ?_⟩, hst.1.at fun o q => (sb.2 it (Ne.symm hne)).trans q, hne, ?_⟩, fun b hb => ?_⟩
    · have e1 : ((i + 1 : Nat) : Int) = (i : Int) + 1 := by omega
      rw [e1]; exact he'
    · rw [List.size_toArray] at hi
      omega
    · have hb' : b < s.heap.objs.size := by
        have e' : b = e ∨ b = it := by simpa using hb
        rcases e' with z | z
        · rw [z]; exact hel
        · rw [z]; exact hil
      rw [upd_ne (Nat.ne_of_lt hb')]
      exact (hf b hb).1
  done := by
    intro X hP hw hK hc i pins s σ H E I hf st hg
    subst hP hw hK
    obtain ⟨⟨old, he⟩, hit, hne, hle⟩ := st
    obtain ⟨xs, hq, hn, hx⟩ := hg
    obtain ⟨its, rv, p, hz⟩ := I.tuple hq
    obtain ⟨f0, f1, f2, f3, f4, f5⟩ := hf it (by simp)
    have hl := rv.length
    have hta : a ≠ it := fun z => by
      obtain ⟨o, e1, c1, d1⟩ := hit
      obtain ⟨o2, e2, c2, n2, d2⟩ := p
      rw [z, e1] at e2
      cases e2
      rw [c1] at c2
      exact absurd (Value.type.inj c2) (by decide)
    have ei : i = its.toArray.size := by
      rw [List.size_toArray]
      omega
    have hit' : s.heap.IsTupleIter it a its.toArray.size := by rw [← ei]; exact hit
    exact wpAny_pyNext_enum_endD (Draws.tuple (A := X.A.in1) (I.ok.hd hc) it a hta its.toArray) he ⟨hit', p⟩ fun h' eb => ⟨rfl, I.turned (t' := s.toks) (fun b o hb q => eb b o hb q) f0 f1 f3 f4 f5⟩
  self := fun A i s Q E st h => let ⟨⟨_, he⟩, _⟩ := st; wpAny_pyIter_enum he h
def iEnumT (K : PySem.W.Frag) (ta : TA) : TI := fun σ H R => ta σ H fun vs H1 => ∃ a xs, vs = [.ref a] ∧ SqT K H1 a xs ∧ R (Iteu K a xs.length) H1
theorem pi_enumT {X : Cx} {e : Expr} {ta : TA} {p pos tpos : Pos} {elts : List Expr} {kk : Nat} (hg : Gl X "enumerate") (hm : X.mg "enumerate" = none) (ha : PA X [e] ta) (hs : starEach [e] X.env = [(false, eval e X.env)] := by rfl) :
    PI X (.Tuple elts kk tpos) (.Call (.Name "enumerate" p) [e] [] pos) (iEnumT X.K ta) := by
  refine ⟨fun pins s σ H R I h => ?_⟩
  refine Call_ (ld_blt I hg hm boot_enumerate (PyProof.Rows.callWith_type1 (thn (ha.run pos pins s σ H _ I h) fun us s1 ⟨vs, H1, I1, r1, q1⟩ => ?_) hs rfl))
  obtain ⟨a, xs, ex, hq, q⟩ := q1
  subst ex
  cases r1 with
  | cons r rr =>
    cases rr
    cases r
    obtain ⟨its, rv, p', hz⟩ := I1.tuple hq
    refine call_enumerate_tuple p' fun h' he hit hsz hk => wpAny_pyIter_enum he ?_
    have I2 : Inv X pins σ H1 { s1 with heap := h' } := I1.kept (t' := s1.toks) hk
    refine ⟨s1.heap.objs.size + 1, [s1.heap.objs.size + 1, s1.heap.objs.size], _, _, H1, rfl, I2, turn_enumT a (s1.heap.objs.size + 1) s1.heap.objs.size xs.length, ⟨⟨.none, he⟩, hit, Nat.succ_ne_self _, Nat.zero_le _⟩, fun b hb => ?_, q⟩
    have e' : b = s1.heap.objs.size + 1 ∨ b = s1.heap.objs.size := by simpa using hb
    have hle : s1.heap.objs.size ≤ b := by
      rcases e' with z | z
      · rw [z]; exact Nat.le_add_right _ _
      · rw [z]; exact Nat.le_refl _
    exact I1.fpOk hle (I1.hok.fresh hle)
end Mi
set_option maxRecDepth 100000
/-! Mi17: loops over texts, enumerate; a, b = x, y; keywords, defaults. -/
namespace Mi
open PySem PySem.Spec PyProof.Rows L2

/-! ### for c in a text -/
def signs (z : Str) : List D := z.cps.toList.map fun c => .str ⟨#[c]⟩
noncomputable def sForS (m : EM) (t : Tg) (body : SM) : SM := fun env => (m env).bind fun o env1 => match res o env1 with
  | some (.str z) => forGo (fun _ => True) t body (signs z) env1
  | _ => .stuck
/-! ### for i, x in enumerate(e), e shared -/
def enumD : Nat → List D → List D
  | _, [] => []
  | k, d :: ds => .tup [.int k, d] :: enumD (k + 1) ds
def shO : O → En → Option D
  | .val (.sh d), _ => some d
  | .slot i, env => match env[i]? with
    | some (.sh d) => some d
    | _ => none
  | _, _ => none
noncomputable def sForE (m : EM) (t : Tg) (body : SM) : SM := fun env => (m env).bind fun o env1 => match (shO o env1).bind seqD with
  | some ds => forGo (fun _ => True) t body (enumD 0 ds) env1
  | none => .stuck
theorem enumD_len : ∀ (k : Nat) (ds : List D), (enumD k ds).length = ds.length
  | _, [] => rfl
  | k, d :: ds => by rw [enumD, List.length_cons, enumD_len, List.length_cons]
theorem enumD_get : ∀ {k i : Nat} {ds : List D} {d : D}, (enumD k ds)[i]? = some d → ∃ e, ds[i]? = some e ∧ d = .tup [.int ((k + i : Nat) : Int), e]
  | k, i, [], d, h => by cases h
  | k, 0, e :: ds, d, h => by
    cases h
    exact ⟨e, rfl, rfl⟩
  | k, i + 1, e :: ds, d, h => by
    rw [enumD, List.getElem?_cons_succ] at h
    obtain ⟨e', h1, h2⟩ := enumD_get h
    refine ⟨e', by rw [List.getElem?_cons_succ]; exact h1, ?_⟩
    rw [h2, show k + 1 + i = k + (i + 1) by omega]
section
variable {K : PySem.W.Frag} {mg : Str → Option Value} {B B' H H' : Hp} {env env' : En} {σ σ1 : L2.St} {fp fp' : Nat → Fp} {Wd : WX} {F : Fp} {kp kp' : Kp} {D D' : Ends} {Q : VK}
theorem yields_str {z : Str} : Yields K mg (Its z) (signs z) fun _ _ => True := by
  have hlen : (signs z).length = z.cps.size := by simp [signs]
  refine ⟨fun i B H hi _ => ?_, fun i d x B H H' e _ l y => ?_, fun B H _ => ?_⟩
  · show i < z.cps.size
    rw [← hlen]
    exact hi
  · obtain ⟨eh, c, ec, ex⟩ := y
    subst eh ex
    unfold signs at e
    rw [List.getElem?_map] at e
    have e2 : z.cps.toList[i]? = some c := by simpa using ec
    rw [e2] at e
    cases e
    exact ⟨B, new_sh l (.str _)⟩
  · show z.cps.size ≤ (signs z).length
    rw [hlen]
    exact Nat.le_refl _
theorem yields_enumL {a : Addr} {ds : List Mi.D} : Yields K mg (Ite K a) (enumD 0 ds) fun B H => ∃ vs, SqL K H a vs ∧ Reps K mg B ds vs := by
  refine ⟨fun i B H hi ⟨vs, h, r⟩ => ?_, fun i d x B H H' e ⟨vs, h, r⟩ l y => ?_, fun B H ⟨vs, h, r⟩ => ⟨vs, h, by rw [enumD_len, r.1]; exact Nat.le_refl _⟩⟩
  · rw [enumD_len] at hi
    obtain ⟨v, ev, _⟩ := r.get (List.getElem?_eq_getElem hi)
    exact ⟨vs, v, h, ev⟩
  · obtain ⟨d0, e1, e2⟩ := enumD_get e
    obtain ⟨v, ev, rv⟩ := r.get e1
    obtain ⟨T, x0, ex, hT, eh, q⟩ := y
    have z := q vs h
    rw [ev] at z
    cases z
    subst ex eh e2
    rw [Nat.zero_add]
    exact ⟨_, new_tup l hT (.cons (.int _) (.cons rv .nil))⟩
theorem yields_enumT {a : Addr} {ds : List Mi.D} : Yields K mg (Iteu K a ds.length) (enumD 0 ds) fun B H => ∃ vs, SqT K H a vs ∧ Reps K mg B ds vs := by
  refine ⟨fun i B H hi ⟨vs, h, r⟩ => ?_, fun i d x B H H' e ⟨vs, h, r⟩ l y => ?_, fun B H ⟨vs, h, r⟩ => ⟨vs, h, r.1.symm, by rw [enumD_len]; exact Nat.le_refl _⟩⟩
  · rw [enumD_len] at hi
    obtain ⟨v, ev, _⟩ := r.get (List.getElem?_eq_getElem hi)
    exact ⟨vs, v, h, r.1.symm, ev⟩
  · obtain ⟨d0, e1, e2⟩ := enumD_get e
    obtain ⟨v, ev, rv⟩ := r.get e1
    obtain ⟨T, x0, ex, hT, eh, q⟩ := y
    have z := q vs h
    rw [ev] at z
    cases z
    subst ex eh e2
    rw [Nat.zero_add]
    exact ⟨_, new_tup l hT (.cons (.int _) (.cons rv .nil))⟩
theorem forS_step {m : EM} {t : Tg} {body : SM} (h : tS K mg Wd kp (sForS m t body) D σ H) : tFor (iStr (tE K mg Wd m)) (tG K mg kp t) (tS K mg Wd kp body) D σ H := by
  obtain ⟨B, env, fp, S, r⟩ := h
  unfold sForS at r
  refine exp_step S r fun o env1 r v B1 H1 fp1 F1 A R => ?_
  cases q : res o env1 with
  | none =>
    rw [q] at r
    exact r.elim
  | some d =>
    have rr := res_rep A.sim R q
    rw [q] at r
    cases d with
    | str z =>
      cases repO_str rr
      exact ⟨z, rfl, forL_step yields_str (fun _ h => h) A.drop (fun _ z => z.elim) (fun _ _ _ _ _ _ _ _ _ _ => trivial) r⟩
    | _ => exact r.elim
theorem shO_rep {o : O} {v : V} {d : Mi.D} (S : Sim K mg B H env σ fp) (h : OpRep K mg B H σ o v F) (e : shO o env = some d) : Rep K mg B d v := by
  cases o with
  | val w =>
    cases w with
    | sh d' =>
      cases e
      have h' : RepW K mg B H (.sh d) v F := h
      cases h' with
      | sh r _ => exact r
    | _ => cases e
  | slot i =>
    have e1 : (match env[i]? with | some (.sh d) => some d | _ => none) = some d := e
    cases q : env[i]? with
    | none =>
      rw [q] at e1
      cases e1
    | some w =>
      rw [q] at e1
      cases w with
      | sh d' =>
        cases e1
        obtain ⟨v', hv, r⟩ := S.rep i _ q
        have z := hv (fun z => nomatch z)
        rw [h.1] at z
        cases z
        cases r with
        | sh r _ => exact r
      | _ => cases e1
def iEnumM (K : PySem.W.Frag) (ta : TA) : TI := fun σ H R => iEnum K ta σ H R ∨ iEnumT K ta σ H R
theorem pi_enumM {X : Cx} {e : Expr} {ta : TA} {p pos tpos : Pos} {elts : List Expr} {kk : Nat} (hg : Gl X "enumerate") (hm : X.mg "enumerate" = none) (ha : PA X [e] ta) (hs : starEach [e] X.env = [(false, eval e X.env)] := by rfl) :
    PI X (.Tuple elts kk tpos) (.Call (.Name "enumerate" p) [e] [] pos) (iEnumM X.K ta) :=
  ⟨fun pins s σ H R I h => h.elim (fun h => (pi_enum hg hm ha hs).run pins s σ H R I h) fun h => (pi_enumT hg hm ha hs).run pins s σ H R I h⟩
theorem forE_step {m : EM} {t : Tg} {body : SM} (h : tS K mg Wd kp (sForE m t body) D σ H) : tFor (iEnumM K (tCons (tE K mg Wd m) tNil)) (tG K mg kp t) (tS K mg Wd kp body) D σ H := by
  obtain ⟨B, env, fp, S, r⟩ := h
  unfold sForE at r
  by_cases ht : ∃ o env1 ds, m env = .ok o env1 ∧ shO o env1 = some (.tup ds)
  · refine .inr (exp_stepE S r fun o env1 e r v B1 H1 fp1 F1 A R => ?_)
    obtain ⟨o', env2, ds, e', q⟩ := ht
    rw [e] at e'
    cases e'
    simp only [q, Option.bind, seqD] at r
    have rr := shO_rep A.sim R q
    cases rr with
    | @tup a ds vs hs hl hr =>
      have r0 : Reps K mg B1 ds vs := ⟨hl, hr⟩
      refine ⟨a, vs, rfl, A.sim.le.sqT hs, ?_⟩
      rw [← hl]
      exact forL_step yields_enumT (fun _ h => h) A.drop (fun _ z => z.elim) (fun σ' B2 H2 env2 fp2 A2 _ l _ _ => ⟨vs, (l.trans A2.sim.le).sqT hs, r0.mono l⟩) r
  · refine .inl (exp_stepE S r fun o env1 e r v B1 H1 fp1 F1 A R => ?_)
    cases q : shO o env1 with
    | none =>
      simp only [q, Option.bind] at r
      exact r.elim
    | some d =>
      cases q2 : seqD d with
      | none =>
        simp only [q, Option.bind, q2] at r
        exact r.elim
      | some ds =>
        simp only [q, Option.bind, q2] at r
        have ed : d = .lst ds := (seqD_cases q2).elim id fun z => absurd ⟨o, env1, ds, e, by rw [q, z]⟩ ht
        subst ed
        have rr := shO_rep A.sim R q
        cases rr with
        | @lst a ds vs hs hl hr =>
          have r0 : Reps K mg B1 ds vs := ⟨hl, hr⟩
          exact ⟨a, vs, rfl, (A.sim.le.sqX hs).sq, forL_step yields_enumL (fun _ h => h) A.drop (fun _ z => z.elim) (fun σ' B2 H2 env2 fp2 A2 _ l _ _ => ⟨vs, ((l.trans A2.sim.le).sqX hs).sq, r0.mono l⟩) r⟩
end
section
variable {X : Cx} {Wd : WX} {kp : Kp} {pos : Pos} {tg e : Expr} {body : List Stmt} {m : EM} {t : Tg} {b : SM}
theorem ss_forS (hp : PassesOwn (model X.prog X.w) X.A X.env X.xe) (hc : X.calm = true) (he : SE X Wd e m) (ht : SG X kp tg t) (hb : SB X Wd kp body b) (hs : ∀ x, foldedSetIterable e X.env x = pure x := by intro _; rfl) : SS X Wd kp (.For tg e body [] pos) (sForS m t b) :=
  PS.less (ps_for hp hc (pi_str he) ht hb hs) fun _ _ _ h => forS_step h
theorem ss_forE {elts : List Expr} {kk : Nat} {tpos p pos2 : Pos} (hp : PassesOwn (model X.prog X.w) X.A X.env X.xe) (hc : X.calm = true) (hg : Gl X "enumerate") (hm : X.mg "enumerate" = none) (he : SE X Wd e m) (ht : SG X kp (.Tuple elts kk tpos) t) (hb : SB X Wd kp body b)
    (hs1 : starEach [e] X.env = [(false, eval e X.env)] := by rfl) (hs : ∀ x, foldedSetIterable (.Call (.Name "enumerate" p) [e] [] pos2) X.env x = pure x := by intro _; rfl) : SS X Wd kp (.For (.Tuple elts kk tpos) (.Call (.Name "enumerate" p) [e] [] pos2) body [] pos) (sForE m t b) :=
  PS.less (ps_for hp hc (pi_enumM hg hm (pa_cons he pa_nil hs1) hs1) ht hb hs) fun _ _ _ h => forE_step h
end

/-! ### a, b = x, y -/
def sPar (i j : Nat) (ms : AM) : SM := fun env => (ms env).bind fun os env1 => match aress os env1 with
  | some [w1, w2] => .ok .nx ((env1.set i w1).set j w2)
  | _ => .stuck
section
variable {K : PySem.W.Frag} {mg : Str → Option Value} {B B' H H' : Hp} {env env' : En} {σ σ1 : L2.St} {fp fp' : Nat → Fp} {Wd : WX} {F G : Fp} {kp kp' : Kp} {D D' : Ends} {Q : VK}
theorem Aft.putP (A : Aft K mg B H fp env' σ B' H' fp' (Or2 F G)) {w : W} {v : V} (r : RepW K mg B' H' w v F) (dj : ∀ b, F b → ¬ G b) (i : Nat) : ∃ fp2, Aft K mg B H fp (env'.set i w) (σ.set i (some v)) B' H' fp2 G := by
  by_cases hi : i < env'.length
  · refine ⟨fpS fp' i F, A.sim.set hi r (fun b h => A.nb b (.inl h)) fun b f j _ g => A.apart b (.inl f) ⟨j, g⟩, A.gr.less fun c h => ?_, fun b g h => ?_, fun b g => A.nb b (.inr g)⟩
    · rcases h with h | h
      · rcases all_set h with h | h
        · exact .inl h
        · exact .inr (.inl h)
      · exact .inr (.inr h)
    · rcases all_set h with h | h
      · exact A.apart b (.inr g) h
      · exact dj b h g
  · have e1 : env'.set i w = env' := List.set_eq_of_length_le (by omega)
    have e2 : σ.set i (some v) = σ := List.set_eq_of_length_le (by rw [← A.sim.len]; omega)
    rw [e1, e2]
    exact ⟨fp', A.part fun b h => .inr h⟩
/-- a row of readings, then what follows -/
theorem args_step {ms : AM} {k : List O → En → Out Fl} {env : En} {fp : Nat → Fp} {Q : List V → Hp → Prop} (S : Sim K mg B H env σ fp) (h : ResS K mg Wd kp σ B H fp ((ms env).bind k) D)
    (hQ : ∀ os env1, ResS K mg Wd kp σ B H fp (k os env1) D → ∀ vs B1 H1 fp1 F1, Aft K mg B H fp env1 σ B1 H1 fp1 F1 → OpsRep K mg B1 H1 σ os vs F1 → Q vs H1) : tA K mg Wd ms σ H Q := by
  refine ⟨B, env, fp, S, ?_⟩
  cases e : ms env with
  | stuck =>
    rw [e] at h
    exact h
  | err x e1 =>
    rw [e] at h
    exact fun cls d B' H' fp' A xr => h cls d σ B' H' fp' A (Keep.refl _ _) xr
  | ok o env1 =>
    rw [e] at h
    exact fun v B1 H1 fp1 F1 A R => hQ o env1 h v B1 H1 fp1 F1 A R
theorem par_step {i j : Nat} {ms : AM} (hi : kp i = false) (hj : kp j = false) (h : tS K mg Wd kp (sPar i j ms) D σ H) : tPar i j (tA K mg Wd ms) D σ H := by
  obtain ⟨B, env, fp, S, r⟩ := h
  unfold sPar at r
  refine args_step S r fun os env1 r vs B1 H1 fp1 F1 A R => ?_
  cases q : aress os env1 with
  | none =>
    rw [q] at r
    exact r.elim
  | some ws =>
    rw [q] at r
    obtain ⟨fa, Ar, ea⟩ := aress_rep A.sim R q A.nb
    have hl := Ar.len
    cases ws with
    | nil => exact r.elim
    | cons w1 ws =>
      cases ws with
      | nil => exact r.elim
      | cons w2 ws =>
        cases ws with
        | cons _ _ => exact r.elim
        | nil =>
          cases vs with
          | nil => simp at hl
          | cons v1 vs =>
            cases vs with
            | nil => simp at hl
            | cons v2 vs =>
              cases vs with
              | cons _ _ => simp at hl
              | nil =>
                refine ⟨v1, v2, rfl, ?_⟩
                have A0 : Aft K mg B H fp env1 σ B1 H1 fp1 (Or2 (fa 0) (fa 1)) := A.part fun b h => (ea b).mp (h.elim (fun h => ⟨0, h⟩) fun h => ⟨1, h⟩)
                obtain ⟨fp2, A1⟩ := A0.putP (Ar.rep 0 w1 v1 rfl rfl) (fun b h g => absurd (Ar.dj 0 1 b h g) (by decide)) i
                obtain ⟨fp3, A2⟩ := A1.put (Ar.rep 1 w2 v2 rfl rfl) j
                exact r _ B1 H1 fp3 A2 ((Keep.set hi).trans (Keep.set hj))
end
section
variable {X : Cx} {Wd : WX} {kp : Kp} {pos : Pos} {a b : Expr} {ms : AM} {x y : Str} {px py pt : Pos} {kt k2 : Nat} {pt2 : Pos}
theorem ss_par (i j : Nat) (hc : X.calm = true) (hN : X.N.Nodup) (ha : SA X Wd [a, b] ms) (hki : kp i = false := by rfl) (hkj : kp j = false := by rfl) (hij : i ≠ j := by decide) (hi : X.N[i]? = some x := by rfl) (hj : X.N[j]? = some y := by rfl)
    (hx : X.env.scope.names.lookup x = some .local := by rfl) (hy : X.env.scope.names.lookup y = some .local := by rfl) (hw : swappedStores [.Tuple [.Name x px, .Name y py] kt pt] (.Tuple [a, b] k2 pt2) X.env = pure (some [x, y]) := by rfl)
    (hs : swapsWithSole [.Tuple [.Name x px, .Name y py] kt pt] (.Tuple [a, b] k2 pt2) pos.line X.env = pure false := by rfl) :
    SS X Wd kp (.Assign [.Tuple [.Name x px, .Name y py] kt pt] (.Tuple [a, b] k2 pt2) pos) (sPar i j ms) :=
  PS.less (ps_par hc hN hi hj hij hx hy ha.pa hw hs) fun _ _ _ h => par_step hki hkj h
end

/-! ### f(k = e) -/
structure FOW (P : Program) (w : World) (K : PySem.W.Frag) (mg : Str → Option Value) (base : Heap) (x kn : Str) (k : Nat) (m : FM) : Prop where
  ex : ∃ (f : Addr) (fd : FuncData), mg x = some (.ref f) ∧ PySem.W.keepIn K (.ref f) = true ∧ (∀ (s : Shared) (u : Value), BindsTo s fd ⟨[], [(kn, u)]⟩ [(kn, u)]) ∧ FnOk P w K mg base (L2.CX P w) k f fd [kn] (spM K mg m 1 [])
section
variable {X : Cx} {Wd : WX} {pos p kpos : Pos} {e : Expr} {m : EM}
theorem se_callW {x kn : Str} {k j : Nat} {f : FM} (G : FOW X.prog X.w X.K X.mg X.base x kn k f) (hr : Room j X.A) (hk : k ≤ j) (tk : Takes X Wd) (hg : Gl X x) (he : SE X Wd e m)
    (hdb : (x == ("__debug__" : Str)) = false := by decide) (hall : (backToKw pos (keywordEach [⟨some kn, e, kpos⟩] X.env)).all (·.1.isSome) = true := by rfl) (hks : (backToKw pos (keywordEach [⟨some kn, e, kpos⟩] X.env)).filterMap (·.1) = [kn] := by rfl)
    (hpl : ((backTo pos (starEach [] X.env)).any (·.1) || (backToKw pos (keywordEach [⟨some kn, e, kpos⟩] X.env)).any (·.1.isNone)) = false := by rfl) :
    SE X Wd (.Call (.Name x p) [] [⟨some kn, e, kpos⟩] pos) (eCall f (aCons m aNil)) := by
  obtain ⟨fa, fd, hm, kp, hb, F⟩ := G.ex
  have hl : ∀ env os env', aCons m aNil env = .ok os env' → os.length = 1 := fun env os env' q => by
    unfold aCons at q
    cases e1 : m env with
    | ok o env1 =>
      simp only [e1, aNil, Out.bind] at q
      cases q
      rfl
    | err x e3 => simp only [e1, Out.bind] at q; cases q
    | stuck => simp only [e1, Out.bind] at q; cases q
  refine ⟨fun pins s σ H Q I h => ?_⟩
  have h1 : tCons (tE X.K X.mg Wd m) tNil σ H fun vs H1 => spM X.K X.mg f 1 [] vs H1 Q fun cls d H' => Wd cls d σ H' := (aCons_step (call_step (n := 1) hl h)).mono fun x H1 h => aNil_step h
  refine wpAny_Call_Name_kw (ld_glob I hg hm ?_ hdb)
  refine PySem.W.callWith_KW0 (h₀ := X.base) I.ok.mod.kin kp hall (thn ((pk_cons (nm := some kn) (kpos := kpos) he pk_nil).run pos pins s σ H _ I h1) fun ws s2 ⟨zs, H2, I2, rz, q2⟩ => ⟨I2.kIn, ?_⟩) hpl
  rw [hks]
  have lz : zs.length = 1 := q2.1
  cases rz with
  | nil => cases lz
  | cons r1 rz =>
    cases rz with
    | cons _ _ => cases lz
    | nil =>
      refine wpAny_call (codeAny_mono (F.run X.A X.stack s2 H2 ⟨[], [(kn, _)]⟩ _ _ Q (fun cls d H' => Wd cls d σ H') (hr.mono hk) I2.env0 (hb s2 _) (.cons r1 .nil) q2) fun r s' hq => ?_)
      cases r with
      | error z => exact passAt tk σ pins H2 s2 z s' I2 hq
      | ok fl =>
        cases fl with
        | ret u => exact I2.after hq
        | _ => exact False.elim hq
end
/-! ### f(e, ..), defaults behind -/
structure FOD (P : Program) (w : World) (K : PySem.W.Frag) (mg : Str → Option Value) (base : Heap) (x : Str) (k n : Nat) (dds : List D) (m : FM) : Prop where
  ex : ∃ (f : Addr) (fd : FuncData) (ps : List Str) (ds : List Value) (dvs : List V), mg x = some (.ref f) ∧ PySem.W.keepIn K (.ref f) = true ∧ Binds K fd ps ds ∧ Vals dvs ds ∧ (∀ B, Reps K mg B dds dvs) ∧ FnOk P w K mg base (L2.CX P w) k f fd ps (spM K mg m (n + dds.length) [])
def withD (dds : List D) (m : FM) : FM := fun ws => m (ws ++ dds.map .sh)
theorem spM_D {K : PySem.W.Frag} {mg : Str → Option Value} {m : FM} {n : Nat} {dds : List D} {dvs : List V} (rd : ∀ B, Reps K mg B dds dvs) {vs : List V} {H : Hp} {Q : VK} {E : XK} (h : spM K mg (withD dds m) n [] vs H Q E) : spM K mg m (n + dds.length) [] (vs ++ dvs) H Q E := by
  obtain ⟨hn, B, ws, fa, l, A, h⟩ := h
  have ld := (rd B).1
  refine ⟨by rw [List.length_append, hn, ld], B, ws ++ dds.map .sh, fa, l, ⟨by simp [A.len, ld], fun j w v h1 h2 => ?_, fun j hj b hb => A.out j (by simp at hj; omega) b hb, A.dj, A.nb⟩, ?_⟩
  · by_cases hj : j < ws.length
    · rw [List.getElem?_append_left hj] at h1
      rw [List.getElem?_append_left (by rw [← A.len]; exact hj)] at h2
      exact A.rep j w v h1 h2
    · rw [List.getElem?_append_right (by omega), List.getElem?_map] at h1
      rw [List.getElem?_append_right (by rw [← A.len]; omega), ← A.len] at h2
      cases e : dds[j - ws.length]? with
      | none =>
        rw [e] at h1
        cases h1
      | some d =>
        rw [e] at h1
        cases h1
        exact .sh ((rd B).2 _ d v e h2) (A.out j (by omega))
  · have h' : (match m (ws ++ dds.map .sh) with
      | .stuck => False
      | .ok w outs => ∀ v B' H' F Fo, Le B' H' → RepW K mg B' H' w v F → Outs K mg B' H' [] vs outs Fo → (∀ b, F b → ¬ Fo b) → (∀ b, Or2 Fo F b → B' b = none) → Grow B B' H H' (All fa) (Or2 Fo F) → Q v H'
      | .err x outs => ∀ cls d B' H' Fo, Le B' H' → Outs K mg B' H' [] vs outs Fo → (∀ b, Fo b → B' b = none) → Grow B B' H H' (All fa) Fo → ExRep mg H' x cls d → E cls d H') := h
    cases e : m (ws ++ dds.map .sh) with
    | stuck =>
      rw [e] at h'
      exact h'
    | ok w outs =>
      rw [e] at h'
      intro v B' H' F Fo l rv ho
      cases ho with
      | nil e0 => exact h' v B' H' F Fo l rv (.nil e0)
    | err x outs =>
      rw [e] at h'
      intro cls d B' H' Fo l ho
      cases ho with
      | nil e0 => exact h' cls d B' H' Fo l (.nil e0)
section
variable {X : Cx} {Wd : WX} {pos : Pos} {e : Expr} {es : List Expr} {ms : AM}
theorem se_callD {x : Str} {k j n : Nat} {p : Pos} {dds : List D} {m : FM} (G : FOD X.prog X.w X.K X.mg X.base x k n dds m) (hr : Room j X.A) (hk : k ≤ j) (tk : Takes X Wd) (hg : Gl X x) (ha : SA X Wd (e :: es) ms) (hn : (e :: es).length = n)
    (hdb : (x == ("__debug__" : Str)) = false := by decide) (he : starEach (e :: es) X.env = (false, eval e X.env) :: starEach es X.env := by rfl) (hpl : (backTo pos (starEach es X.env)).any (·.1) = false := by rfl) :
    SE X Wd (.Call (.Name x p) (e :: es) [] pos) (eCall (withD dds m) ms) := by
  obtain ⟨f, fd, ps, ds, dvs, hm, kp, b, hd, rd, F⟩ := G.ex
  exact PE.less (pe_callSD (E := fun σ cls d H => Wd cls d σ H) F (hr.mono hk) hg hm kp b hd (fun σ => passAt tk σ) ha.pa hdb he hpl) fun σ H Q h => (call_step (n := n) (fun env os env' q => (ha.len env os env' q).trans hn) h).mono fun vs H1 h1 => spM_D rd h1
end
/-! ### defs: the promise in parts -/
theorem fnok_of {P : Program} {w : World} {K : PySem.W.Frag} {mg : Str → Option Value} {base : Heap} {nm qual : Str} {params : Arguments} {bd : List Stmt} {scope : Scope} {f : Addr} {fd : FuncData} {N ps : List Str} {dvs : List V} {kws : List (Str × V)} {k n l : Nat} {io : List Bool} {body : SM}
    (F : FunD K nm qual params bd scope dvs kws f fd) (S : FnScope N ps scope) (hn : ps.length = n) (hl : n + l = N.length) (hio : io.length ≤ n)
    (hbody : ∀ (cdv : Value) (A : Around) (outer : List Env) (s : Shared) (H : Hp) (E : XK), Room k (A.deeper (envOfC qual scope s.heap.objs.size f cdv)) →
      SB (cxOf (L2.CX P w) P w K mg base N qual scope f cdv A outer s H E) (fun cls d _ H => E cls d H) (kpOf io) bd body) : FnOk P w K mg base (L2.CX P w) (k + 1) f fd ps (spM K mg (fnM l io body) n io) :=
  FunD.ok F S (fun vs H Q E h => by rw [h.1, hn]) fun cdv A outer s H vs Q E hr h => ⟨_, hbody cdv A outer s H E hr, body_step hl hio h⟩
theorem fnG_body {P : Program} {w : World} {K : PySem.W.Frag} {mg : Str → Option Value} {base : Heap} {nm qual : Str} {params : Arguments} {bd : List Stmt} {scope : Scope} {f : Addr} {fd : FuncData} {N ps : List Str} {dvs : List V} {kws : List (Str × V)} {k n l : Nat} {io : List Bool} {body : SM}
    (F : FunD K nm qual params bd scope dvs kws f fd) (S : FnScope N ps scope) (hn : ps.length = n) (hl : n + l = N.length) (hio : io.length ≤ n)
    (hbody : ∀ (cdv : Value) (A : Around) (outer : List Env) (s : Shared) (H : Hp) (E : XK), A.guards = some [] → Room k (A.deeper (envOfC qual scope s.heap.objs.size f cdv)) →
      SB (cxOf (L2.CX P w) P w K mg base N qual scope f cdv A outer s H E) (fun cls d _ H => E cls d H) (kpOf io) bd body) : FnG P w K mg base (L2.CX P w) (k + 1) f fd ps (spM K mg (fnM l io body) n io) :=
  fnG_of F S (fun vs H Q E h => by rw [h.1, hn]) fun cdv A outer s H vs Q E hG hr h => ⟨_, hbody cdv A outer s H E hG hr, body_step hl hio h⟩
/-- try .. except C as e: x = e.place -/
theorem ss_tryGet {X : Cx} {Wd : WX} {kp : Kp} {pos pos' np p1 p2 p3 p4 : Pos} {body : List Stmt} {x n c : Str} {b : SM} (hs : Nat → Bool) (i j : Nat) {C0 : Addr} (hst : X.stack = X.env :: X.outer) (hf : X.env.frame = some X.env.locals) (hN : X.N.Nodup) (tk : Takes X Wd)
    (hg : Gl X c) (hm : X.mg c = some (.ref C0)) (hX : XM X.K X.mg (.ref C0) hs) (hC : ∀ (y : Ex) m, hs y.id = true → y.arg = some m → X.mg (exNm y.id) = some (.ref C0)) (hxf : XfC X.K C0) (hpl : PySem.W.findIn X.K (.ref C0) "place" = some none)
    (hb : ∀ (W : WX) (pn : List (Addr × Obj)) (xe : Value → Shared → Prop), Takes (X.tr pn xe) W → PassesOwn (model X.prog X.w) X.A X.env xe → SB (X.tr pn xe) W kp body b)
    (hki : kp i = false := by rfl) (hkj : kp j = false := by rfl) (hij : i ≠ j := by decide) (hi : X.N[i]? = some n := by rfl) (hj : X.N[j]? = some x := by rfl) (hln : X.env.kindOf n = some .local := by rfl) (hlx : X.env.scope.names.lookup x = some .local := by rfl)
    (hlv : X.env.scope.names.lookup n = some .local := by rfl) (hd : (n == ("__debug__" : Str)) = false := by decide) (hcd : (n == ("__classdict__" : Str)) = false := by decide) (hdb : (c == ("__debug__" : Str)) = false := by decide) :
    SS X Wd kp (.Try body [.ExceptHandler (some (.Name c np)) (some n) [.Assign [.Name x p1] (.Attribute (.Name n p2) "place" p3) p4] pos'] [] [] pos) (sTryGet hs i j b) :=
  PS.less (ps_try_as (i := i) (tb := fun W => tS X.K X.mg W kp b) (ts := fun a cls d => tAsg (tXf a cls d C0 "place" (tVar i)) (gName j)) hst hf hN hi hln ⟨hg, hdb, .inl hm⟩ tk (fun W pn xe t p => hb W pn xe t p)
    fun a oe cls d pn hz hv => pss_one (ps_set (i := j) hN hj (.inl hlx) (pe_xf hxf hpl hz hv (pe_var (i := i) hi (.inl hlv) hd hcd)) (hf := .inr hlx))) fun D σ H h => tryGet_step hki hkj hij hX hC h
end Mi
set_option maxRecDepth 100000
/-! Mi18: chains; globals; a def's context. -/
namespace Mi
open PySem PySem.Spec PyProof.Rows L2

/-! ### a < b < c, b an int or a text -/
def isSc : D → Bool
  | .int _ => true
  | .str _ => true
  | _ => false
def eChain (p p' : D → D → Option W) (a b c : EM) : EM := fun env => (aCons a (aCons b aNil) env).bind fun os env1 => match ress os env1 with
  | some [d, e] => if isSc e = true then match p d e with
    | some (.sh (.bl true)) => (c env1).bind fun o env2 => match (res o env2).bind (p' e) with
      | some w => .ok (.val w) env2
      | none => .stuck
    | some (.sh (.bl false)) => .ok (.val (.sh (.bl false))) env1
    | _ => .stuck else .stuck
  | _ => .stuck
section
variable {K : PySem.W.Frag} {mg : Str → Option Value} {B B' H H' : Hp} {env env' : En} {σ : L2.St} {fp fp' : Nat → Fp} {Wd : WX} {F : Fp} {Q : VK}
theorem sc_keep {e : Mi.D} {v : V} (h : isSc e = true) (r : RepO K mg B H e v) : ∀ B' H', RepO K mg B' H' e v := by
  cases e with
  | int i =>
    cases repO_int r
    exact fun B' H' => .inl (.int i)
  | str z =>
    cases repO_str r
    exact fun B' H' => .inl (.str z)
  | _ => cases h
theorem resE_step {ms : AM} {k : List O → En → Out O} {env : En} {fp : Nat → Fp} {R : List V → Hp → Prop} (S : Sim K mg B H env σ fp) (h : Res K mg (OpRep K mg) Wd σ B H fp ((ms env).bind k) Q)
    (hQ : ∀ os env1, Res K mg (OpRep K mg) Wd σ B H fp (k os env1) Q → ∀ vs B1 H1 fp1 F1, Aft K mg B H fp env1 σ B1 H1 fp1 F1 → OpsRep K mg B1 H1 σ os vs F1 → R vs H1) : tA K mg Wd ms σ H R := by
  refine ⟨B, env, fp, S, ?_⟩
  cases e : ms env with
  | stuck =>
    rw [e] at h
    exact h
  | err x e1 =>
    rw [e] at h
    exact h
  | ok os env1 =>
    rw [e] at h
    exact fun vs B1 H1 fp1 F1 A R => hQ os env1 h vs B1 H1 fp1 F1 A R
/-- what is known from a later state -/
theorem Res.later {out : Out O} {B1 H1 : Hp} {fp1 : Nat → Fp} {env1 : En} (h : Res K mg (OpRep K mg) Wd σ B H fp out Q) (A : Aft K mg B H fp env1 σ B1 H1 fp1 Nil) : Res K mg (OpRep K mg) Wd σ B1 H1 fp1 out Q := by
  cases out with
  | stuck => exact h
  | err x e => exact fun cls d B' H' fp' A' xr => h cls d B' H' fp' (A.trans A') xr
  | ok o e => exact fun v B' H' fp' F A' rr => h v B' H' fp' F (A.trans A') rr
theorem chain_step {p p' : Mi.D → Mi.D → Option W} {r r' : R2} {a b c : EM} (hp : Op2 K mg r p) (hp' : Op2 K mg r' p') (h : tE K mg Wd (eChain p p' a b c) σ H Q) : tChain r r' (tE K mg Wd a) (tE K mg Wd b) (tE K mg Wd c) σ H Q := by
  obtain ⟨B, env, fp, S, rr⟩ := h
  unfold eChain at rr
  refine (aCons_step (resE_step (R := fun vs H2 => ∃ x y, vs = [x, y] ∧ r x y H2 fun z H3 => ∃ k, z = .bl k ∧ if k = true then tE K mg Wd c σ H3 fun z' H4 => r' y z' H4 Q else Q (.bl false) H3) S rr fun os env1 rr vs B1 H1 fp1 F1 A R => ?_)).mono fun x H1 h1 => (aCons_step h1).mono fun y H2 h2 => ?_
  · cases q : ress os env1 with
    | none =>
      rw [q] at rr
      exact rr.elim
    | some ds =>
      rw [q] at rr
      have R2 := ress_rep A.sim R q
      cases R2 with
      | nil => exact rr.elim
      | @cons d x ds vs rd R2 =>
        cases R2 with
        | nil => exact rr.elim
        | @cons e y ds vs re R2 =>
          cases R2 with
          | cons _ _ => exact rr.elim
          | nil =>
            refine ⟨x, y, rfl, ?_⟩
            by_cases hs : isSc e = true
            · simp only [if_pos hs] at rr
              cases q2 : p d e with
              | none =>
                rw [q2] at rr
                exact rr.elim
              | some w =>
                rw [q2] at rr
                refine hp B1 H1 x y d e w _ A.sim.le rd re q2 fun z B2 H2 F2 n => ?_
                cases w with
                | sh d2 =>
                  cases d2 with
                  | bl k =>
                    have A2 := A.new n
                    have rz := n.rep
                    cases rz with
                    | sh rz ez =>
                      cases rz
                      refine ⟨k, rfl, ?_⟩
                      cases k with
                      | false =>
                        simp only [Bool.false_eq_true, if_false]
                        exact rr (.bl false) B2 H2 fp1 F2 A2 (.sh (.bl false) ez)
                      | true =>
                        simp only [if_true]
                        refine ⟨B2, env1, fp1, A2.sim, ?_⟩
                        have r1 := Res.later (show Res K mg (OpRep K mg) Wd σ B H fp ((c env1).bind fun o env2 => match (res o env2).bind (p' e) with | some w => .ok (.val w) env2 | none => .stuck) Q from rr) A2.drop
                        cases e3 : c env1 with
                        | stuck =>
                          rw [e3] at r1
                          exact r1
                        | err x3 env3 =>
                          rw [e3] at r1
                          exact r1
                        | ok o env2 =>
                          rw [e3] at r1
                          simp only [Out.bind] at r1
                          intro z' B3 H3 fp3 F3 A3 R3
                          cases q4 : res o env2 with
                          | none =>
                            simp only [q4, Option.bind] at r1
                            exact r1.elim
                          | some f =>
                            cases q5 : p' e f with
                            | none =>
                              simp only [q4, Option.bind, q5] at r1
                              exact r1.elim
                            | some w5 =>
                              simp only [q4, Option.bind, q5] at r1
                              exact hp' B3 H3 y z' e f w5 Q A3.sim.le (sc_keep hs re B3 H3) (res_rep A3.sim R3 q4) q5 fun v5 B5 H5 F5 n5 => r1 v5 B5 H5 fp3 F5 (A3.new n5) n5.rep
                  | _ => exact rr.elim
                | _ => exact rr.elim
            · simp only [if_neg hs] at rr
              exact rr.elim
  · obtain ⟨x', y', e, h3⟩ := aNil_step h2
    cases e
    exact h3
end
section
variable {X : Cx} {Wd : WX} {pos : Pos} {a b c : Expr} {ma mb mc : EM}
theorem se_chain {op op' : CmpOp} {r r' : R2} {p p' : D → D → Option W} (ho : OpR X (compareOp op) r) (ho' : OpR X (compareOp op') r') (hp : Op2 X.K X.mg r p) (hp' : Op2 X.K X.mg r' p') (ha : SE X Wd a ma) (hb : SE X Wd b mb) (hc : SE X Wd c mc)
    (hm : lastMarks [op, op'] [b, c] = false := by with_unfolding_all rfl) : SE X Wd (.Compare a [op, op'] [b, c] pos) (eChain p p' ma mb mc) := PE.less (pe_chain ho ho' ha hb hc hm) fun _ _ _ h => chain_step hp hp' h
end
/-! ### a global's datum -/
structure GC (K : PySem.W.Frag) (mg : Str → Option Value) (x : Str) (d : D) : Prop where
  ex : ∃ (v : V) (u : Value), mg x = some u ∧ RelV v u ∧ ∀ B, Rep K mg B d v
theorem se_gc {X : Cx} {Wd : WX} {pos : Pos} {x : Str} {d : D} (G : GC X.K X.mg x d) (hg : Gl X x) (hd : (x == ("__debug__" : Str)) = false := by decide) : SE X Wd (.Name x pos) (eC d) :=
  let ⟨_, _, h1, h2, h3⟩ := G.ex
  se_glob hg h1 h2 h3 hd
/-! ### a def's context -/
section
variable {P : Program} {w : World} {K : PySem.W.Frag} {mg : Str → Option Value} {base : Heap} {N : List Str} {qual : Str} {scope : Scope} {f : Addr} {cd : Value} {A : Around} {outer : List Env} {s : Shared} {H : Hp} {E : XK}
theorem takes_fn : Takes (cxOf (L2.CX P w) P w K mg base N qual scope f cd A outer s H E) (fun cls d _ H => E cls d H) := takes_of rfl rfl rfl rfl
theorem passes_fn : PassesOwn (model P w) (cxOf (L2.CX P w) P w K mg base N qual scope f cd A outer s H E).A (cxOf (L2.CX P w) P w K mg base N qual scope f cd A outer s H E).env (cxOf (L2.CX P w) P w K mg base N qual scope f cd A outer s H E).xe := passes_of (X := cxOf (L2.CX P w) P w K mg base N qual scope f cd A outer s H E) rfl
theorem guards_fn (h : A.guards = some []) : (cxOf (L2.CX P w) P w K mg base N qual scope f cd A outer s H E).A.guards = some [] := h
end
theorem takes_blk {X : Cx} {s : Shared} {H : Hp} {scope : Scope} {cenv : Env} {fp : List Addr} {xe : Value → Shared → Prop} : Takes (blkE X s H scope cenv fp xe) WN := fun u s' ⟨_, _, _, _, _, _, _, _, _, _, _, _, _, _, _, _, z⟩ => z.elim
theorem room_u {k : Nat} {A : Around} (r : Room k A) : A.units + 65 < cLine := by have := r.un; omega
theorem plain_ix {b : Expr} (h : ∀ o i, subscripted b false o i = operate [o, i] (getItem o i)) : PlainIx b := h
end Mi
set_option maxRecDepth 100000
/-! Mi19: from the head's facts to the defs' promises. -/
namespace Mi
open PySem PySem.Spec PyProof.Rows L2
section
variable {K : PySem.W.Frag} {mg : Str → Option Value} {h : Heap}
theorem gc_str {x z : Str} (X : K.In h) (G : h.Ns mainGlobals mg) (c : (He.Fa.str x z).ok K = true) : GC K mg x (.str z) :=
  let ⟨t, e⟩ := He.str_ok X G c
  ⟨.str z, _, e, ⟨t, rfl⟩, fun _ => .str z⟩
theorem gc_int {x : Str} {i : Int} (X : K.In h) (G : h.Ns mainGlobals mg) (c : (He.Fa.int x i).ok K = true) : GC K mg x (.int i) :=
  let ⟨t, e⟩ := He.int_ok X G c
  ⟨.int i, _, e, ⟨t, rfl⟩, fun _ => .int i⟩
def dvD : He.Dv → Option D
  | .non => some .non
  | .bl b => some (.bl b)
  | .int i => some (.int i)
  | .str z => some (.str z)
  | _ => none
theorem dv_rep {B : Hp} {v : He.Dv} {d : D} (h : dvD v = some d) : Rep K mg B d (v.v K) := by
  cases v <;> cases h
  · exact .non
  · exact .bl _
  · exact .int _
  · exact .str _
theorem dvs_rep {B : Hp} : ∀ {vs : List He.Dv} {ds : List D}, vs.map dvD = ds.map some → Reps K mg B ds (vs.map (He.Dv.v K))
  | [], [], _ => .nil
  | [], _ :: _, h => by cases h
  | _ :: _, [], h => by cases h
  | v :: vs, d :: ds, h => by
    simp only [List.map_cons, List.cons.injEq] at h
    exact .cons (dv_rep h.1) (dvs_rep h.2)
theorem gc_tup {x : Str} {vs : List He.Dv} {ds : List D} (X : K.In h) (G : h.Ns mainGlobals mg) (c1 : (He.Fa.glo x).ok K = true) (c2 : He.tupB K x vs = true) (e : vs.map dvD = ds.map some) : GC K mg x (.tup ds) :=
  ⟨.ref (He.ga K x), _, He.glo_ok X G c1, rfl, fun B => by
    have r := dvs_rep (K := K) (mg := mg) (B := B) e
    exact .tup (He.tupB_ok c2 B) r.1 r.2⟩
theorem exc_of {id : Nat} {x : Str} (X : K.In h) (G : h.Ns mainGlobals mg) (e : exNm id = x) (c1 : (He.Fa.glo x).ok K = true) (c2 : (He.Fa.exc x).ok K = true) : EXC K mg id := by
  obtain ⟨h1, h2, h3, h4⟩ := He.exc_ok c2
  exact ⟨He.ga K x, by rw [e]; exact He.glo_ok X G c1, h1, h2, h3, h4⟩
theorem cf_of {c : Nat} (X : K.In h) (G : h.Ns mainGlobals mg) (c1 : (He.Fa.glo (lay c).1).ok K = true) (c2 : (He.Fa.cls (lay c).1).ok K = true) (c3 : ((lay c).2.all fun f => (He.Fa.noat (lay c).1 f).ok K) = true) : CF K mg [c] := by
  intro c' hc C hm
  have e : c' = c := by simpa using hc
  subst e
  rw [He.glo_ok X G c1] at hm
  cases hm
  exact ⟨He.cls_ok c2, fun f hf => He.noat_ok (List.all_eq_true.mp c3 f hf)⟩
end
section
variable {P : Program} {w : World} {K : PySem.W.Frag} {mg : Str → Option Value} {base : Heap} {x nm qual : Str} {params : Arguments} {bd : List Stmt} {scope : Scope} {dvs : List V} {f : Addr} {fd : FuncData} {ps : List Str} {k n : Nat} {io : List Bool} {m : FM}
theorem fo_mk (F : FunD K nm qual params bd scope [] [] f fd) (hm : mg x = some (.ref f)) (ok : FnOk P w K mg base (L2.CX P w) k f fd ps (spM K mg m n io))
    (hb : ∀ (kV doc pm : Value) (an : Option Addr) (cdv ct : Value) (us : List Value), us.length = ps.length → bindArgs (PySem.W.fnOf nm qual params bd scope .none kV doc pm an cdv ct) ⟨us, []⟩ = pure (ps.zip us)) : FO P w K mg base x k n io m :=
  ⟨f, fd, ps, hm, F.kp, F.bindsN hb, ok⟩
theorem fog_mk (F : FunD K nm qual params bd scope [] [] f fd) (hm : mg x = some (.ref f)) (ok : FnG P w K mg base (L2.CX P w) k f fd ps (spM K mg m n io))
    (hb : ∀ (kV doc pm : Value) (an : Option Addr) (cdv ct : Value) (us : List Value), us.length = ps.length → bindArgs (PySem.W.fnOf nm qual params bd scope .none kV doc pm an cdv ct) ⟨us, []⟩ = pure (ps.zip us)) : FOG P w K mg base x k n io m :=
  ⟨f, fd, ps, hm, F.kp, F.bindsN hb, ok⟩
theorem fow_mk {kn : Str} (F : FunD K nm qual params bd scope [] [] f fd) (hm : mg x = some (.ref f)) (ok : FnOk P w K mg base (L2.CX P w) k f fd [kn] (spM K mg m 1 []))
    (hb : ∀ (kV doc pm : Value) (an : Option Addr) (cdv ct u : Value), bindArgs (PySem.W.fnOf nm qual params bd scope .none kV doc pm an cdv ct) ⟨[], [(kn, u)]⟩ = pure [(kn, u)]) : FOW P w K mg base x kn k m := by
  refine ⟨f, fd, hm, F.kp, fun s u => ?_, ok⟩
  obtain ⟨oc, od, dV, kV, doc, pm, an, cdv, ct, osl, rfl, lk, hcd, hD, hK⟩ := F.ex
  rcases hD with ⟨_, rfl⟩ | ⟨e, _⟩
  · exact .of_eq (hb kV doc pm an cdv ct u)
  · exact absurd rfl e
/-- all defaults from the j-th on fill up -/
theorem fod_mk {dds : List D} (n0 j : Nat) (F : FunD K nm qual params bd scope dvs [] f fd) (hm : mg x = some (.ref f)) (ok : FnOk P w K mg base (L2.CX P w) k f fd ps (spM K mg m (n0 + dds.length) [])) (hd : dvs ≠ []) (hn : n0 + (dvs.length - j) = ps.length) (rd : ∀ B, Reps K mg B dds (dvs.drop j))
    (hb : ∀ (T : Addr) (kV doc pm : Value) (an : Option Addr) (cdv ct : Value) (us its : List Value), us.length = n0 → its.length = dvs.length →
      ∃ k, bindArgs (PySem.W.fnOf nm qual params bd scope (.ref T) kV doc pm an cdv ct) ⟨us, []⟩ = seqItems? (.ref T) >>= k ∧ k (some its.toArray) = pure (ps.zip (us ++ its.drop j))) : FOD P w K mg base x k n0 dds m := by
  obtain ⟨ds, r, b⟩ := F.binds1 (ps := ps) n0 j hd hn hb
  exact ⟨f, fd, ps, ds, dvs.drop j, hm, F.kp, b, r, rd, ok⟩
/-- every parameter is written, though defaults stand -/
theorem fo_mkD (F : FunD K nm qual params bd scope dvs [] f fd) (hm : mg x = some (.ref f)) (ok : FnOk P w K mg base (L2.CX P w) k f fd ps (spM K mg m n io)) (hd : dvs ≠ [])
    (hb : ∀ (T : Addr) (kV doc pm : Value) (an : Option Addr) (cdv ct : Value) (us its : List Value), us.length = ps.length → its.length = dvs.length →
      ∃ k, bindArgs (PySem.W.fnOf nm qual params bd scope (.ref T) kV doc pm an cdv ct) ⟨us, []⟩ = seqItems? (.ref T) >>= k ∧ k (some its.toArray) = pure (ps.zip (us ++ its.drop dvs.length))) : FO P w K mg base x k n io m := by
  obtain ⟨ds, r, b⟩ := F.binds1 (ps := ps) ps.length dvs.length hd (by omega) hb
  rw [List.drop_length] at r
  cases r
  exact ⟨f, fd, ps, hm, F.kp, b, ok⟩
theorem fom_mk {c : Nat} {C : Addr} (F : FunD K nm qual params bd scope [] [] f fd) (hm : mg (lay c).1 = some (.ref C)) (hc : Cls K C) (hme : Meth K C x f) (ok : FnOk P w K mg base (L2.CX P w) k f fd ps (spM K mg m n io))
    (hb : ∀ (kV doc pm : Value) (an : Option Addr) (cdv ct : Value) (us : List Value), us.length = ps.length → bindArgs (PySem.W.fnOf nm qual params bd scope .none kV doc pm an cdv ct) ⟨us, []⟩ = pure (ps.zip us)) : FOM P w K mg base c x k n io m :=
  ⟨C, f, fd, ps, hm, hc, hme, F.bindsN hb, ok⟩
theorem fok_mk {c : Nat} {C : Addr} (F : FunD K nm qual params bd scope [] [] f fd) (hm : mg (lay c).1 = some (.ref C)) (hk : Mk K C f) (ok : FnOk P w K mg base (L2.CX P w) k f fd ps (spM K mg m n [true]))
    (hb : ∀ (kV doc pm : Value) (an : Option Addr) (cdv ct : Value) (us : List Value), us.length = ps.length → bindArgs (PySem.W.fnOf nm qual params bd scope .none kV doc pm an cdv ct) ⟨us, []⟩ = pure (ps.zip us)) : FOK P w K mg base c k n m :=
  ⟨C, f, fd, ps, hm, hk, F.bindsN hb, ok⟩
end
/-- the law's promise from its mirror's answer -/
theorem law_sp {K : PySem.W.Frag} {mg : Str → Option Value} {m : FM} {H : Hp} {a : Addr} {ns : List Int} (hS : SqX K H a (ns.map V.int)) (hO : Only H) (e : m [.sh (.lst (ns.map .int))] = .ok (.sh (.bl true)) []) :
    spM K mg m 1 [] [.ref a] H (fun v _ => v = .bl true) fun _ _ _ => False := by
  have rl : Rep K mg H (.lst (ns.map Mi.D.int)) (.ref a) := .lst hS (by simp) fun i d v h1 h2 => by
    rw [List.getElem?_map] at h1 h2
    cases q : ns[i]? with
    | none =>
      rw [q] at h1
      cases h1
    | some z =>
      rw [q] at h1 h2
      cases h1
      cases h2
      exact .int z
  refine ⟨rfl, H, [.sh (.lst (ns.map .int))], _, Le.refl H, .cons (.sh rl nil_no) .nil (fun _ h => h.elim) (fun _ h => h.elim), ?_⟩
  rw [e]
  intro v B' H' F Fo l rv ho dj nb g
  cases rv with
  | sh r _ =>
    cases r
    rfl
end Mi
set_option maxRecDepth 100000
/-! Mi20: mirrors evaluated. -/
namespace Mi
open PySem PySem.Spec PyProof.Rows L2
section
variable {α β : Type} {env env1 : En} {i j n : Nat} {d : D} {w : W} {o : O} {os : List O} {m a b c : EM} {ms : AM}
@[simp] theorem bind_ok (x : α) (k : α → En → Out β) : (Out.ok x env).bind k = k x env := rfl
@[simp] theorem bind_err (x : Ex) (k : α → En → Out β) : (Out.err x env).bind k = .err x env := rfl
@[simp] theorem bind_stuck (k : α → En → Out β) : (Out.stuck : Out α).bind k = .stuck := rfl
@[simp] theorem eC_ap : eC d env = .ok (.val (.sh d)) env := rfl
@[simp] theorem eV_ap : eV i env = match env[i]? with | some .gone => .stuck | some _ => .ok (.slot i) env | none => .stuck := rfl
@[simp] theorem eFz_ap : eFz i env = match (env[i]?).bind W.fz with | some d => .ok (.val (.sh d)) (env.set i (.sh d)) | none => .stuck := rfl
@[simp] theorem eMv_ap : eMv i env = match env[i]? with | some .gone => .stuck | some (.sh d) => .ok (.val (.sh d)) env | some w => .ok (.val w) (env.set i .gone) | none => .stuck := rfl
@[simp] theorem aNil_ap : aNil env = .ok [] env := rfl
@[simp] theorem aCons_ap : aCons m ms env = (m env).bind fun o env1 => (ms env1).bind fun os env2 => .ok (o :: os) env2 := rfl
@[simp] theorem fz_sh : (W.sh d).fz = some d := rfl
@[simp] theorem fz_ol {ds : List D} : (W.ol ds).fz = some (.lst ds) := rfl
@[simp] theorem res_val : res (.val w) env = w.fz := rfl
@[simp] theorem res_slot : res (.slot i) env = (env[i]?).bind W.fz := rfl
@[simp] theorem ress_nil : ress [] env = some [] := rfl
@[simp] theorem ress_cons : ress (o :: os) env = (res o env).bind fun d => (ress os env).map fun ds => d :: ds := rfl
@[simp] theorem ePrim_ap {p : List D → Option W} : ePrim p ms env = (ms env).bind fun os env1 => match (ress os env1).bind p with | some w => .ok (.val w) env1 | none => .stuck := rfl
@[simp] theorem p1_ap {p : D → Option W} {x : D} : p1 p [x] = p x := rfl
@[simp] theorem p2_ap {p : D → D → Option W} {x y : D} : p2 p [x, y] = p x y := rfl
@[simp] theorem p3_ap {p : D → D → D → Option W} {x y z : D} : p3 p [x, y, z] = p x y z := rfl
@[simp] theorem bE_ap : bE m env = (m env).bind fun o env1 => match res o env1 with | some (.bl b) => .ok b env1 | _ => .stuck := rfl
@[simp] theorem bAnd_ap {x y : BM} : bAnd x y env = (x env).bind fun c env1 => if c = true then y env1 else .ok false env1 := rfl
@[simp] theorem bOr_ap {x y : BM} : bOr x y env = (x env).bind fun c env1 => if c = true then .ok true env1 else y env1 := rfl
@[simp] theorem bNot_ap {x : BM} : bNot x env = (x env).bind fun c env1 => .ok (!c) env1 := rfl
@[simp] theorem eB_ap {x : BM} : eB x env = (x env).bind fun c env1 => .ok (.val (.sh (.bl c))) env1 := rfl
@[simp] theorem eIf_ap {x : BM} : eIf x a b env = (x env).bind fun k env1 => if k = true then a env1 else b env1 := rfl
@[simp] theorem eAnd_ap : eAnd a b env = (bE a env).bind fun c env1 => if c = true then b env1 else .ok (.val (.sh (.bl false))) env1 := rfl
@[simp] theorem eOr_ap : eOr a b env = (bE a env).bind fun c env1 => if c = true then .ok (.val (.sh (.bl true))) env1 else b env1 := rfl
@[simp] theorem ares_val : ares (.val (.sh d)) env = some (.sh d) := rfl
@[simp] theorem ares_ol {ds : List D} : ares (.val (.ol ds)) env = some (.ol ds) := rfl
@[simp] theorem ares_oi {c : Nat} {ws : List W} : ares (.val (.oi c ws)) env = some (.oi c ws) := rfl
@[simp] theorem ares_slot : ares (.slot i) env = match env[i]? with | some (.sh d) => some (.sh d) | _ => none := rfl
@[simp] theorem aress_nil : aress [] env = some [] := rfl
@[simp] theorem aress_cons : aress (o :: os) env = (ares o env).bind fun w => (aress os env).map fun ws => w :: ws := rfl
@[simp] theorem eCall_ap {f : FM} : eCall f ms env = (ms env).bind fun os env1 => match aress os env1 with | none => .stuck | some ws => (f ws).plain env1 := rfl
@[simp] theorem plain_ok : (FOut.ok w []).plain env = .ok (.val w) env := rfl
@[simp] theorem plain_err {x : Ex} : (FOut.err x []).plain env = .err x env := rfl
@[simp] theorem sSeq_ap {x y : SM} : sSeq x y env = (x env).bind fun f env1 => match f with | .nx => y env1 | f => .ok f env1 := rfl
@[simp] theorem sSet_ap : sSet i m env = (m env).bind fun o env1 => match ares o env1 with | some w => .ok .nx (env1.set i w) | none => .stuck := rfl
@[simp] theorem sDrop_ap : sDrop m env = (m env).bind fun _ env1 => .ok .nx env1 := rfl
@[simp] theorem sRet_ap : sRet m env = (m env).bind fun o env1 => match ares o env1 with | some w => .ok (.rt w) env1 | none => .stuck := rfl
@[simp] theorem sRetN_ap : sRetN env = .ok (.rt (.sh .non)) env := rfl
@[simp] theorem sNx_ap : sNx env = .ok .nx env := rfl
@[simp] theorem sIf_ap {x : BM} {y z : SM} : sIf x y z env = (x env).bind fun k env1 => if k = true then y env1 else z env1 := rfl
@[simp] theorem sRaise_ap {id : Nat} : sRaise id env = .err ⟨id, none⟩ env := rfl
@[simp] theorem sRaiseW_ap : sRaiseW m env = (m env).bind fun o env1 => match res o env1 with | some (.int n) => .err ⟨16, some n⟩ env1 | _ => .stuck := rfl
theorem fnM_ap {l : Nat} {io : List Bool} {x : SM} {ws : List W} : fnM l io x ws = match x (ws ++ List.replicate l .gone) with
  | .ok .nx env => .ok (.sh .non) (outsOf io env)
  | .ok (.rt w) env => .ok w (outsOf io env)
  | .ok _ _ => .stuck
  | .err x env => .err x (outsOf io env)
  | .stuck => .stuck := rfl
@[simp] theorem outsOf_nil : outsOf [] env = [] := by cases env <;> rfl
@[simp] theorem outsOf_t : outsOf (true :: io) (w :: env) = w :: outsOf io env := rfl
@[simp] theorem outsOf_f : outsOf (false :: io) (w :: env) = outsOf io env := rfl
@[simp] theorem eMt_ap {t : D → Bool} {p : List D → Option W} : eMt t p m ms env = (m env).bind fun r env1 => match res r env1 with
  | some d => if t d = true then (ms env1).bind fun os env2 => match (ress (r :: os) env2).bind p with
    | some w => .ok (.val w) env2
    | none => .stuck else .stuck
  | none => .stuck := rfl
@[simp] theorem isStr_str {x : Str} : isStr (.str x) = true := rfl
@[simp] theorem sres_sh : sres (.val (.sh d)) env = some d := rfl
@[simp] theorem sres_ol {ds : List D} : sres (.val (.ol ds)) env = some (.lst ds) := rfl
@[simp] theorem sres_slot : sres (.slot i) env = match env[i]? with | some (.sh d) => some d | _ => none := rfl
@[simp] theorem sress_nil : sress [] env = some [] := rfl
@[simp] theorem sress_cons : sress (o :: os) env = (sres o env).bind fun d => (sress os env).map fun ds => d :: ds := rfl
@[simp] theorem eTup_ap : eTup ms env = (ms env).bind fun os env1 => match sress os env1 with | some ds => .ok (.val (.sh (.tup ds))) env1 | none => .stuck := rfl
@[simp] theorem eLst_ap : eLst ms env = (ms env).bind fun os env1 => match sress os env1 with | some ds => .ok (.val (.ol ds)) env1 | none => .stuck := rfl
-- values
@[simp] theorem isi_int {T : String} {x : Int} : pIsi T (.int x) = some (wB (T == "int")) := rfl
@[simp] theorem isi_str {T : String} {x : Str} : pIsi T (.str x) = some (wB (T == "str")) := rfl
@[simp] theorem isi_bl {T : String} {x : Bool} : pIsi T (.bl x) = some (wB (T == "bool" || T == "int")) := rfl
@[simp] theorem isi_non {T : String} : pIsi T .non = some (wB false) := rfl
@[simp] theorem isi_tup {T : String} {x : List D} : pIsi T (.tup x) = some (wB (T == "tuple")) := rfl
@[simp] theorem isi_lst {T : String} {x : List D} : pIsi T (.lst x) = some (wB (T == "list")) := rfl
@[simp] theorem wB_fz {x : Bool} : wB x = .sh (.bl x) := rfl
@[simp] theorem eq_ss {x y : Str} : pEq (.str x) (.str y) = some (.sh (.bl (decide (x = y)))) := rfl
@[simp] theorem eq_ii {x y : Int} : pEq (.int x) (.int y) = some (.sh (.bl (decide (x = y)))) := rfl
@[simp] theorem eq_is {x : Int} {y : Str} : pEq (.int x) (.str y) = some (.sh (.bl false)) := rfl
@[simp] theorem ne_ss {x y : Str} : pNe (.str x) (.str y) = some (.sh (.bl (!decide (x = y)))) := rfl
@[simp] theorem ne_ii {x y : Int} : pNe (.int x) (.int y) = some (.sh (.bl (!decide (x = y)))) := rfl
@[simp] theorem lt_ii {x y : Int} : pLt (.int x) (.int y) = some (.sh (.bl (decide (x < y)))) := rfl
@[simp] theorem le_ii {x y : Int} : pLe (.int x) (.int y) = some (.sh (.bl (decide (x ≤ y)))) := rfl
@[simp] theorem gt_ii {x y : Int} : pGt (.int x) (.int y) = some (.sh (.bl (decide (y < x)))) := rfl
@[simp] theorem ge_ii {x y : Int} : pGe (.int x) (.int y) = some (.sh (.bl (decide (y ≤ x)))) := rfl
@[simp] theorem is_non {neg : Bool} {x : D} : pIsN neg x .non = some (.sh (.bl (neg != isNonD x))) := by cases x <;> rfl
@[simp] theorem isNon_n : isNonD .non = true := rfl
@[simp] theorem isNon_s {x : Str} : isNonD (.str x) = false := rfl
@[simp] theorem isNon_t {x : List D} : isNonD (.tup x) = false := rfl
@[simp] theorem len_l {x : List D} : pLen [.lst x] = some (.sh (.int x.length)) := rfl
@[simp] theorem len_t {x : List D} : pLen [.tup x] = some (.sh (.int x.length)) := rfl
theorem len_s {x : Str} (h : x.length ≤ sizeLine) : pLen [.str x] = some (.sh (.int x.length)) := if_pos h
@[simp] theorem add_ii {x y : Int} : pAdd (.int x) (.int y) = some (.sh (.int (x + y))) := rfl
@[simp] theorem pI_ap {g : Int → Int → Option Int} {x y : Int} : pI g (.int x) (.int y) = (g x y).map fun k => .sh (.int k) := rfl
@[simp] theorem mul_ii {x y : Int} : pMul (.int x) (.int y) = (gMul x y).map fun k => .sh (.int k) := rfl
@[simp] theorem neg_i {x : Int} : pNeg (.int x) = some (.sh (.int (-x))) := rfl
@[simp] theorem int_i {x : Int} : pInt [.int x] = some (.sh (.int x)) := rfl
@[simp] theorem str_s {x : Str} : pStr [.str x] = some (.sh (.str x)) := rfl
@[simp] theorem ix_t {x : List D} {k : Int} : pIx (.tup x) (.int k) = (atI x k).map .sh := rfl
@[simp] theorem ix_l {x : List D} {k : Int} : pIx (.lst x) (.int k) = (atI x k).map .sh := rfl
end
end Mi
set_option maxRecDepth 100000
/-! Mi21: mirrors evaluated: calls with in-out arguments, instances, lists. -/
namespace Mi
open PySem PySem.Spec PyProof.Rows L2
section
variable {env env1 : En} {i j n : Nat} {d : D} {w : W} {o : O} {os : List O} {m a b c : EM} {ms : AM} {f : FM} {io : List Bool} {outs : List W}
@[simp] theorem iores_f : iores false o env = ares o env := rfl
@[simp] theorem iores_tv : iores true (.val w) env = ares (.val w) env := rfl
@[simp] theorem iores_ts : iores true (.slot i) env = match env[i]? with | some .gone => none | some w => some w | none => none := rfl
@[simp] theorem ioress_c {x : Bool} : ioress (x :: io) (o :: os) env = (iores x o env).bind fun w => (ioress io os env).map fun ws => w :: ws := rfl
@[simp] theorem ioress_n : ioress [] os env = aress os env := rfl
@[simp] theorem ios_ts : ios (true :: io) (.slot i :: os) = i :: ios io os := rfl
@[simp] theorem ios_tv : ios (true :: io) (.val w :: os) = ios io os := rfl
@[simp] theorem ios_f : ios (false :: io) (o :: os) = ios io os := by cases o <;> rfl
@[simp] theorem ios_n : ios [] os = [] := by cases os <;> rfl
@[simp] theorem distB_n : distB [] = true := rfl
@[simp] theorem distB_c {r : List Nat} : distB (i :: r) = (!r.contains i && distB r) := rfl
@[simp] theorem clr_n : clr [] env = env := rfl
@[simp] theorem clr_c {r : List Nat} : clr (i :: r) env = clr r (env.set i .gone) := rfl
@[simp] theorem put_ts : put (true :: io) (.slot i :: os) (w :: outs) env = put io os outs (env.set i w) := rfl
@[simp] theorem put_tv {u : W} : put (true :: io) (.val u :: os) (w :: outs) env = put io os outs env := rfl
@[simp] theorem put_f : put (false :: io) (o :: os) outs env = put io os outs env := by cases o <;> rfl
@[simp] theorem put_n : put [] os outs env = env := by cases os <;> cases outs <;> rfl
@[simp] theorem back_ok : (FOut.ok w outs).back io os env = .ok (.val w) (put io os outs (clr (ios io os) env)) := rfl
@[simp] theorem back_err {x : Ex} : (FOut.err x outs).back io os env = .err x (put io os outs (clr (ios io os) env)) := rfl
@[simp] theorem eCallI_ap : eCallI f io ms env = (ms env).bind fun os env1 => match ioress io os env1 with | none => .stuck | some ws => if distB (ios io os) = true then (f ws).back io os env1 else .stuck := rfl
@[simp] theorem eMeth_ap {k : Nat} : eMeth k i f io ms env = match env[i]? with | some (.oi c' _) => if c' = k then eCallI f (true :: io) (aCons (eV i) ms) env else .stuck | _ => .stuck := rfl
@[simp] theorem eMake_ap {k : Nat} : eMake k f ms env = (ms env).bind fun os env1 => match aress os env1 with | none => .stuck | some ws => match f (.oi k [] :: ws) with
   | .ok (.sh .non) [w] => .ok (.val w) env1
   | .err x [_] => .err x env1
   | _ => .stuck := rfl
@[simp] theorem eFld_ap {cs : List Nat} {x : Str} : eFld cs i x env = match (env[i]?).bind (fldW cs x) with | some d => .ok (.val (.sh d)) env | none => .stuck := rfl
@[simp] theorem sSetF_ap {cs : List Nat} {x : Str} : sSetF cs i x m env = (m env).bind fun o env1 => match (sres o env1).bind fun d => (env1[i]?).bind (setA cs x d) with | some w => .ok .nx (env1.set i w) | none => .stuck := rfl
theorem idx_wh : idxN ("words_held" : Str) (lay 0).2 = some 0 := by decide +kernel
theorem idx_pl : idxN ("place" : Str) (lay 0).2 = some 1 := by decide +kernel
@[simp] theorem fld_wh {x : D} {ws : List W} : fldW [0] ("words_held" : Str) (.oi 0 (.sh x :: ws)) = some x := by simp [fldW, idx_wh]
@[simp] theorem fld_pl {x : D} {u : W} {ws : List W} : fldW [0] ("place" : Str) (.oi 0 (u :: .sh x :: ws)) = some x := by simp [fldW, idx_pl]
@[simp] theorem set_wh : setA [0] ("words_held" : Str) d (.oi 0 []) = some (.oi 0 [.sh d]) := by simp [setA, idx_wh, idx_pl, putN]
@[simp] theorem set_pl {u : W} : setA [0] ("place" : Str) d (.oi 0 [u]) = some (.oi 0 [u, .sh d]) := by simp [setA, idx_wh, idx_pl, putN]
@[simp] theorem set_pl2 {u v : W} : setA [0] ("place" : Str) d (.oi 0 [u, v]) = some (.oi 0 [u, .sh d]) := by simp [setA, idx_wh, idx_pl, putN]
@[simp] theorem sAugF_ap {cs : List Nat} {x : Str} {g : Int → Int → Int} : sAugF cs i x g m env = match env[i]? with
  | some (.oi c ws) => match fldW cs x (.oi c ws) with
    | some (.int p) => (m env).bind fun o env1 => match res o env1, env1[i]? with
      | some (.int q), some (.oi c2 ws2) => if c2 = c then match setA cs x (.int (g p q)) (.oi c2 ws2) with
        | some w => .ok .nx (env1.set i w)
        | none => .stuck else .stuck
      | _, _ => .stuck
    | _ => .stuck
  | _ => .stuck := rfl
@[simp] theorem sApp_ap : sApp i m env = match env[i]? with
  | some (.ol _) => (m env).bind fun o env1 => match env1[i]?, sres o env1 with
    | some (.ol ds), some d => if ds.length < sizeLine then .ok .nx (env1.set i (.ol (ds ++ [d]))) else .stuck
    | _, _ => .stuck
  | _ => .stuck := rfl
@[simp] theorem sExt_ap : sExt i m env = match env[i]? with
  | some (.ol _) => (m env).bind fun o env1 => match env1[i]?, o with
    | some (.ol ds), .val (.ol es) => if ds.length + es.length ≤ sizeLine then .ok .nx (env1.set i (.ol (ds ++ es))) else .stuck
    | _, _ => .stuck
  | _ => .stuck := rfl
@[simp] theorem sSetIx_ap {k : EM} : sSetIx i k m env = (m env).bind fun o env1 => match env1[i]? with
  | some (.ol _) => (eInt k env1).bind fun ok env2 => match env2[i]?, sres o env2, ok with
    | some (.ol ds), some d, .val (.sh (.int k)) => match ixN ds.length k with
      | some j => .ok .nx (env2.set i (.ol (ds.set j d)))
      | none => .stuck
    | _, _, _ => .stuck
  | _ => .stuck := rfl
@[simp] theorem eInt_ap : eInt m env = (m env).bind fun o env1 => match res o env1 with | some (.int i) => .ok (.val (.sh (.int i))) env1 | _ => .stuck := rfl
@[simp] theorem sPar_ap : sPar i j ms env = (ms env).bind fun os env1 => match aress os env1 with | some [w1, w2] => .ok .nx ((env1.set i w1).set j w2) | _ => .stuck := rfl
@[simp] theorem eChain_ap {p q : D → D → Option W} : eChain p q a b c env = (aCons a (aCons b aNil) env).bind fun os env1 => match ress os env1 with
  | some [d, e] => if isSc e = true then match p d e with
    | some (.sh (.bl true)) => (c env1).bind fun o env2 => match (res o env2).bind (q e) with
      | some w => .ok (.val w) env2
      | none => .stuck
    | some (.sh (.bl false)) => .ok (.val (.sh (.bl false))) env1
    | _ => .stuck else .stuck
  | _ => .stuck := rfl
@[simp] theorem isSc_i {x : Int} : isSc (.int x) = true := rfl
end
/-! ### loops that look at nothing but themselves -/
def forT (t : Tg) (body : SM) : List D → En → Out Fl
  | [], env => .ok .nx env
  | d :: ds, env => match t.asg d env with
    | none => .stuck
    | some env1 => (body env1).bind fun f env2 => match f with
      | .nx => forT t body ds env2
      | .ct => forT t body ds env2
      | .bk => .ok .nx env2
      | .rt w => .ok (.rt w) env2
theorem forGo_T (t : Tg) (body : SM) : ∀ (ds : List D) (env : En), forGo (fun _ => True) t body ds env = forT t body ds env
  | [], env => forGo_nil trivial
  | d :: ds, env => by
    rw [forGo_cons trivial, forT]
    cases t.asg d env with
    | none => rfl
    | some env1 =>
      simp only
      congr 1
      funext f env2
      cases f <;> first | rfl | exact forGo_T t body ds env2
theorem sFor_T (m : EM) (t : Tg) (body : SM) : sFor m t body = fun env => (m env).bind fun o env1 => match o with
  | .slot _ => .stuck
  | .val w => match (w.fz).bind seqD with
    | some ds => forT t body ds env1
    | none => .stuck := by
  funext env
  unfold sFor
  congr 1
  funext o env1
  cases o with
  | slot i => rfl
  | val w =>
    simp only
    cases (w.fz).bind seqD with
    | none => rfl
    | some ds => exact forGo_T t body ds env1
theorem sForS_T (m : EM) (t : Tg) (body : SM) : sForS m t body = fun env => (m env).bind fun o env1 => match res o env1 with
  | some (.str z) => forT t body (signs z) env1
  | _ => .stuck := by
  funext env
  unfold sForS
  congr 1
  funext o env1
  cases res o env1 with
  | none => rfl
  | some d =>
    cases d with
    | str z => exact forGo_T t body _ env1
    | _ => rfl
theorem sForE_T (m : EM) (t : Tg) (body : SM) : sForE m t body = fun env => (m env).bind fun o env1 => match (shO o env1).bind seqD with
  | some ds => forT t body (enumD 0 ds) env1
  | none => .stuck := by
  funext env
  unfold sForE
  congr 1
  funext o env1
  cases (shO o env1).bind seqD with
  | none => rfl
  | some ds => exact forGo_T t body _ env1
/-! ### data compared by evaluation -/
mutual
def beqD : D → D → Bool
  | .non, .non => true
  | .bl a, .bl b => a == b
  | .int a, .int b => decide (a = b)
  | .str a, .str b => decide (a = b)
  | .tup a, .tup b => beqDs a b
  | .lst a, .lst b => beqDs a b
  | .ins c a, .ins d b => c == d && beqDs a b
  | _, _ => false
def beqDs : List D → List D → Bool
  | [], [] => true
  | x :: xs, y :: ys => beqD x y && beqDs xs ys
  | _, _ => false
end
mutual
theorem beqD_ok : ∀ (a b : D), beqD a b = true → a = b
  | .non, b, h => by cases b <;> first | rfl | (unfold beqD at h; cases h)
  | .bl x, b, h => by
    cases b <;> unfold beqD at h <;> first | cases h; done | skip
    rw [eq_of_beq h]
  | .int x, b, h => by
    cases b <;> unfold beqD at h <;> first | cases h; done | skip
    rw [of_decide_eq_true h]
  | .str x, b, h => by
    cases b <;> unfold beqD at h <;> first | cases h; done | skip
    rw [of_decide_eq_true h]
  | .tup x, b, h => by
    cases b <;> unfold beqD at h <;> first | cases h; done | skip
    rw [beqDs_ok _ _ h]
  | .lst x, b, h => by
    cases b <;> unfold beqD at h <;> first | cases h; done | skip
    rw [beqDs_ok _ _ h]
  | .ins c x, b, h => by
    cases b <;> unfold beqD at h <;> first | cases h; done | skip
    rw [Bool.and_eq_true] at h
    rw [eq_of_beq h.1, beqDs_ok _ _ h.2]
theorem beqDs_ok : ∀ (a b : List D), beqDs a b = true → a = b
  | [], [], _ => rfl
  | [], _ :: _, h => by unfold beqDs at h; cases h
  | _ :: _, [], h => by unfold beqDs at h; cases h
  | x :: xs, y :: ys, h => by
    unfold beqDs at h
    rw [Bool.and_eq_true] at h
    rw [beqD_ok _ _ h.1, beqDs_ok _ _ h.2]
end
/-- the call gives just this datum -/
def okB (x : FOut) (d : D) : Bool := match x with
  | .ok (.sh e) [] => beqD e d
  | _ => false
theorem okB_ok {x : FOut} {d : D} (h : okB x d = true) : x = .ok (.sh d) [] := by
  unfold okB at h
  split at h
  · rw [beqD_ok _ _ h]
  · cases h
end Mi
set_option maxRecDepth 100000
/-! Mi22: match of a text with written texts. -/
namespace Mi
open PySem PySem.Spec PyProof.Rows L2
/-- the pattern takes just the texts ps, and binds nothing -/
structure MP (X : Cx) (pat : Pattern) (ps : List Str) : Prop where
  run : ∀ (pins : List (Addr × Obj)) (s : Shared) (σ : L2.St) (H : Hp) (z : Str) (v : Value) (Q : Option (List (Str × Value)) → Shared → Prop), Inv X pins σ H s → RelV (.str z) v → (∀ s', Inv X pins σ H s' → Q (if z ∈ ps then some [] else none) s') →
    wpAny (model X.prog X.w) X.A (matchPattern pat X.env v) Q X.xe s
structure MF (X : Cx) (pats : List Pattern) (ps : List Str) : Prop where
  run : ∀ (pins : List (Addr × Obj)) (s : Shared) (σ : L2.St) (H : Hp) (z : Str) (v : Value) (Q : Option (List (Str × Value)) → Shared → Prop), Inv X pins σ H s → RelV (.str z) v → (∀ s', Inv X pins σ H s' → Q (if z ∈ ps then some [] else none) s') →
    wpAny (model X.prog X.w) X.A (matchFirst pats X.env v) Q X.xe s
abbrev MC := Str → SM
structure SMC (X : Cx) (Wd : WX) (kp : Kp) (cs : List MatchCase) (mc : MC) : Prop where
  run : ∀ (pins : List (Addr × Obj)) (s : Shared) (σ : L2.St) (H : Hp) (D : Ends) (z : Str) (v : Value) (first : Bool), Inv X pins σ H s → RelV (.str z) v → tS X.K X.mg Wd kp (mc z) D σ H → wpAny (model X.prog X.w) X.A (matchCases cs X.env v first) (L2.SP X pins D) X.xe s
def mcNil : MC := fun _ => sNx
def mcCons (ps : List Str) (b : SM) (r : MC) : MC := fun z => if z ∈ ps then b else r z
def sMatch (m : EM) (mc : MC) : SM := fun env => (m env).bind fun o env1 => match res o env1 with
  | some (.str z) => mc z env1
  | _ => .stuck
section
variable {X : Cx} {Wd : WX} {kp : Kp} {pos pos2 : Pos} {p : Str} {j : Nat}
theorem mp_val : MP X (.MatchValue (.Constant (.str p) j pos2) pos) [p] := ⟨fun pins s σ H z v Q I rv h => by
  refine wpAny_matchPattern_Value (thn ((pe_str (x := p) (pos := pos2)).run pins s σ H (fun y H1 => y = .str p ∧ H1 = H) I ⟨rfl, rfl⟩) fun u s1 ⟨y, H1, I1, ru, ey, eH⟩ => ?_)
  subst ey eH
  refine thn (op_eq pins s1 σ _ (.str z) (.str p) v u (fun w H2 => w = .bl (decide (z = p)) ∧ H2 = H1) I1 rv ru ⟨rfl, by simp, rfl⟩) fun c s2 ⟨w, H2, I2, rc, ew, eH⟩ => ?_
  subst ew eH
  cases rc
  refine wpAny_truthy_bool ?_
  have q := h s2 I2
  by_cases e : z = p
  · rw [if_pos (by simp [e])] at q
    simpa [e] using q
  · rw [if_neg (by simpa using e)] at q
    simpa [e] using q⟩
theorem mf_nil : MF X [] [] := ⟨fun pins s σ H z v Q I rv h => wpAny_matchFirst_nil (by simpa using h s I)⟩
theorem mf_cons {pat : Pattern} {pats : List Pattern} {ps qs : List Str} (h1 : MP X pat ps) (h2 : MF X pats qs) : MF X (pat :: pats) (ps ++ qs) := ⟨fun pins s σ H z v Q I rv h => by
  refine wpAny_matchFirst_cons (h1.run pins s σ H z v _ I rv fun s' I' => ?_)
  by_cases e : z ∈ ps
  · have q := h s' I'
    rw [if_pos (List.mem_append_left _ e)] at q
    rw [if_pos e]
    exact q
  · rw [if_neg e]
    refine h2.run pins s' σ H z v Q I' rv fun s2 I2 => ?_
    have q := h s2 I2
    by_cases e2 : z ∈ qs
    · rw [if_pos (List.mem_append_right _ e2)] at q
      rw [if_pos e2]
      exact q
    · rw [if_neg (by simp [e, e2])] at q
      rw [if_neg e2]
      exact q⟩
theorem fm_none (l : List Str) : List.filterMap (fun n => (none : Option (Str × Value))) l = [] := by
  induction l with
  | nil => rfl
  | cons a r ih => simpa using ih
theorem mp_or {pats : List Pattern} {ps : List Str} (h1 : MF X pats ps) : MP X (.MatchOr pats pos) ps := ⟨fun pins s σ H z v Q I rv h => by
  refine wpAny_matchPattern_Or (h1.run pins s σ H z v _ I rv fun s' I' => ?_)
  have q := h s' I'
  by_cases e : z ∈ ps
  · rw [if_pos e] at q
    rw [if_pos e]
    have fm : List.filterMap (fun n => Option.map (fun x => (n, x)) (List.lookup n ([] : List (Str × Value)))) (namesOfAll (List.take 1 pats)) = [] := fm_none _
    show Q (some (List.filterMap (fun n => Option.map (fun x => (n, x)) (List.lookup n ([] : List (Str × Value)))) (namesOfAll (List.take 1 pats)))) s'
    rw [fm]
    exact q
  · rw [if_neg e] at q
    rw [if_neg e]
    exact q⟩
theorem smc_nil : SMC X Wd kp [] mcNil := ⟨fun pins s σ H D z v first I rv h => wpAny_matchCases_nil ⟨σ, H, I, nx_step h⟩⟩
theorem smc_cons {pat : Pattern} {ps : List Str} {body : List Stmt} {rest : List MatchCase} {b : SM} {r : MC} (h1 : MP X pat ps) (h2 : SB X Wd kp body b) (h3 : SMC X Wd kp rest r) : SMC X Wd kp (⟨pat, none, body⟩ :: rest) (mcCons ps b r) := ⟨fun pins s σ H D z v first I rv h => by
  refine wpAny_matchCases_cons (h1.run pins s σ H z v _ I rv fun s' I' => ?_)
  by_cases e : z ∈ ps
  · have h' : tS X.K X.mg Wd kp b D σ H := by
      have : mcCons ps b r z = b := if_pos e
      rw [this] at h
      exact h
    rw [if_pos e]
    exact wpAny_assignInOrder_none (h2.run pins s' σ H D I' h')
  · have h' : tS X.K X.mg Wd kp (r z) D σ H := by
      have : mcCons ps b r z = r z := if_neg e
      rw [this] at h
      exact h
    rw [if_neg e]
    exact h3.run pins s' σ H D z v false I' rv h'⟩
theorem ss_match {e : Expr} {m : EM} {cs : List MatchCase} {mc : MC} (he : SE X Wd e m) (hc : SMC X Wd kp cs mc) : SS X Wd kp (.Match e cs pos) (sMatch m mc) := ⟨fun pins s σ H D I h => by
  obtain ⟨B, env, fp, S, r⟩ := h
  unfold sMatch at r
  refine wpAny_Match (thn (he.run pins s σ H (fun v H1 => ∃ z, v = .str z ∧ tS X.K X.mg Wd kp (mc z) D σ H1) I (exp_step S r fun o env1 r v B1 H1 fp1 F1 A R => ?_)) fun v s1 ⟨x, H1, I1, rx, z, ex, h1⟩ => ?_)
  · cases q : res o env1 with
    | none =>
      rw [q] at r
      exact r.elim
    | some d =>
      have rr := res_rep A.sim R q
      rw [q] at r
      cases d with
      | str z =>
        cases repO_str rr
        exact ⟨z, rfl, B1, env1, fp1, A.drop.sim, ResS.later r A.drop (Keep.refl _ _)⟩
      | _ => exact r.elim
  · subst ex
    exact hc.run pins s1 σ H1 D z v true I1 rx h1⟩
end
end Mi
set_option maxRecDepth 100000
/-! Mi23: all, any; defs that call themselves. -/
namespace Mi
open PySem PySem.Spec PyProof.Rows L2
def bls : List D → Option (List Bool)
  | [] => some []
  | .bl b :: r => (bls r).map fun l => b :: l
  | _ :: _ => none
def pAll : List D → Option W
  | [.lst ds] => (bls ds).map fun bs => .sh (.bl (bs.all id))
  | _ => none
def pAny : List D → Option W
  | [.lst ds] => (bls ds).map fun bs => .sh (.bl (bs.any id))
  | _ => none
theorem bls_map : ∀ (bs : List Bool), bls (bs.map .bl) = some bs
  | [] => rfl
  | b :: r => by
    show (bls (r.map .bl)).map (fun l => b :: l) = _
    rw [bls_map r]
    rfl
theorem bls_eq : ∀ {ds : List D} {bs : List Bool}, bls ds = some bs → ds = bs.map .bl
  | [], bs, h => by cases h; rfl
  | d :: r, bs, h => by
    cases d with
    | bl b =>
      cases e : bls r with
      | none =>
        rw [bls, e] at h
        cases h
      | some l =>
        rw [bls, e] at h
        cases h
        rw [List.map_cons, ← bls_eq e]
    | _ => cases h
section
variable {K : PySem.W.Frag} {mg : Str → Option Value} {B H : Hp}
theorem reps_bls {bs : List Bool} {vs : List V} (h : Reps K mg B (bs.map .bl) vs) : vs = bs.map .bl := by
  apply List.ext_getElem?
  intro i
  cases e : bs[i]? with
  | none =>
    have l1 := List.getElem?_eq_none_iff.mp e
    have l2 := h.1
    rw [List.length_map] at l2
    rw [List.getElem?_map, e, List.getElem?_eq_none (by omega)]
    rfl
  | some b =>
    obtain ⟨v, h1, h2⟩ := h.get (i := i) (d := .bl b) (by rw [List.getElem?_map, e]; rfl)
    rw [List.getElem?_map, e, h1]
    cases h2
    rfl
theorem opn_all : OpN K mg (rAll K) pAll := opN_one rfl (fun d e ds => by cases d <;> rfl) fun B H x d w Q l r hp q => by
  cases d <;> first | (cases hp; done) | skip
  rename_i ds
  cases e : bls ds with
  | none =>
    rw [pAll, e] at hp
    cases hp
  | some bs =>
    rw [pAll, e] at hp
    cases hp
    obtain ⟨a, vs, rfl, hs, rr⟩ := seq_list r l
    rw [bls_eq e] at rr
    rw [reps_bls rr] at hs
    exact ⟨a, bs, rfl, hs, new_same l q (.bl _)⟩
theorem opn_any : OpN K mg (rAny K) pAny := opN_one rfl (fun d e ds => by cases d <;> rfl) fun B H x d w Q l r hp q => by
  cases d <;> first | (cases hp; done) | skip
  rename_i ds
  cases e : bls ds with
  | none =>
    rw [pAny, e] at hp
    cases hp
  | some bs =>
    rw [pAny, e] at hp
    cases hp
    obtain ⟨a, vs, rfl, hs, rr⟩ := seq_list r l
    rw [bls_eq e] at rr
    rw [reps_bls rr] at hs
    exact ⟨a, bs, rfl, hs, new_same l q (.bl _)⟩
end
/-- nothing is promised of a def at level 0 -/
theorem fo_zero {P : Program} {w : World} {K : PySem.W.Frag} {mg : Str → Option Value} {base : Heap} {x nm qual : Str} {params : Arguments} {bd : List Stmt} {scope : Scope} {f : Addr} {fd : FuncData} {ps : List Str} {k n : Nat} {io : List Bool}
    (F : FunD K nm qual params bd scope [] [] f fd) (hm : mg x = some (.ref f))
    (hb : ∀ (kV doc pm : Value) (an : Option Addr) (cdv ct : Value) (us : List Value), us.length = ps.length → bindArgs (PySem.W.fnOf nm qual params bd scope .none kV doc pm an cdv ct) ⟨us, []⟩ = pure (ps.zip us)) : FO P w K mg base x k n io fun _ => .stuck :=
  ⟨f, fd, ps, hm, F.kp, F.bindsN hb, ⟨fun vs H Q E h => let ⟨_, _, _, _, _, _, z⟩ := h; z.elim, fun A outer s H args us vs Q E _ _ _ _ h => let ⟨_, _, _, _, _, _, z⟩ := h; z.elim⟩⟩
theorem fo_rec {P : Program} {w : World} {K : PySem.W.Frag} {mg : Str → Option Value} {base : Heap} {x : Str} {L n : Nat} {io : List Bool} {m : Nat → FM} (h0 : FO P w K mg base x (L + 0) n io (m 0)) (h1 : ∀ k, FO P w K mg base x (L + k) n io (m k) → FO P w K mg base x (L + (k + 1)) n io (m (k + 1))) (k : Nat) :
    FO P w K mg base x (L + k) n io (m k) := by
  induction k with
  | zero => exact h0
  | succ k ih => exact h1 k ih
end Mi
set_option maxRecDepth 100000
set_option maxHeartbeats 4000000
/-! Mi24: a caught exception kept under a name; isinstance of it; its field. -/
namespace Mi
open PySem PySem.Spec PyProof.Rows L2

/-! ### the object behind the clause is tracked -/
section
variable {X : Cx} {pins : List (Addr × Obj)} {σ : L2.St} {H : Hp} {s : Shared}
theorem inv_track {a : Addr} {oe : Obj} {cls : Value} {d : Option Addr} {vs : Array Value} (I : Inv X ((a, oe) :: pins) σ H s) (hz : Zc cls d oe) (hd : oe.data = .fields vs) (n0 : X.s_0.heap.get? a = none) (np : ∀ p ∈ X.pn ++ pins, p.1 ≠ a) : Inv X pins σ (upd H a (HX cls d a)) s := by
  obtain ⟨he, hn, nl, nf, nc⟩ := I.pin (a, oe) (List.mem_append_right _ List.mem_cons_self)
  have ne0 : ∀ b o, X.s_0.heap.get? b = some o → b ≠ a := fun b o e z => by
    rw [z, n0] at e
    cases e
  refine ⟨I.ok, I.os, I.bare, ⟨I.base.keep, I.base.slot, fun b o e n hx => ?_, I.base.there, fun b xs e => ?_, fun b o xs e => ?_, fun b ps e => ?_⟩, I.loc, I.cell, ?_, fun x c e => ?_, fun p hp => ?_, fun b o e => ?_, I.len⟩
  · rw [upd_ne (ne0 b o e)]
    exact I.base.free b o e n hx
  · have z := I.base.tups b xs e
    rw [upd_ne (ne_of_none z hn)]
    exact z
  · have z := I.base.frzs b o xs e
    rw [upd_ne (ne_of_none z hn)]
    exact z
  · obtain ⟨m, z⟩ := I.base.tbls b ps e
    exact ⟨m, by rw [upd_ne (ne_of_none z hn)]; exact z⟩
  · rw [upd_ne (Ne.symm nl)]
    exact I.free
  · have hc : c ≠ a := fun z => by
      obtain ⟨v, o, e1, e2⟩ := I.cell x c e
      rw [z, he] at e1
      cases e1
      exact nc _ e2
    rw [upd_ne hc]
    exact I.freeC x c e
  · have hp' : p ∈ X.pn ++ (a, oe) :: pins := by
      rcases List.mem_append.mp hp with h | h
      · exact List.mem_append_left _ h
      · exact List.mem_append_right _ (List.mem_cons_of_mem _ h)
    obtain ⟨e1, e2, e3⟩ := I.pin p hp'
    exact ⟨e1, by rw [upd_ne (np p hp)]; exact e2, e3⟩
  · by_cases hb : b = a
    · subst hb
      rw [upd_same] at e
      cases e
      exact ⟨⟨oe, vs, he, hz, hd⟩, ⟨oe, he⟩, fun h1 h2 ⟨o, v, q, r⟩ k => ⟨o, v, k o q, r⟩⟩
    · rw [upd_ne hb] at e
      exact (I.hok b o e).stay (fun _ _ _ q => q) (fun c q => by rw [upd_ne (ne_of_none q hn)]; exact q) fun c xs q => by rw [upd_ne (ne_of_none q hn)]; exact q
end

/-! ### try .. except C as e: x = e -/
def wHold (K : PySem.W.Frag) (c : Value) (i j : Nat) (Wout : WX) (D : Ends) : WX := fun cls d σ H =>
  ∃ b, PySem.W.exmOne K cls c = some b ∧ (b = true → ∀ a, H a = none → D.nx (((σ.set i (some (.ref a))).set j (some (.ref a))).set i none) (upd H a (HX cls d a))) ∧ (b = false → Wout cls d σ H)
section
variable {X : Cx} {x n y : Str} {c : Value} {i j : Nat} {body : List Stmt} {np pos pos' p1 p2 p3 : Pos} {tb : WX → TS} {Wout : WX}
theorem ps_try_hold (hst : X.stack = X.env :: X.outer) (hf : X.env.frame = some X.env.locals) (hN : X.N.Nodup) (hi : X.N[i]? = some n) (hj : X.N[j]? = some y) (hln : X.env.kindOf n = some .local) (hly : Loc X.env.scope y) (hlv : X.env.scope.names.lookup n = some .local) (hfy : X.fn y = true ∨ X.env.scope.names.lookup y = some .local)
    (hex : X.ex = []) (hc : Names X x c) (tk : Takes X Wout) (hd : (n == ("__debug__" : Str)) = false) (hcd : (n == ("__classdict__" : Str)) = false) (hs0 : ∀ a pn, swapsWith (.Name n p2) (some (.Name y p1)) p3.line (X.suite a pn).env = pure false)
    (hb : ∀ (W : WX) (pn : List (Addr × Obj)) (xe : Value → Shared → Prop), Takes (X.tr pn xe) W → PassesOwn (model X.prog X.w) X.A X.env xe → PSs (X.tr pn xe) body (tb W)) :
    PS X (.Try body [.ExceptHandler (some (.Name x np)) (some n) [.Assign [.Name y p1] (.Name n p2) p3] pos'] [] [] pos) (fun D σ H => tb (wHold X.K c i j Wout D) D σ H) := by
  refine ⟨fun pins s σ H D I h => ?_⟩
  have ok := I.ok
  have fr0 : X.A.frames = some (X.env :: X.outer) := by rw [ok.frames, hst]
  have loc0 : Loc X.env.scope n := .inl hln
  refine wpAny_Try_except ?_
  refine wpAny_mono ((hb (wHold X.K c i j Wout D) (X.pn ++ pins) (fun e s₁ => wpAny (model X.prog X.w) X.A (noteFrame e X.env) (fun _ s₂ => wpAny (model X.prog X.w) X.A (setFlight e none) (fun _ s₃ =>
    wpAny (model X.prog X.w) X.A (handleBy e X.env [.ExceptHandler (some (.Name x np)) (some n) [.Assign [.Name y p1] (.Name n p2) p3] pos']) (L2.SP X pins D) X.xe s₃) X.xe s₂) X.xe s₁) (fun u s' xx => ?_) PassesOwn.looking).run [] s σ H D (I.toTry _) h) (fun f s1 hsp => ?_) (fun e s1 he => he)
  · obtain ⟨a, B, sI, pins', σ', H', cls, d, rfl, J', nb, up, sky, na, os, ag, b, hb1, hyes, hno⟩ := xx
    have J : Inv X pins σ' H' sI := J'.ofTry ok
    have sky2 : Sky B (X.env :: X.outer) a (Zc cls d) X.env.locals s'.heap := by rw [← hst]; exact sky
    show wpAny (model X.prog X.w) X.A (noteFrame (.ref a) X.env) _ _ _
    refine Sky.land Zc.steady fr0 hf sky2 fun h3 fl3 up3 => ?_
    have J3 : Inv X pins σ' H' { s' with heap := h3 } := J.landed nb fl3.1 (up.trans up3) os ag
    obtain ⟨oe3, vs3, he3, hz3, hd3⟩ := fl3.there
    have off : ∀ {h : Heap} {o : Obj} {vs : Array Value}, h.FunFrames B (X.env :: X.outer) → h.get? a = some o → o.data = .fields vs → a ∉ frs (X.env :: X.outer) := fun {h o vs} ff e dd hm => by
      obtain ⟨_, o', e', hnf⟩ := ff.mem hm
      rw [e] at e'
      cases e'
      exact hnf _ dd
    have off3 := off fl3.2.2.1 he3 hd3
    have nL : a ≠ X.env.locals := fun z => off3 (List.mem_filterMap.mpr ⟨X.env, List.mem_cons_self, by rw [hf, z]⟩)
    have nF : a ∉ X.fs := fun hm => by
      obtain ⟨e, he, q⟩ := List.mem_filterMap.mp hm
      exact off3 (List.mem_filterMap.mpr ⟨e, List.mem_cons_of_mem _ he, q⟩)
    -- a is new since the entry, and no pin
    have nB : B.get? a = none := fl3.2.1
    have n0 : X.s_0.heap.get? a = none := by
      cases q : X.s_0.heap.get? a with
      | none => rfl
      | some o =>
        obtain ⟨o', q'⟩ := J.base.there a o q (by rw [hex]; exact fun z => nomatch z)
        have z := nb a o' q' (by rw [hst]; exact off3)
        rw [nB] at z
        cases z
    have npin : ∀ p ∈ X.pn ++ pins, p.1 ≠ a := fun p hp z => by
      obtain ⟨e1, _, e3, e4, _⟩ := J.pin p hp
      have z2 := nb p.1 p.2 e1 (by rw [hst, z]; exact off3)
      rw [z, nB] at z2
      cases z2
    have S3 := J3.suite he3 hd3 na nL nF
    refine wpAny_handleBy_cons (codeAny_handlers_test ?_) (by intro q; cases q)
    have LT : PySem.W.Looks (model X.prog X.w) h3 (typeOf (.ref a)) cls := fun A Q E s k q => wpAny_typeOf_ref (k _ _ he3) (by rw [hz3.1]; exact q)
    have LM := PySem.W.exm_one (M := model X.prog X.w) (J3.kIn) LT hb1
    have tst : ∀ {Q : Value → Shared → Prop} {E : Value → Shared → Prop}, Q c { s' with heap := h3 } → wpAny (model X.prog X.w) (X.A.mark (some (.ref a))) (eval (.Name x np) X.env) Q E { s' with heap := h3 } := fun {Q E} q => by
      obtain ⟨hg, hdbg, hm | ⟨hm, hv, hnn⟩⟩ := hc
      · exact ld_glob (X := X.suite a ((a, oe3) :: (X.pn ++ pins))) S3 hg hm q hdbg
      · exact ld_blt (X := X.suite a ((a, oe3) :: (X.pn ++ pins))) S3 hg hm hv q hnn hdbg
    refine tst (LM.here ?_)
    cases b with
    | true =>
      refine codeAny_handlers_suite_as ?_
      refine HandSPX.lands_againZ fl3 fun h4 fl4 up4 => ?_
      have J4 : Inv X pins σ' H' { s' with heap := h4 } := J.landed nb fl4.1 ((up.trans up3).trans up4) os ag
      obtain ⟨oe4, vs4, he4, hz4, hd4⟩ := fl4.there
      have S4 := J4.suite he4 hd4 na nL nF
      refine store_ok (X := X.suite a ((a, oe4) :: (X.pn ++ pins))) (v := .ref a) S4 hN hi loc0 rfl (fun s5 S5 => ?_) (.inr hln)
      have st : PSs (X.suite a ((a, oe4) :: (X.pn ++ pins))) [.Assign [.Name y p1] (.Name n p2) p3] (tAsg (tVar i) (gName j)) := pss_one (ps_set hN hj hly (pe_var hi (.inl hlv) hd hcd) (hs0 _ _) hfy)
      have li : i < σ'.length := by rw [J4.len]; exact (List.getElem?_eq_some_iff.mp hi).1
      refine wpAny_mono (st.run [] s5 _ H' { rt := fun _ _ => False, nx := fun σ6 H6 => σ6 = (σ'.set i (some (.ref a))).set j (some (.ref a)) ∧ H6 = H' } S5 ⟨.ref a, List.getElem?_set_self li, rfl, rfl⟩) (fun f s6 hsp => ?_) (fun _ _ z => False.elim z)
      cases f with
      | next =>
        obtain ⟨σ6, H6, S6, e1, e2⟩ := hsp
        subst e1 e2
        have I6 : Inv X ((a, oe4) :: pins) ((σ'.set i (some (.ref a))).set j (some (.ref a))) H6 s6 := ⟨ok, S6.os, S6.bare, S6.base, S6.loc, S6.cell, S6.free, S6.freeC, fun p hp => S6.pin p (List.mem_append_left _ (by
          rcases List.mem_append.mp hp with h | h
          · exact List.mem_cons_of_mem _ (List.mem_append_left _ h)
          · rcases List.mem_cons.mp h with h | h
            · rw [h]
              exact List.mem_cons_self
            · exact List.mem_cons_of_mem _ (List.mem_append_right _ h))), S6.hok, S6.len⟩
        exact gone_ok I6 hN hi hln fun s7 J7 => ⟨_, _, inv_track J7 hz4 hd4 n0 npin, hyes rfl a na⟩
      | brk => exact let ⟨_, _, _, q⟩ := hsp; q.elim
      | cont => exact let ⟨_, _, _, q⟩ := hsp; q.elim
      | ret u => exact let ⟨_, _, _, _, _, q⟩ := hsp; q.elim
    | false =>
      show wpAny _ X.A (handleBy (.ref a) X.env []) _ _ _
      refine wpAny_handleBy_nil ?_
      obtain ⟨k1, k2, k3, oe, vs, T, oT, ts', he, hz, hdd, h1, hr⟩ := id fl3
      unfold PySem.passOn
      refine wpAny_bind (wpAny_field he hdd h1 ?_)
      rw [if_neg (show ¬ ((Value.ref T == Value.none) = true) from fun z => by simp at z)]
      have fin : wpAny (model X.prog X.w) X.A (setFlight (.ref a) X.env.frame) (fun _ s4 => wpAny (model X.prog X.w) X.A (throw (.ref a) : Sem Flow) (L2.SP X pins D) X.xe s4) X.xe { s' with heap := h3 } := by
        rw [hf]
        refine HandSPX.setFlight_upZ fl3 fun h4 hh4 up4 => wpAny_throw (tk _ _ ?_)
        exact ⟨a, B, sI, pins, σ', H', cls, d, rfl, J, nb, (up.trans up3).trans up4, .inr (.inr (by rw [hst]; exact hh4)), na, os, ag, hno rfl⟩
      first
        | exact wpAny_bind (wpAny_pure (wpAny_bind fin))
        | exact wpAny_bind fin
  · cases f with
    | next =>
      obtain ⟨σ', H', J', q⟩ := hsp
      exact wpAny_execs_nil ⟨σ', H', J'.ofTry ok, q⟩
    | brk => exact let ⟨σ', H', J', q⟩ := hsp; ⟨σ', H', J'.ofTry ok, q⟩
    | cont => exact let ⟨σ', H', J', q⟩ := hsp; ⟨σ', H', J'.ofTry ok, q⟩
    | ret u => exact let ⟨v, σ', H', J', r, q⟩ := hsp; ⟨v, σ', H', J'.ofTry ok, r, q⟩
end
def sTryAs (hs : Nat → Bool) (i j : Nat) (body : SM) : SM := fun env => match body env with
  | .err x env1 => if hs x.id = true then match env1[i]?, env1[j]? with
    | some _, some _ => .ok .nx ((env1.set j (.sh (.exc x.id x.arg))).set i .gone)
    | _, _ => .stuck else .err x env1
  | r => r
section
variable {K : PySem.W.Frag} {mg : Str → Option Value} {B B' H H' : Hp} {env env' : En} {σ σ1 : L2.St} {fp fp' : Nat → Fp} {Wd : WX} {F : Fp} {kp : Kp} {D D' : Ends} {Q : VK}
/-- the exception becomes shared -/
theorem new_exc {x : Ex} {cls : Value} {d : Option Addr} {a : Addr} (l : Le B H) (n : H a = none) (xr : ExRep mg H x cls d) : ∃ B', New K mg B H B' (upd H a (HX cls d a)) (.sh (.exc x.id x.arg)) (.ref a) Nil := by
  classical
  obtain ⟨hm, hx⟩ := xr
  let B1 : Hp := fun b => if d = some b then H b else B b
  have l1 : Le B1 H := fun b o e => by
    by_cases z : d = some b
    · have e' : (if d = some b then H b else B b) = some o := e
      rw [if_pos z] at e'
      exact e'
    · have e' : (if d = some b then H b else B b) = some o := e
      rw [if_neg z] at e'
      exact l b o e'
  have l2 : Le B B1 := fun b o e => by
    show (if d = some b then H b else B b) = some o
    by_cases z : d = some b
    · rw [if_pos z]
      exact l b o e
    · rw [if_neg z]
      exact e
  have n1 : B1 a = none := le_none l1 n
  refine ⟨upd B1 a (HX cls d a), le_upd2 l1, .sh (.exc upd_same hm ?_) nil_no, fun _ h => h.elim, ⟨fun b o _ h => by rw [upd_ne (ne_of_none h n)]; exact h, l2.trans (le_self n1), fun b o h => ?_, fun _ h => h.elim⟩⟩
  · cases e : x.arg with
    | none =>
      rw [e] at hx
      exact hx
    | some m =>
      rw [e] at hx
      obtain ⟨dd, e1, e2⟩ := hx
      refine ⟨dd, e1, ?_⟩
      rw [upd_ne (ne_of_none e2 n)]
      show (if d = some dd then H dd else B dd) = _
      rw [if_pos e1]
      exact e2
  · by_cases hb : b = a
    · exact .inr (.inr (Nw.of (by rw [hb]; exact n)))
    · rw [upd_ne hb] at h
      have h' : (if d = some b then H b else B b) = some o := h
      by_cases z : d = some b
      · refine .inr (.inr fun u e => ?_)
        cases e3 : x.arg with
        | none =>
          rw [e3] at hx
          rw [show d = none from hx] at z
          cases z
        | some m =>
          rw [e3] at hx
          obtain ⟨dd, e1, e2⟩ := hx
          rw [z] at e1
          cases e1
          rw [e] at e2
          exact ⟨_, Option.some.inj e2⟩
      · rw [if_neg z] at h'
        exact .inl h'
theorem tryAs_step {hs : Nat → Bool} {i j : Nat} {body : SM} {c : Value} (hi : kp i = false) (hj : kp j = false) (hij : i ≠ j) (hX : XM K mg c hs) (h : tS K mg Wd kp (sTryAs hs i j body) D σ H) :
    tS K mg (wHold K c i j Wd D) kp body D σ H := by
  obtain ⟨B, env, fp, S, r⟩ := h
  refine ⟨B, env, fp, S, ?_⟩
  unfold sTryAs at r
  cases e : body env with
  | stuck =>
    rw [e] at r
    exact r
  | ok f env1 =>
    rw [e] at r
    cases f with
    | nx => exact r
    | bk => exact r
    | ct => exact r
    | rt w => exact r
  | err x env1 =>
    rw [e] at r
    intro cls d σ' B' H' fp' A k xr
    refine ⟨hs x.id, hX x.id cls xr.1, fun hb a ha => ?_, fun hb => ?_⟩
    · simp only [if_pos hb] at r
      cases q0 : env1[i]? with
      | none =>
        rw [q0] at r
        exact r.elim
      | some w0 =>
        cases q1 : env1[j]? with
        | none =>
          rw [q0, q1] at r
          exact r.elim
        | some w1 =>
          rw [q0, q1] at r
          obtain ⟨B2, nw⟩ := new_exc (K := K) (B := B') A.sim.le ha xr
          have A1 := (A.drop).new nw
          obtain ⟨fp1, A2⟩ := A1.put nw.rep j
          have li : i < σ'.length := by
            rw [← A.sim.len]
            exact (List.getElem?_eq_some_iff.mp q0).1
          have li1 : i < (env1.set j (W.sh (.exc x.id x.arg))).length := by rw [A2.sim.len]; simpa using li
          have S2 : Sim K mg B2 (upd H' a (HX cls d a)) ((env1.set j (.sh (.exc x.id x.arg))).set i .gone) (σ'.set j (some (.ref a))) (fpS fp1 i Nil) := A2.sim.turn (v := .non) li1 (fun z => absurd rfl z) (.gone nil_no) (fun _ z => z.elim) fun _ z => z.elim
          have S3 := S2.forget (i := i) fun w e => by
            rw [List.getElem?_set_self li1] at e
            cases e
            rfl
          have es : ((σ'.set i (some (.ref a))).set j (some (.ref a))).set i none = (σ'.set j (some (.ref a))).set i none := by
            rw [List.set_comm _ _ hij, List.set_set, List.set_comm _ _ (Ne.symm hij)]
          rw [es]
          refine r _ B2 _ _ ⟨S3, A2.gr.less fun b h => ?_, fun _ z => z.elim, fun _ z => z.elim⟩ (k.trans fun z hz => ?_)
          · rcases h with h | h
            · rcases all_set h with h | h
              · exact .inl h
              · exact h.elim
            · exact h.elim
          · rw [List.getElem?_set_ne (fun y => by rw [y, hz] at hi; cases hi), List.getElem?_set_ne (fun y => by rw [y, hz] at hj; cases hj)]
    · simp only [if_neg (show ¬ hs x.id = true by rw [hb]; decide)] at r
      exact r cls d σ' B' H' fp' A k xr
end
theorem ss_tryAs {X : Cx} {Wd : WX} {kp : Kp} {pos pos' np p1 p2 p3 : Pos} {body : List Stmt} {y n c : Str} {b : SM} {cv : Value} (hs : Nat → Bool) (i j : Nat) (hst : X.stack = X.env :: X.outer) (hf : X.env.frame = some X.env.locals) (hex : X.ex = []) (hN : X.N.Nodup) (tk : Takes X Wd)
    (hg : Gl X c) (hm : X.mg c = some cv) (hX : XM X.K X.mg cv hs)
    (hb : ∀ (W : WX) (pn : List (Addr × Obj)) (xe : Value → Shared → Prop), Takes (X.tr pn xe) W → PassesOwn (model X.prog X.w) X.A X.env xe → SB (X.tr pn xe) W kp body b)
    (hki : kp i = false := by rfl) (hkj : kp j = false := by rfl) (hij : i ≠ j := by decide) (hi : X.N[i]? = some n := by rfl) (hj : X.N[j]? = some y := by rfl) (hln : X.env.kindOf n = some .local := by rfl) (hly : Loc X.env.scope y := by first | exact Or.inl rfl | exact Or.inr rfl)
    (hlv : X.env.scope.names.lookup n = some .local := by rfl) (hfy : X.fn y = true ∨ X.env.scope.names.lookup y = some .local := by first | exact .inl rfl | exact .inr rfl | assumption) (hd : (n == ("__debug__" : Str)) = false := by decide) (hcd : (n == ("__classdict__" : Str)) = false := by decide) (hdb : (c == ("__debug__" : Str)) = false := by decide)
    (hs0 : ∀ a pn, swapsWith (.Name n p2) (some (.Name y p1)) p3.line (X.suite a pn).env = pure false := by intros; rfl) :
    SS X Wd kp (.Try body [.ExceptHandler (some (.Name c np)) (some n) [.Assign [.Name y p1] (.Name n p2) p3] pos'] [] [] pos) (sTryAs hs i j b) :=
  PS.less (ps_try_hold (i := i) (j := j) (tb := fun W => tS X.K X.mg W kp b) hst hf hN hi hj hln hly hlv hfy hex ⟨hg, hdb, .inl hm⟩ tk hd hcd hs0 (fun W pn xe t p => hb W pn xe t p)) fun D σ H h => tryAs_step hki hkj hij hX h
end Mi
set_option maxRecDepth 100000
set_option maxHeartbeats 4000000
/-! Mi25: isinstance of a kept exception; its field place. -/
namespace PySem.W
open PySem PySem.Spec PySem.Calls PyProof.Rows
section
variable {pr : Program} {wd : World} {Ar : Around} {Ex : Value → Shared → Prop} {st : Shared} {Fg : Frag} {z Cl : Addr} {oz : Obj} {odz : Option Obj}
theorem mi_find {Cc : Addr} {nm : Str} {at1 gt1 : Value} (h1 : (clsIn Fg Cc).isSome = true) (h2 : findIn Fg (.ref Cc) nm = some (some at1)) (h3 : specialIn Fg at1 "__get__" = some (some gt1)) (h4 : takesIn Fg at1 = some true) : findObj Fg Cc odz nm = some (.bind gt1 at1) := by
  obtain ⟨cd1, e1⟩ := Option.isSome_iff_exists.mp h1
  unfold findObj; rw [e1, Option.bind_some, h2, Option.bind_some]; simp [h3, h4]
theorem mi_cls {Qv : Option Value → Shared → Prop} (g1 : findIn Fg (.ref Cl) "__getattribute__" = some (some (.builtin "BaseException.__getattribute__"))) (g2 : findIn Fg (.ref Cl) "__getattr__" = some none) (g3 : subIn Fg (.ref Cl) (.type "BaseException") = some true)
    (g4 : hasDictIn Fg Cl = true) (g5 : findIn Fg (.ref Cl) "__class__" = some (some (.builtin "object.__class__"))) (g6 : specialIn Fg (.builtin "object.__class__") "__get__" = some (some (.builtin "getset_descriptor.__get__"))) (g7 : takesIn Fg (.builtin "object.__class__") = some true)
    (g8 : mroIn Fg Cl (.type "object") = some true) (Xk : Fg.In st.heap) (Iz : InstAt st.heap z oz Cl odz) (hq : Qv (some (.ref Cl)) { st with toks := st.toks + 1 }) : wpAny (model pr wd) Ar (getAttr? (.ref z) "__class__") Qv Ex st := by
  have hfo : findObj Fg Cl odz "__class__" = some (.bind (.builtin "getset_descriptor.__get__") (.builtin "object.__class__")) := mi_find (by obtain ⟨cd1, e1, _⟩ := any_some g4; rw [e1]; rfl) g5 g6 g7
  obtain ⟨hp1, gg, dd1, tk1, os1⟩ := st
  have M0 := Iz.type (M := model pr wd)
  have M1 := looks_findIn (M := model pr wd) Xk g1
  have M2 := looks_findIn (M := model pr wd) Xk g2
  have M3 := looks_find (M := model pr wd) Xk Iz hfo
  have isB : Looks (model pr wd) hp1 (isInstance (.ref z) (.type "BaseException")) true := M0.andThen (looks_subIn Xk g3)
  have n0 : (false && onTheHeap (Value.builtin "BaseException.__getattribute__")) = false := rfl
  have n2 : (Value.builtin "BaseException.__getattribute__" == Value.builtin "object.__getattribute__") = false := by decide +kernel
  have n1 : (onTheHeap (Value.ref Cl) && Value.builtin "BaseException.__getattribute__" == Value.builtin "object.__getattribute__") = false := by rw [n2]; rfl
  unfold getAttr? getAttrBy? getAttrBy; refine wpAny_bind (wpAny_mkText (wpAny_bind (wpAny_attempt (wpAny_holding (wpAny_bind (M0.at (wpAny_bind (M1.at ?_))))))))
  show wpAny _ _ (if (onTheHeap (Value.ref Cl) && Value.builtin "BaseException.__getattribute__" == Value.builtin "object.__getattribute__") = true then _ else _) _ _ _
  rw [n1, if_neg Bool.false_ne_true]; unfold getAttrByItsOwn hookBefore; refine wpAny_bind ?_
  rw [if_pos (show onTheHeap (Value.ref Cl) = true from rfl)]; refine M2.at ?_
  refine wpAny_bind (wpAny_attempt (wpAny_holding ?_)); unfold callGetattribute
  rw [n0, if_neg Bool.false_ne_true]; unfold boundAndCalled
  rw [PySem.F.excAttr_ValueError.ga.bind (.ref z)]; refine wpAny_bind (wpAny_pure ?_)
  show wpAny _ _ (call (.builtin "BaseException.__getattribute__") [.ref z, .str "__class__" tk1]) _ _ _
  refine wpAny_call (codeAny_call_builtin PySem.F.excAttr_ValueError.ga.plain PySem.F.entry_bexc_ga ?_); refine @check_slot (model pr wd) _ _ ⟨hp1, gg, dd1, tk1 + 1, os1⟩ "BaseException.__getattribute__" "BaseException" "__getattribute__" (.ref z) [.str "__class__" tk1] [] _ (by decide +kernel) (by decide +kernel) isB (PySem.F.args_bexc_ga (.ref z) (.str "__class__" tk1)) ?_
  unfold Builtin.«object.__getattribute__»; refine wpAny_bind (wpAny_of_eq (a := ((Value.ref z : Value), [Value.str "__class__" tk1])) (by first | rfl | (simp only [slotArgs]; rfl)) ?_)
  refine wpAny_bind (wpAny_pure (wpAny_bind (M0.at (wpAny_bind (M3.at ?_))))); show wpAny _ _ (holding [Value.builtin "object.__class__"] (call (.builtin "getset_descriptor.__get__") [.builtin "object.__class__", .ref z, .ref Cl]) >>= ret) _ _ _
  refine wpAny_bind (wpAny_holding (wpAny_call (class_get (s := ⟨hp1, gg, dd1, tk1 + 1, os1⟩) (ox := oz) (od := odz) Xk Iz g8 ?_)))
  refine wpAny_pure ?_; show wpAny _ _ (handedOut (.ref Cl)) _ _ _
  rw [handedOut_of (v := .ref Cl) rfl]; first
    | exact wpAny_pure (wpAny_pure hq)
    | exact wpAny_pure hq
    | exact wpAny_pure (wpAny_bind (wpAny_pure (wpAny_pure hq)))
theorem mi_kitx (Ec : L2.ExcC Fg Cl) : KitX Fg (.ref z) (.ref Cl) (fun h => InstAt h z oz Cl odz) where
  ty := fun _ _ _ I => I.type
  it := fun _ _ Xk _ => by
    obtain ⟨cd1, e1, _⟩ := any_some Ec.hd
    unfold clsIn at e1
    split at e1
    · rename_i c' d' cd' sl' ho
      intro A1 Q1 E1 s1 k1 q1
      unfold isType loadHead; exact wpAny_bind (wpAny_loadPart (k1 _ _ (Xk _ _ ho)) (wpAny_pure q1))
    · cases e1
  ne := fun h tp dd its n sl Xk htp => by
    obtain ⟨cd1, e1, _⟩ := any_some Ec.hd
    refine Bool.eq_false_iff.mpr fun q1 => ?_
    have e2 : Cl = tp := Value.ref.inj (beq_iff_eq.mp q1)
    subst e2
    unfold clsIn at e1
    split at e1
    · rename_i c' d' cd' sl' ho
      have e3 := (Xk _ _ ho).symm.trans htp
      cases e3
    · cases e1
  ca := fun Xk Iz hq => mi_cls Ec.hg Ec.hk Ec.hs Ec.hd Ec.ha Ec.hn Ec.ht Ec.hm Xk Iz hq
end
end PySem.W
namespace Mi
open PySem PySem.Spec PyProof.Rows L2
/-- isinstance(e, C), e an exception of the program or None: q tells for which of its classes -/
def pIsx (q : Nat → Bool) : D → Option W
  | .exc id _ => some (wB (q id))
  | .non => some (wB false)
  | _ => none
def pPlace : D → Option W
  | .exc id (some n) => if 16 ≤ id then some (.sh (.int n)) else none
  | _ => none
/-- what is known of the classes -/
structure XI (K : PySem.W.Frag) (mg : Str → Option Value) (cv : Value) (q : Nat → Bool) : Prop where
  ex : ∀ (id : Nat) (cls : Value), mg (exNm id) = some cls → ∃ C, cls = .ref C ∧ ExcC K C ∧ PySem.W.kitOne K (.ref C) cv = some (q id)
  no : PySem.W.kitOne K (.type "NoneType") cv = some false
section
variable {K : PySem.W.Frag} {mg : Str → Option Value} {B H : Hp}
theorem repO_exc {id : Nat} {arg : Option Int} {v : V} (h : RepO K mg B H (.exc id arg) v) : ∃ (a : Addr) (cls : Value) (d : Option Addr), v = .ref a ∧ B a = some (HX cls d a) ∧ mg (exNm id) = some cls ∧ match arg with | none => d = none | some n => ∃ dd, d = some dd ∧ B dd = some (.xd [("place", .int n)]) := by
  rcases h with h | ⟨_, _, _, e, _⟩ | ⟨_, _, _, _, _, _, e, _⟩
  · cases h with
    | exc h1 h2 h3 =>
      refine ⟨_, _, _, rfl, h1, h2, ?_⟩
      cases arg with
      | none => exact h3
      | some n => exact h3
  · cases e
  · cases e
end
def rIsx (K : PySem.W.Frag) : List V → Hp → VK → Prop := fun xs H Q => rIsi K xs H Q ∨ ∃ (a C : Addr) (d : Option Addr) (c : V) (cv : Value) (b : Bool), xs = [.ref a, c] ∧ ClsV c cv ∧ H a = some (HX (.ref C) d a) ∧ (∀ dd, d = some dd → ∃ fs, H dd = some (.xd fs)) ∧ ExcC K C ∧ PySem.W.kitOne K (.ref C) cv = some b ∧ Q (.bl b) H
theorem call_isx {X : Cx} : CallR X (.builtin "isinstance") (rIsx X.K) := by
  refine CallR.or call_isi ?_
  intro pins s σ H xs us Q I r h
  obtain ⟨a, C, d, c, cv, b, rfl, k, ha, hd, hC, e, q⟩ := h
  obtain ⟨u1, u2, rfl, r1, r2⟩ := vals2 r
  cases (show u1 = Value.ref a from r1)
  have ec := k.eq r2
  subst ec
  obtain ⟨⟨oe, vs, he, hz, hf⟩, _⟩ := (show ObjOk X.prog X.w H s.heap a (HX (.ref C) d a) from I.hok a _ ha)
  obtain ⟨od, J⟩ : ∃ od, PySem.W.InstAt s.heap a oe C od := by
    have h2 : PySem.W.notCls oe = true := by unfold PySem.W.notCls; rw [hf]
    cases d with
    | none => exact ⟨none, he, hz.1, h2, by rw [hz.2]; trivial⟩
    | some dd =>
      obtain ⟨fs, hfs⟩ := hd dd rfl
      obtain ⟨mA, hns, _⟩ := (show ObjOk X.prog X.w H s.heap dd (.xd fs) from I.hok dd _ hfs)
      obtain ⟨od, ho, _⟩ := lookIn_ns hns
      exact ⟨some od, he, hz.1, h2, by rw [hz.2]; exact ho⟩
  exact PySem.W.kia_one (PySem.W.mi_kitx hC) I.kIn J e (fun z => nomatch z) fun tk => ⟨.bl b, H, I.tok tk, rfl, q⟩
theorem se_isx {X : Cx} {Wd : WX} {e ce : Expr} {m : EM} {p pos : Pos} {c : V} {cv : Value} (q : Nat → Bool) (hI : XI X.K X.mg cv q) (hc : ClsV c cv) (hg : Gl X "isinstance") (hm : X.mg "isinstance" = none) (he : SE X Wd e m) (hce : PE X ce (tC c))
    (hs : starEach [e, ce] X.env = (false, eval e X.env) :: starEach [ce] X.env := by rfl) (hs2 : starEach [ce] X.env = (false, eval ce X.env) :: starEach [] X.env := by rfl)
    (hpl : (backTo pos (starEach [ce] X.env)).any (·.1) = false := by rfl) : SE X Wd (.Call (.Name "isinstance" p) [e, ce] [] pos) (eP1 (pIsx q) m) :=
  PE.less (pe_callB call_isx hg hm (by kernel_rfl) (pa_cons he (pa_cons hce pa_nil hs2) hs) (by decide) (by decide) hs hpl) fun σ H Q h => (prim1_step h).mono fun x H1 ⟨B, d, w, l, r, hp, k⟩ => by
    cases d <;> first | (cases hp; done) | skip
    · cases hp
      cases repO_non r
      exact .inl ⟨.non, c, _, cv, false, rfl, hc, .base .non, hI.no, new_same l k (.bl _)⟩
    · rename_i id arg
      cases hp
      obtain ⟨a, cls, d, rfl, h1, h2, h3⟩ := repO_exc r
      obtain ⟨C, rfl, hC, hk⟩ := hI.ex id cls h2
      refine .inr ⟨a, C, d, c, cv, q id, rfl, hc, l _ _ h1, fun dd ed => ?_, hC, hk, new_same l k (.bl _)⟩
      cases arg with
      | none =>
        rw [show d = none from h3] at ed
        cases ed
      | some n =>
        obtain ⟨d2, e2, e3⟩ := h3
        rw [e2] at ed
        cases ed
        exact ⟨_, l _ _ e3⟩
/-- e.place -/
def rPlace (K : PySem.W.Frag) : V → Hp → VK → Prop := fun x H Q => ∃ (a C dd : Addr) (n : Int), x = .ref a ∧ H a = some (HX (.ref C) (some dd) a) ∧ H dd = some (.xd [("place", .int n)]) ∧ XfC K C ∧ PySem.W.findIn K (.ref C) "place" = some none ∧ Q (.int n) H
theorem pe_place {X : Cx} {e : Expr} {te : TE} {pos : Pos} (he : PE X e te) (hb : attributeBase e "place" X.env (eval e X.env) = eval e X.env := by rfl) : PE X (.Attribute e "place" pos) (fun σ H Q => te σ H fun x H1 => rPlace X.K x H1 Q) := by
  refine ⟨fun pins s σ H Q I h => ?_⟩
  refine attr_of hb (thn (he.run pins s σ H _ I h) fun u s1 hh => ?_)
  obtain ⟨x, H1, I1, rx, a, C, dd, n, ex, ha, hd, T, hno, q⟩ := hh
  subst ex
  cases (show u = Value.ref a from rx)
  obtain ⟨⟨oe, vs, he2, hz, hf⟩, _⟩ := (show ObjOk X.prog X.w H1 s1.heap a (HX (.ref C) (some dd) a) from I1.hok a _ ha)
  obtain ⟨mA, hns, hr⟩ := (show ObjOk X.prog X.w H1 s1.heap dd (.xd [("place", .int n)]) from I1.hok dd _ hd)
  obtain ⟨od, ho, hl⟩ := lookIn_ns hns
  obtain ⟨u2, hu, ru⟩ := RelO.some_of (v := .int n) (o := mA "place") (by have z := hr "place"; simpa using z)
  have J : PySem.W.InstAt s1.heap a oe C (some od) := ⟨he2, hz.1, by unfold PySem.W.notCls; rw [hf], by rw [hz.2]; exact ho⟩
  exact HandSPX.exc_get I1.kIn J T.ga T.gg T.exC (PySem.W.findObj_own T.hdC hno rfl (by rw [hl, hu])) (handed_of ru) ⟨.int n, H1, I1.tok _, ru, q⟩
theorem se_place {X : Cx} {Wd : WX} {e : Expr} {m : EM} {pos : Pos} {C0 : Addr} (he : SE X Wd e m) (h1 : ∀ id, 16 ≤ id → X.mg (exNm id) = some (.ref C0)) (h2 : XfC X.K C0) (h3 : PySem.W.findIn X.K (.ref C0) "place" = some none) (hb : attributeBase e "place" X.env (eval e X.env) = eval e X.env := by rfl) : SE X Wd (.Attribute e "place" pos) (eP1 pPlace m) :=
  PE.less (pe_place he hb) fun σ H Q h => (prim1_step h).mono fun x H1 ⟨B, d, w, l, r, hp, k⟩ => by
    cases d <;> first | (cases hp; done) | skip
    rename_i id arg
    cases arg with
    | none => cases hp
    | some n =>
      obtain ⟨hid, rfl⟩ := ite_some (show (if 16 ≤ id then some (W.sh (.int n)) else none) = some w from hp)
      obtain ⟨a, cls, d, rfl, e1, e2, e3⟩ := repO_exc r
      obtain ⟨dd, rfl, e4⟩ := e3
      rw [h1 id hid] at e2
      cases e2
      exact ⟨a, C0, dd, n, rfl, l _ _ e1, l _ _ e4, h2, h3, new_same l k (.int _)⟩
end Mi
set_option maxRecDepth 100000
set_option maxHeartbeats 4000000
/-! Mi26: list * int, text * int; xs.pop(). -/
namespace Mi
open PySem PySem.Spec PyProof.Rows L2
def repS (x : Str) (n : Nat) : Str := ⟨(List.replicate n x.cps).foldl (· ++ ·) #[]⟩
def rRepX (K : PySem.W.Frag) : R2 := fun x y H Q => ∃ a k xs, x = .ref a ∧ y = .int k ∧ SqX K H a xs ∧ -(2 ^ 63) ≤ k ∧ k < 2 ^ 63 ∧ xs.length * k.toNat ≤ sizeLine ∧ ∀ p, H p = none → Q (.ref p) (upd H p (.lst (List.replicate k.toNat xs).flatten))
theorem op_repX {X : Cx} : OpR X (binaryOp .Mult) (rRepX X.K) := by
  intro pins s σ H x y v u Q I rx ry h
  obtain ⟨a, k, xs, rfl, rfl, hH, h1, h2, hz, q⟩ := h
  cases rx
  obtain ⟨t, rfl⟩ := ry
  obtain ⟨its, n, r, e⟩ := rd_exact I hH
  have hl := r.length
  have len1 : its.toArray.size * k.toNat ≤ sizeLine := by rw [List.size_toArray, ← hl]; exact hz
  have cap1 : ¬ its.toArray.size * k.toNat > (2 ^ 63 - 1) / 8 := by
    have z : (sizeLine : Nat) ≤ (2 ^ 63 - 1) / 8 := by decide
    omega
  have fit1 : ¬ (!Builtin.List.listFitsIndex k) = true := by rw [fitsIndex_both h1 h2]; exact Bool.false_ne_true
  have long1 : ¬ Builtin.List.listTooLong (its.toArray.size * k.toNat) = true := by rw [notLongL len1]; exact Bool.false_ne_true
  have new1 : List.foldl (fun x1 x2 => x1 ++ x2) #[] (List.replicate (if its.toArray.isEmpty = true then 0 else k.toNat) its.toArray) = (List.replicate k.toNat its).flatten.toArray := by
    have f1 : ∀ m : Nat, List.foldl (fun x1 x2 => x1 ++ x2) #[] (List.replicate m its.toArray) = (List.replicate m its).flatten.toArray := fun m => by
      have z := foldl_rep its m []
      rw [List.nil_append] at z
      exact z
    rw [f1]
    cases its with
    | nil => simp
    | cons b r' => rw [if_neg (by simp)]
  refine wpAny_binaryOp_repeat_ref (T := "list") (U := "int") (by decide) ⟨_, e, rfl⟩ (fun s' => typeIs_int s' k t) noFill_list_mul F.fills_int_mul F.slot_int_rmul repeat_list F.slot_int_index.lookup
    (call_meets F.slot_int_rmul (typeIs_int s k t) F.entry_int_rmul (F.args_int_rmul_2 _ _) (int___rmul___int_list k t a its.toArray n)
      ⟨e, rfl, ⟨_, e, rfl⟩, call_meets F.slot_list_mul ⟨_, e, rfl⟩ F.entry_list_mul (F.args_list_mul_2 _ _) (AutoListH.list___mul___list_int_3 a its.toArray n k t fit1 cap1 long1) ⟨e, ?_⟩⟩)
  rw [new1]
  exact ⟨.ref _, _, I.lnew (t' := s.toks) (r.rep k.toNat) (by rw [PyProof.Rows.lm_len_rep_flat, Nat.mul_comm]; exact hz), rfl, q _ I.fresh⟩
def rRepS : R2 := fun x y H Q => ∃ z n, x = .str z ∧ y = .int n ∧ 2 ≤ n ∧ n ≤ 1000 ∧ 1 ≤ z.length ∧ z.length ≤ 1000 ∧ (repS z n.toNat).length ≤ sizeLine ∧ Q (.str (repS z n.toNat)) H
theorem op_repS {X : Cx} : OpR X (binaryOp .Mult) rRepS := by
  intro pins s σ H x y v u Q I rx ry h
  obtain ⟨z, n, rfl, rfl, h1, h2, h3, h4, h5, q⟩ := h
  obtain ⟨t, rfl⟩ := rx
  obtain ⟨t', rfl⟩ := ry
  have e0 : ¬ n < 1 := by omega
  have e1 : (n == 1 || z.length == 0) = false := by
    have a1 : (n == 1) = false := by rw [beq_eq_false_iff_ne]; omega
    have a2 : (z.length == 0) = false := by rw [beq_eq_false_iff_ne]; omega
    rw [a1, a2]; rfl
  have hlen : z.length * n.toNat ≤ 1000 * 1000 := Nat.mul_le_mul h4 (by omega)
  refine PySem.P.mul_str ?_ (fun _ _ => ?_) (fun _ _ => ?_) ?_
  · have a1 : decide (n < -(2 ^ 63 : Int)) = false := decide_eq_false (by omega)
    have a2 : decide (n ≥ 2 ^ 63) = false := decide_eq_false (by omega)
    rw [a1, a2]; rfl
  · have a3 : (2 ^ 63 - 1) / 1000 ≤ ((2 ^ 63 - 1) / n : Int) := Int.le_ediv_of_mul_le (by omega) (by omega)
    omega
  · exact decide_eq_false (by rw [sizeLine_eq]; omega)
  · rw [if_neg e0, e1, if_neg Bool.false_ne_true]
    exact ⟨h5, .str (repS z n.toNat), H, I.tok _, ⟨_, rfl⟩, q⟩
def pMulM : D → D → Option W
  | .int i, .int j => (gMul i j).map fun k => .sh (.int k)
  | .str z, .int n => if 2 ≤ n ∧ n ≤ 1000 ∧ 1 ≤ z.length ∧ z.length ≤ 1000 ∧ (repS z n.toNat).length ≤ sizeLine then some (.sh (.str (repS z n.toNat))) else none
  | .lst ds, .int k => if -(2 ^ 63) ≤ k ∧ k < 2 ^ 63 ∧ ds.length * k.toNat ≤ sizeLine then some (.ol (List.replicate k.toNat ds).flatten) else none
  | _, _ => none
def rMulM (K : PySem.W.Frag) : R2 := fun x y H Q => (rI CMul fun i j => .int (i * j)) x y H Q ∨ rRepS x y H Q ∨ rRepX K x y H Q
theorem op_mulM {X : Cx} : OpR X (binaryOp .Mult) (rMulM X.K) := op_mul.or (op_repS.or op_repX)
section
variable {K : PySem.W.Frag} {mg : Str → Option Value} {B H : Hp}
theorem Reps.rep {ds : List Mi.D} {vs : List V} (h : Reps K mg B ds vs) : ∀ n : Nat, Reps K mg B (List.replicate n ds).flatten (List.replicate n vs).flatten
  | 0 => .nil
  | n + 1 => by
    rw [List.replicate_succ, List.replicate_succ, List.flatten_cons, List.flatten_cons]
    exact h.append (h.rep n)
theorem op2_mulM : Op2 K mg (rMulM K) pMulM := by
  intro B H x y d e w Q l rx ry hp q
  cases d <;> cases e <;> first | (cases hp; done) | skip
  · exact .inl (op2_mul B H x y _ _ w Q l rx ry hp q)
  · obtain ⟨⟨h1, h2, h3, h4, h5⟩, rfl⟩ := ite_some hp
    cases repO_str rx
    cases repO_int ry
    exact .inr (.inl ⟨_, _, rfl, rfl, h1, h2, h3, h4, h5, new_same l q (.str _)⟩)
  · obtain ⟨⟨h1, h2, h3⟩, rfl⟩ := ite_some hp
    obtain ⟨a, vs, rfl, hs, rr⟩ := rd_list rx l
    cases repO_int ry
    refine .inr (.inr ⟨a, _, vs, rfl, rfl, hs, h1, h2, by rw [← rr.1]; exact h3, fun p hn => q _ _ _ _ (new_ol l hn (rr.rep _))⟩)
end
/-! ### xs.pop() -/
def ePop (i : Nat) : EM := fun env => match env[i]? with
  | some (.ol ds) => match ds[ds.length - 1]? with
    | some d => .ok (.val (.sh d)) (env.set i (.ol ds.dropLast))
    | none => .stuck
  | _ => .stuck
section
variable {K : PySem.W.Frag} {mg : Str → Option Value} {B B' H H' : Hp} {env env' : En} {σ : L2.St} {fp fp' : Nat → Fp} {Wd : WX} {F : Fp} {Q : VK}
theorem Reps.dropLast {ds : List Mi.D} {vs : List V} (h : Reps K mg B ds vs) : Reps K mg B ds.dropLast vs.dropLast := by
  rw [List.dropLast_eq_take, List.dropLast_eq_take, ← h.1]
  exact h.take _
theorem pop_step {i : Nat} (h : tE K mg Wd (ePop i) σ H Q) : tBM0 K "list" rPop (tVar i) σ H Q := by
  obtain ⟨B, env, fp, S, r⟩ := h
  unfold ePop at r
  cases q0 : env[i]? with
  | none =>
    rw [q0] at r
    exact r.elim
  | some w =>
    cases w with
    | ol ds =>
      rw [q0] at r
      simp only at r
      cases q1 : ds[ds.length - 1]? with
      | none =>
        rw [q1] at r
        exact r.elim
      | some d =>
        rw [q1] at r
        obtain ⟨a, vs, hσ, ha, rs, _⟩ := S.own q0
        obtain ⟨v, hv, rv⟩ := rs.get q1
        obtain ⟨S3, g3⟩ := S.write q0 hσ rs.dropLast
        refine ⟨.ref a, hσ, .inl ⟨rfl, vs, SqL.of ha⟩, a, vs, v, rfl, rfl, ha, by rw [← rs.1]; exact hv, ?_⟩
        exact r v B _ fp Nil ⟨S3, g3.less fun b h => h.elim id fun z => z.elim, fun _ z => z.elim, fun _ z => z.elim⟩ (.sh rv nil_no)
    | _ =>
      rw [q0] at r
      exact r.elim
end
theorem se_pop {X : Cx} {Wd : WX} {xpos apos cpos : Pos} (i : Nat) {x : Str} (hN : X.N[i]? = some x := by rfl) (hv : Vis X.env.scope x := by first | exact Or.inl rfl | exact Or.inr (Or.inl rfl) | exact Or.inr (Or.inr rfl)) (hd : (x == ("__debug__" : Str)) = false := by decide) (hcd : (x == ("__classdict__" : Str)) = false := by decide)
    (hbase : attributeBase (.Name x xpos) "pop" X.env (eval (.Name x xpos) X.env) = eval (.Name x xpos) X.env := by rfl) (hline : (apos.endLine == cpos.line) = true := by rfl) :
    SE X Wd (.Call (.Attribute (.Name x xpos) "pop" apos) [] [] cpos) (ePop i) :=
  PE.less (pe_bm0 PySem.F.plainAttrs_list PySem.F.slot_list_pop PySem.F.type_list_pop mt_pop (pe_var hN hv hd hcd) hbase hline) fun _ _ _ h => pop_step h
/-- a call without arguments -/
theorem se_call0 {X : Cx} {Wd : WX} {pos p : Pos} {x : Str} {k j : Nat} {m : FM} (G : FO X.prog X.w X.K X.mg X.base x k 0 [] m) (hr : Room j X.A) (hk : k ≤ j) (tk : Takes X Wd) (hg : Gl X x) (hdb : (x == ("__debug__" : Str)) = false := by decide) : SE X Wd (.Call (.Name x p) [] [] pos) (eCall m aNil) := by
  obtain ⟨f, fd, ps, hm, kp, b, F⟩ := G.ex
  refine ⟨fun pins s σ H Q I h => wpAny_Call_Name_kw (ld_glob I hg hm ?_ hdb)⟩
  have h1 := aNil_step (call_step (n := 0) (fun _ _ _ q => by cases q; rfl) h)
  exact PySem.W.callWith_K0 I.kIn kp (run_fnS F (hr.mono hk) b (passAt tk σ) I .nil h1)
end Mi
set_option maxRecDepth 100000
/-! Mi27: mirrors evaluated: match, all, pop, products, kept exceptions. -/
namespace Mi
open PySem PySem.Spec PyProof.Rows L2
theorem map_toNat_inj : ∀ {a b : List Char}, a.map Char.toNat = b.map Char.toNat → a = b
  | [], [], _ => rfl
  | [], _ :: _, h => by cases h
  | _ :: _, [], h => by cases h
  | x :: xs, y :: ys, h => by
    rw [List.map_cons, List.map_cons, List.cons.injEq] at h
    have e : x = y := Char.ext (UInt32.toNat.inj h.1)
    rw [e, map_toNat_inj h.2]
@[simp] theorem ofString_inj {a b : String} : Str.ofString a = Str.ofString b ↔ a = b := by
  refine ⟨fun h => ?_, fun h => by rw [h]⟩
  rw [Str.ofString_eq_toList, Str.ofString_eq_toList] at h
  have h2 : a.toList.map Char.toNat = b.toList.map Char.toNat := by
    have h3 := congrArg (fun x : Str => x.cps.toList) h
    simpa using h3
  exact String.toList_inj.mp (map_toNat_inj h2)
example : (Str.ofString "not" = Str.ofString "is") = False := by simp
section
variable {env env1 : En} {i j n : Nat} {d : D} {w : W} {o : O} {os : List O} {m a b c : EM} {ms : AM} {z : Str} {ps : List Str} {sb : SM} {mc : MC}
@[simp] theorem mulM_ii {x y : Int} : pMulM (.int x) (.int y) = (gMul x y).map fun k => .sh (.int k) := rfl
@[simp] theorem mulM_li {ds : List D} {k : Int} : pMulM (.lst ds) (.int k) = if -(2 ^ 63) ≤ k ∧ k < 2 ^ 63 ∧ ds.length * k.toNat ≤ sizeLine then some (.ol (List.replicate k.toNat ds).flatten) else none := rfl
@[simp] theorem sMatch_ap : sMatch m mc env = (m env).bind fun o env1 => match res o env1 with | some (.str z) => mc z env1 | _ => .stuck := rfl
@[simp] theorem mcNil_ap : mcNil z env = .ok .nx env := rfl
@[simp] theorem mcCons_ap : mcCons ps sb mc z = if z ∈ ps then sb else mc z := rfl
@[simp] theorem pAll_bls {bs : List Bool} : pAll [.lst (bs.map .bl)] = some (.sh (.bl (bs.all id))) := by
  show (bls (bs.map .bl)).map _ = _
  rw [bls_map]
  rfl
@[simp] theorem ePop_ap : ePop i env = match env[i]? with
  | some (.ol ds) => match ds[ds.length - 1]? with
    | some d => .ok (.val (.sh d)) (env.set i (.ol ds.dropLast))
    | none => .stuck
  | _ => .stuck := rfl
@[simp] theorem pIsx_e {q : Nat → Bool} {id : Nat} {x : Option Int} : pIsx q (.exc id x) = some (wB (q id)) := rfl
@[simp] theorem pIsx_n {q : Nat → Bool} : pIsx q .non = some (wB false) := rfl
@[simp] theorem sTryAs_ap {hs : Nat → Bool} {x : SM} : sTryAs hs i j x env = match x env with
  | .err x env1 => if hs x.id = true then match env1[i]?, env1[j]? with
    | some _, some _ => .ok .nx ((env1.set j (.sh (.exc x.id x.arg))).set i .gone)
    | _, _ => .stuck else .err x env1
  | r => r := rfl
@[simp] theorem sTryGet_ap {hs : Nat → Bool} {x : SM} : sTryGet hs i j x env = match x env with
  | .err x env1 => if hs x.id = true then match x.arg, env1[i]? with
    | some n, some _ => .ok .nx ((env1.set j (.sh (.int n))).set i .gone)
    | _, _ => .stuck else .err x env1
  | r => r := rfl
@[simp] theorem sUnp_ap {is : List Nat} : sUnp is m env = (m env).bind fun o env1 => match (sres o env1).bind fun d => (Tg.tp is).asg d env1 with | some e => .ok .nx e | none => .stuck := rfl
@[simp] theorem asg_tp {is : List Nat} {ds : List D} : (Tg.tp is).asg (.tup ds) env = asgs is ds env := rfl
@[simp] theorem asg_nm : (Tg.nm i).asg d env = some (env.set i (.sh d)) := rfl
@[simp] theorem asgs_n : asgs [] [] env = some env := rfl
@[simp] theorem asgs_c {is : List Nat} {ds : List D} : asgs (i :: is) (d :: ds) env = asgs is ds (env.set i (.sh d)) := rfl
theorem at2_0 {α : Type} {a b : α} : atI [a, b] 0 = some a := rfl
theorem at2_1 {α : Type} {a b : α} : atI [a, b] 1 = some b := rfl
theorem at1_0 {α : Type} {a : α} : atI [a] 0 = some a := rfl
end
/-- a comprehension whose part is computed of the loop's name alone -/
theorem compGo_map {c : En → Prop} {m : EM} {j : Nat} {g : D → D} {env : En} (hj : env.set j .gone = env) (hc : c env) : ∀ (ds acc : List D), (∀ d ∈ ds, ∃ o, m (env.set j (.sh d)) = .ok o (env.set j (.sh d)) ∧ sres o (env.set j (.sh d)) = some (g d)) → acc.length + ds.length ≤ sizeLine →
    compGo c (.nm j) bYes m [j] ds acc env = .ok (.val (.ol (acc ++ ds.map g))) env
  | [], acc, _, _ => by rw [compGo_nil hc]; simp
  | d :: ds, acc, hm, hl => by
    simp only [List.length_cons] at hl
    obtain ⟨o, e1, e2⟩ := hm d List.mem_cons_self
    have e3 : clr [j] (env.set j (.sh d)) = env := by
      show (env.set j (.sh d)).set j .gone = env
      rw [List.set_set, hj]
    rw [compGo_cons hc, asg_nm]
    show (match m (env.set j (.sh d)) with
        | .ok o env3 => (match sres o env3 with
          | some y => if acc.length < sizeLine then compGo c (.nm j) bYes m [j] ds (acc ++ [y]) (clr [j] env3) else .stuck
          | none => .stuck)
        | .err x env3 => .err x (clr [j] env3)
        | .stuck => .stuck) = _
    rw [e1]
    simp only [e2]
    rw [if_pos (by omega), e3, compGo_map hj hc ds (acc ++ [g d]) (fun x hx => hm x (List.mem_cons_of_mem _ hx)) (by simp; omega)]
    simp
/-- a comprehension over a name's row, the part computed of the loop's name alone -/
theorem eLcV_map {m : EM} {i j : Nat} {g : D → D} {env : En} {ds : List D} {d0 : D} (hi : env[i]? = some (.sh d0)) (hs : seqD d0 = some ds) (hj : env.set j .gone = env) (hm : ∀ d ∈ ds, ∃ o, m (env.set j (.sh d)) = .ok o (env.set j (.sh d)) ∧ sres o (env.set j (.sh d)) = some (g d)) (hl : ds.length ≤ sizeLine) :
    eLcV i (.nm j) bYes m [j] env = .ok (.val (.ol (ds.map g))) env := by
  unfold eLcV
  have e : ((env[i]?).bind W.fz).bind seqD = some ds := by rw [hi]; exact hs
  have e3 : clr [j] env = env := hj
  rw [e]
  simp only
  rw [e3, compGo_map (c := fun env' => env'[i]? = env[i]?) hj rfl ds [] hm (by simpa using hl)]
  simp
theorem eLc_map {e m : EM} {j : Nat} {g : D → D} {env env1 : En} {w : W} {d0 : D} {ds : List D} (he : e env = .ok (.val w) env1) (hf : w.fz = some d0) (hs : seqD d0 = some ds) (hj : env1.set j .gone = env1) (hm : ∀ d ∈ ds, ∃ o, m (env1.set j (.sh d)) = .ok o (env1.set j (.sh d)) ∧ sres o (env1.set j (.sh d)) = some (g d)) (hl : ds.length ≤ sizeLine) :
    eLc e (.nm j) bYes m [j] env = .ok (.val (.ol (ds.map g))) env1 := by
  unfold eLc
  rw [he]
  show (match (w.fz).bind seqD with | some ds => compGo (fun _ => True) (.nm j) bYes m [j] ds [] (clr [j] env1) | none => .stuck) = _
  have e3 : clr [j] env1 = env1 := hj
  have e4 : (w.fz).bind seqD = some ds := by rw [hf]; exact hs
  rw [e4]
  simp only
  rw [e3, compGo_map hj trivial ds [] hm (by simpa using hl)]
  simp
theorem flats_str : ∀ ys : List Str, flats (ys.map .str) = some (ys.map .str)
  | [] => rfl
  | y :: ys => by
    show (flat (.str y)).bind (fun v => (flats (ys.map .str)).map fun vs => v :: vs) = _
    rw [flats_str ys]
    rfl
theorem inV_str (x : Str) (ys : List Str) : inV (.str x) (ys.map .str) = decide (x ∈ ys) := by
  induction ys with
  | nil => rfl
  | cons y ys ih =>
    have e : inV (.str x) ((y :: ys).map .str) = (eqV (.str y) (.str x) || inV (.str x) (ys.map .str)) := rfl
    have e2 : eqV (.str y) (.str x) = decide (x = y) := by
      by_cases h : x = y
      · subst h
        simp [eqV]
      · have h2 : ¬ y = x := fun z => h z.symm
        simp [eqV, h, h2]
    rw [e, ih, e2]
    simp [List.mem_cons]
theorem in_tup {neg : Bool} (x : Str) (ys : List Str) : pIn neg (.str x) (.tup (ys.map .str)) = some (.sh (.bl (neg != decide (x ∈ ys)))) := by
  have e : inD (.str x) (.tup (ys.map .str)) = some (decide (x ∈ ys)) := by
    show (match inFl (.str x) (ys.map .str) with | some b => some b | none => inDp (.str x) (ys.map .str)) = _
    have e1 : inFl (.str x) (ys.map .str) = some (decide (x ∈ ys)) := by
      show (flat (.str x)).bind (fun v => (flats (ys.map .str)).map fun vs => inV v vs) = _
      rw [flats_str]
      show some (inV (.str x) (ys.map .str)) = _
      rw [inV_str]
    rw [e1]
  show (inD (.str x) (.tup (ys.map .str))).map _ = _
  rw [e]
  rfl
theorem in_lst {neg : Bool} (x : Str) (ys : List Str) : pIn neg (.str x) (.lst (ys.map .str)) = some (.sh (.bl (neg != decide (x ∈ ys)))) := by
  have e : inD (.str x) (.lst (ys.map .str)) = some (decide (x ∈ ys)) := by
    show (match inFl (.str x) (ys.map .str) with | some b => some b | none => inDp (.str x) (ys.map .str)) = _
    have e1 : inFl (.str x) (ys.map .str) = some (decide (x ∈ ys)) := by
      show (flat (.str x)).bind (fun v => (flats (ys.map .str)).map fun vs => inV v vs) = _
      rw [flats_str]
      show some (inV (.str x) (ys.map .str)) = _
      rw [inV_str]
    rw [e1]
  show (inD (.str x) (.lst (ys.map .str))).map _ = _
  rw [e]
  rfl
@[simp] theorem in_t2 {neg : Bool} {x a b : Str} : pIn neg (.str x) (.tup [.str a, .str b]) = some (.sh (.bl (neg != decide (x ∈ [a, b])))) := in_tup x [a, b]
@[simp] theorem in_t3 {neg : Bool} {x a b c : Str} : pIn neg (.str x) (.tup [.str a, .str b, .str c]) = some (.sh (.bl (neg != decide (x ∈ [a, b, c])))) := in_tup x [a, b, c]
@[simp] theorem in_t4 {neg : Bool} {x a b c d : Str} : pIn neg (.str x) (.tup [.str a, .str b, .str c, .str d]) = some (.sh (.bl (neg != decide (x ∈ [a, b, c, d])))) := in_tup x [a, b, c, d]
theorem sForR1_T (m : EM) (t : Tg) (body : SM) : sForR1 m t body = fun env => (m env).bind fun o env1 => match res o env1 with
  | some (.int j) => if -(2 ^ 62) ≤ j ∧ j < 2 ^ 62 then forT t body (rngD 0 j.toNat) env1 else .stuck
  | _ => .stuck := by
  funext env
  unfold sForR1
  congr 1
  funext o env1
  cases res o env1 with
  | none => rfl
  | some d =>
    cases d with
    | int j =>
      simp only
      split
      · exact forGo_T t body _ env1
      · rfl
    | _ => rfl
theorem rngD_len (n : Nat) : (rngD 0 n).length = n := by simp [rngD]
theorem eLcR_eq {e m : EM} {t : Tg} {vs : List Nat} {env env1 : En} {o : O} {n : Nat} (he : e env = .ok o env1) (hr : res o env1 = some (.int (n : Int))) (hn : n ≤ 1000000) : eLcR e t bYes m vs env = compGo (fun _ => True) t bYes m vs (rngD 0 n) [] (clr vs env1) := by
  unfold eLcR
  rw [he]
  show (match res o env1 with | some (.int j) => if -(2 ^ 62) ≤ j ∧ j < 2 ^ 62 then compGo (fun _ => True) t bYes m vs (rngD 0 j.toNat) [] (clr vs env1) else .stuck | _ => .stuck) = _
  rw [hr]
  simp only
  rw [if_pos (by omega)]
  rfl
theorem sForR1_eq {m : EM} {t : Tg} {body : SM} {env env1 : En} {o : O} {n : Nat} (he : m env = .ok o env1) (hr : res o env1 = some (.int (n : Int))) (hn : n ≤ 1000000) : sForR1 m t body env = forT t body (rngD 0 n) env1 := by
  rw [sForR1_T]
  simp only
  rw [he]
  show (match res o env1 with | some (.int j) => if -(2 ^ 62) ≤ j ∧ j < 2 ^ 62 then forT t body (rngD 0 j.toNat) env1 else .stuck | _ => .stuck) = _
  rw [hr]
  simp only
  rw [if_pos (by omega)]
  rfl
theorem sForR1_eqI {m : EM} {t : Tg} {body : SM} {env env1 : En} {o : O} {z : Int} (he : m env = .ok o env1) (hr : res o env1 = some (.int z)) (h0 : 0 ≤ z) (hn : z ≤ 1000000) : sForR1 m t body env = forT t body (rngD 0 z.toNat) env1 :=
  sForR1_eq (n := z.toNat) he (by rw [hr, Int.toNat_of_nonneg h0]) (by omega)
theorem eLcR_eqI {e m : EM} {t : Tg} {vs : List Nat} {env env1 : En} {o : O} {z : Int} (he : e env = .ok o env1) (hr : res o env1 = some (.int z)) (h0 : 0 ≤ z) (hn : z ≤ 1000000) : eLcR e t bYes m vs env = compGo (fun _ => True) t bYes m vs (rngD 0 z.toNat) [] (clr vs env1) :=
  eLcR_eq (n := z.toNat) he (by rw [hr, Int.toNat_of_nonneg h0]) (by omega)
end Mi
set_option maxRecDepth 100000
/-! Mi28: comprehensions over a text. -/
namespace Mi
open PySem PySem.Spec PyProof.Rows L2
/-- [m for t in e if tt], e a text -/
noncomputable def eLcS (e : EM) (t : Tg) (tt : BM) (m : EM) (vs : List Nat) : EM := fun env => (e env).bind fun o env1 => match res o env1 with
  | some (.str z) => compGo (fun _ => True) t tt m vs (signs z) [] (clr vs env1)
  | _ => .stuck
section
variable {K : PySem.W.Frag} {mg : Str → Option Value} {H : Hp} {σ : L2.St} {Wd Wd' : WX} {Q : VK}
theorem lcS_step {e : EM} {t : Tg} {tt : BM} {m : EM} {vs : List Nat} (h : tE K mg Wd (eLcS e t tt m vs) σ H Q) : tLc (iStr (tE K mg Wd e)) (tG K mg (fun j => !vs.contains j) t) (tT K mg Wd' tt) (tE K mg (fun cls d _ H => Wd cls d σ H) m) vs σ H Q := by
  obtain ⟨B, env, fp, S, r⟩ := h
  unfold eLcS at r
  refine ⟨B, env, fp, S, ?_⟩
  cases q : e env with
  | stuck =>
    rw [q] at r
    exact r
  | err x e1 =>
    rw [q] at r
    exact r
  | ok o env1 =>
    rw [q] at r
    simp only [Out.bind] at r
    intro v B1 H1 fp1 F1 A R
    cases q1 : res o env1 with
    | none =>
      rw [q1] at r
      exact r.elim
    | some d =>
      have rr := res_rep A.sim R q1
      rw [q1] at r
      cases d with
      | str z =>
        cases repO_str rr
        exact ⟨z, rfl, fun D hD => compL_step yields_str A.drop (fun _ z => z.elim) hD (fun _ _ _ _ _ _ _ _ _ => trivial) r⟩
      | _ => exact r.elim
end
section
variable {X : Cx} {Wd : WX} {pos : Pos} {elt tg iter : Expr} {ifs : List Expr} {scope : Scope} {own : List (Str × Nat)} {e m : EM} {t : Tg} {tt : BM}
theorem se_lcS (tk : Takes X Wd) (hc : X.calm = true) (hN : X.N.Nodup) (he : SE X Wd iter e) (ok : BlkOk X.N X.env.scope scope own)
    (hg : ∀ (s : Shared) (H : Hp) (C : Addr) (cl : List (Str × Addr)) (fp : List Addr) (xe : Value → Shared → Prop), SG (blkE X s H scope (compEnvC scope cl C X.env) fp xe) (fun j => !(own.map (·.2)).contains j) tg t)
    (ht : ∀ (s : Shared) (H : Hp) (C : Addr) (cl : List (Str × Addr)) (fp : List Addr) (xe : Value → Shared → Prop), STs (blkE X s H scope (compEnvC scope cl C X.env) fp xe) WN ifs tt)
    (hm : ∀ (σ : L2.St) (s : Shared) (H : Hp) (C : Addr) (cl : List (Str × Addr)) (fp : List Addr) (xe : Value → Shared → Prop), Takes (blkE X s H scope (compEnvC scope cl C X.env) fp xe) (fun cls d _ H => Wd cls d σ H) → SE (blkE X s H scope (compEnvC scope cl C X.env) fp xe) (fun cls d _ H => Wd cls d σ H) elt m)
    (hs : ∀ x, foldedSetIterable iter X.env x = pure x := by intro _; rfl) (hst : X.stack = X.env :: X.outer := by rfl) (hfr : X.env.frame = some X.env.locals := by rfl) :
    SE X Wd (.ListComp elt [⟨tg, iter, ifs, 0⟩] scope pos) (eLcS e t tt m (own.map (·.2))) := PE.less (pe_lcE tk hst hfr hc hN (pi_str he) ok hg ht (te := fun σ => tE X.K X.mg (fun cls d _ H => Wd cls d σ H) m) hm hs) fun _ _ _ h => lcS_step h
end
end Mi
set_option maxRecDepth 100000
/-! Mi29: mirrors evaluated: == [], comprehensions with a test. -/
namespace Mi
open PySem PySem.Spec PyProof.Rows L2
theorem toPs_str : ∀ ys : List Str, toPs (ys.map .str) = some (ys.map .str)
  | [] => rfl
  | y :: ys => by
    rw [List.map_cons, toPs, toP, toPs_str ys]
    rfl
theorem eqvAll_nil (ps : List PyData) : PyData.eqvAll ps [] = ps.isEmpty := by cases ps <;> simp [PyData.eqvAll]
theorem toPs_emp {ds : List D} {ps : List PyData} (h : toPs ds = some ps) : ps.isEmpty = ds.isEmpty := by
  cases ds with
  | nil =>
    rw [toPs] at h
    cases h
    rfl
  | cons d ds =>
    rw [toPs] at h
    cases e : toP d with
    | none =>
      rw [e] at h
      cases h
    | some p =>
      cases e2 : toPs ds with
      | none =>
        rw [e, e2] at h
        cases h
      | some qs =>
        rw [e, e2] at h
        cases h
        rfl
theorem dep_nil : (PyData.list []).depth = 1 ∧ (PyData.tuple []).depth = 1 := by decide +kernel
theorem eqP_nilL {ds : List D} {ps : List PyData} (h : toPs ds = some ps) : eqP (.lst ds) (.lst []) = some ds.isEmpty := by
  have e : eqP (.lst ds) (.lst []) = (if min (PyData.list ps).depth (PyData.list []).depth ≤ 64 then some (PyData.eqv (.list ps) (.list [])) else none) := by
    unfold eqP
    rw [toP, h, toP, toPs]
    rfl
  rw [e, if_pos (by have := dep_nil; omega), PyData.eqv, eqvAll_nil, toPs_emp h]
theorem eqP_nilT {ds : List D} {ps : List PyData} (h : toPs ds = some ps) : eqP (.tup ds) (.tup []) = some ds.isEmpty := by
  have e : eqP (.tup ds) (.tup []) = (if min (PyData.tuple ps).depth (PyData.tuple []).depth ≤ 64 then some (PyData.eqv (.tuple ps) (.tuple [])) else none) := by
    unfold eqP
    rw [toP, h, toP, toPs]
    rfl
  rw [e, if_pos (by have := dep_nil; omega), PyData.eqv, eqvAll_nil, toPs_emp h]
theorem eq_nilL {ds : List D} {ps : List PyData} (h : toPs ds = some ps) : pEq (.lst ds) (.lst []) = some (.sh (.bl ds.isEmpty)) := by
  show (eqP (.lst ds) (.lst [])).map wB = _
  rw [eqP_nilL h]
  rfl
theorem ne_nilL {ds : List D} {ps : List PyData} (h : toPs ds = some ps) : pNe (.lst ds) (.lst []) = some (.sh (.bl (!ds.isEmpty))) := by
  show (eqP (.lst ds) (.lst [])).map (fun b => wB (!b)) = _
  rw [eqP_nilL h]
  rfl
theorem eq_nilT {ds : List D} {ps : List PyData} (h : toPs ds = some ps) : pEq (.tup ds) (.tup []) = some (.sh (.bl ds.isEmpty)) := by
  show (eqP (.tup ds) (.tup [])).map wB = _
  rw [eqP_nilT h]
  rfl
theorem ne_nilT {ds : List D} {ps : List PyData} (h : toPs ds = some ps) : pNe (.tup ds) (.tup []) = some (.sh (.bl (!ds.isEmpty))) := by
  show (eqP (.tup ds) (.tup [])).map (fun b => wB (!b)) = _
  rw [eqP_nilT h]
  rfl
/-- a comprehension whose test and part are computed of the loop's name alone -/
theorem compGo_if {c : En → Prop} {tt : BM} {m : EM} {j : Nat} {p : D → Bool} {g : D → D} {env : En} (hj : env.set j .gone = env) (hc : c env) : ∀ (ds acc : List D), (∀ d ∈ ds, tt (env.set j (.sh d)) = .ok (p d) (env.set j (.sh d)) ∧ (p d = true → ∃ o, m (env.set j (.sh d)) = .ok o (env.set j (.sh d)) ∧ sres o (env.set j (.sh d)) = some (g d))) → acc.length + ds.length ≤ sizeLine →
    compGo c (.nm j) tt m [j] ds acc env = .ok (.val (.ol (acc ++ (ds.filter p).map g))) env
  | [], acc, _, _ => by rw [compGo_nil hc]; simp
  | d :: ds, acc, hm, hl => by
    simp only [List.length_cons] at hl
    obtain ⟨e0, e12⟩ := hm d List.mem_cons_self
    have e3 : clr [j] (env.set j (.sh d)) = env := by
      show (env.set j (.sh d)).set j .gone = env
      rw [List.set_set, hj]
    rw [compGo_cons hc, asg_nm]
    simp only [e0]
    cases q : p d with
    | true =>
      obtain ⟨o, e1, e2⟩ := e12 q
      simp only [e1, e2]
      rw [if_pos (by omega), e3, compGo_if hj hc ds (acc ++ [g d]) (fun x hx => hm x (List.mem_cons_of_mem _ hx)) (by simp; omega)]
      simp [q]
    | false =>
      simp only [e3]
      rw [compGo_if hj hc ds acc (fun x hx => hm x (List.mem_cons_of_mem _ hx)) (by omega)]
      simp [q]
theorem eLcV_if {tt : BM} {m : EM} {i j : Nat} {p : D → Bool} {g : D → D} {env : En} {ds : List D} {d0 : D} (hi : env[i]? = some (.sh d0)) (hs : seqD d0 = some ds) (hj : env.set j .gone = env)
    (hm : ∀ d ∈ ds, tt (env.set j (.sh d)) = .ok (p d) (env.set j (.sh d)) ∧ (p d = true → ∃ o, m (env.set j (.sh d)) = .ok o (env.set j (.sh d)) ∧ sres o (env.set j (.sh d)) = some (g d))) (hl : ds.length ≤ sizeLine) :
    eLcV i (.nm j) tt m [j] env = .ok (.val (.ol ((ds.filter p).map g))) env := by
  unfold eLcV
  have e : ((env[i]?).bind W.fz).bind seqD = some ds := by rw [hi]; exact hs
  have e3 : clr [j] env = env := hj
  rw [e]
  simp only
  rw [e3, compGo_if (c := fun env' => env'[i]? = env[i]?) hj rfl ds [] hm (by simpa using hl)]
  simp
theorem eLcS_if {e m : EM} {tt : BM} {j : Nat} {p : D → Bool} {g : D → D} {env env1 : En} {o : O} {z : Str} (he : e env = .ok o env1) (hr : res o env1 = some (.str z)) (hj : env1.set j .gone = env1)
    (hm : ∀ d ∈ signs z, tt (env1.set j (.sh d)) = .ok (p d) (env1.set j (.sh d)) ∧ (p d = true → ∃ o, m (env1.set j (.sh d)) = .ok o (env1.set j (.sh d)) ∧ sres o (env1.set j (.sh d)) = some (g d))) (hl : (signs z).length ≤ sizeLine) :
    eLcS e (.nm j) tt m [j] env = .ok (.val (.ol (((signs z).filter p).map g))) env1 := by
  unfold eLcS
  rw [he]
  show (match res o env1 with | some (.str z) => compGo (fun _ => True) (.nm j) tt m [j] (signs z) [] (clr [j] env1) | _ => .stuck) = _
  rw [hr]
  have e3 : clr [j] env1 = env1 := hj
  simp only
  rw [e3, compGo_if hj trivial (signs z) [] hm (by simpa using hl)]
  simp
theorem eLc_if {e m : EM} {tt : BM} {j : Nat} {p : D → Bool} {g : D → D} {env env1 : En} {w : W} {d0 : D} {ds : List D} (he : e env = .ok (.val w) env1) (hf : w.fz = some d0) (hs : seqD d0 = some ds) (hj : env1.set j .gone = env1)
    (hm : ∀ d ∈ ds, tt (env1.set j (.sh d)) = .ok (p d) (env1.set j (.sh d)) ∧ (p d = true → ∃ o, m (env1.set j (.sh d)) = .ok o (env1.set j (.sh d)) ∧ sres o (env1.set j (.sh d)) = some (g d))) (hl : ds.length ≤ sizeLine) :
    eLc e (.nm j) tt m [j] env = .ok (.val (.ol ((ds.filter p).map g))) env1 := by
  unfold eLc
  rw [he]
  show (match (w.fz).bind seqD with | some ds => compGo (fun _ => True) (.nm j) tt m [j] ds [] (clr [j] env1) | none => .stuck) = _
  have e3 : clr [j] env1 = env1 := hj
  have e4 : (w.fz).bind seqD = some ds := by rw [hf]; exact hs
  rw [e4]
  simp only
  rw [e3, compGo_if hj trivial ds [] hm (by simpa using hl)]
  simp
end Mi
set_option maxHeartbeats 4000000
/-! the defs of law k62: mirrors, and that the text keeps them. Printed by gen.py. -/
namespace Gk62
open PySem PySem.Spec PyProof.Rows L2 Mi
def top (i : Nat) : Stmt := PySem.Challenge.pw_pageskips_k62_whole_words_that_cannot_st.main.body.getD i (.Pass ⟨0, 0, 0, 0⟩)
abbrev s_InvalidWords_init : Stmt := inClass (top 4) 0
abbrev s_is_text : Stmt := top 7
abbrev s_WordReader_init : Stmt := inClass (top 14) 0
abbrev s_WordReader_take : Stmt := inClass (top 14) 1
abbrev s_WordReader_ended : Stmt := inClass (top 14) 2
abbrev s_is_number_word : Stmt := top 15
abbrev s_take_number : Stmt := top 16
abbrev s_take_text : Stmt := top 17
abbrev s_take_answer : Stmt := top 18
abbrev s_take_filter : Stmt := top 19
abbrev s_read_filter : Stmt := top 20
abbrev s__law_hand : Stmt := top 22
abbrev s__law_pick : Stmt := top 23
abbrev s__law_text : Stmt := top 24
abbrev s__law_near : Stmt := top 25
abbrev s__law_query : Stmt := top 26
abbrev s__law_word : Stmt := top 27
abbrev s__law_words : Stmt := top 28
abbrev s__law_is_number : Stmt := top 29
abbrev s__law_is_text_word : Stmt := top 30
abbrev s__law_place : Stmt := top 31
abbrev s__law_strange : Stmt := top 32
abbrev s__law_bent_word : Stmt := top 33
abbrev s__law_changed : Stmt := top 34
abbrev s__law_is_text : Stmt := top 35
abbrev s__law_is_query : Stmt := top 36
abbrev s__law_odd_words : Stmt := top 37
abbrev s__law_read : Stmt := top 38
abbrev s_law : Stmt := top 39
def isW (id : Nat) : Bool := decide (16 ≤ id)
def isx_SkipError (id : Nat) : Bool := true
def isx_InvalidText (id : Nat) : Bool := decide (id = 1)
def isx_InvalidValue (id : Nat) : Bool := decide (id = 2)
def isx_InvalidSpan (id : Nat) : Bool := decide (id = 3)
def isx_InvalidFilter (id : Nat) : Bool := decide (id = 4)
def isx_InvalidRule (id : Nat) : Bool := decide (id = 5)
def isx_InvalidPage (id : Nat) : Bool := decide (id = 6)
def isx_InvalidNote (id : Nat) : Bool := decide (id = 7)
def isx_InvalidColumn (id : Nat) : Bool := decide (id = 8)
def isx_InvalidIndex (id : Nat) : Bool := decide (id = 9)
def isx_InvalidNumber (id : Nat) : Bool := decide (id = 10)
def isx_InvalidCode (id : Nat) : Bool := decide (id = 11)
def isx_NoBlock (id : Nat) : Bool := decide (id = 12)
def isx_NothingToUndo (id : Nat) : Bool := decide (id = 13)
def isx_Full (id : Nat) : Bool := decide (id = 14)
def isx_InvalidCommand (id : Nat) : Bool := decide (id = 15)
def isx_InvalidWords (id : Nat) : Bool := decide (16 ≤ id)
def isx_ValueError (id : Nat) : Bool := true
/-- what is known of the written part -/
structure Bas (K : PySem.W.Frag) (mg : Str → Option Value) : Prop where
  free_ValueError : mg "ValueError" = none
  free_bool : mg "bool" = none
  free_int : mg "int" = none
  free_isinstance : mg "isinstance" = none
  free_len : mg "len" = none
  free_range : mg "range" = none
  free_repr : mg "repr" = none
  free_str : mg "str" = none
  free_tuple : mg "tuple" = none
  g_DEEPEST_LEVEL : GC K mg "DEEPEST_LEVEL" (.int 20)
  g_DIGITS : GC K mg "DIGITS" (.str "0123456789")
  g_GROUPS : GC K mg "GROUPS" (.tup [.str "and", .str "or"])
  g_LEAVES : GC K mg "LEAVES" (.tup [.str "is", .str "below", .str "above", .str "begins"])
  g_LETTERS : GC K mg "LETTERS" (.str "abc")
  g_LONGEST_TEXT : GC K mg "LONGEST_TEXT" (.int 40)
  cf_WordReader : CF K mg [0]
  try_InvalidWords : ∃ C0 : Addr, mg "InvalidWords" = some (.ref C0) ∧ XM K mg (.ref C0) isW ∧ (∀ (y : Ex) (m : Int), isW y.id = true → y.arg = some m → mg (exNm y.id) = some (.ref C0)) ∧ XfC K C0 ∧ PySem.W.findIn K (.ref C0) "place" = some none
  xi_InvalidFilter : ∃ C0 : Addr, mg "InvalidFilter" = some (.ref C0) ∧ XI K mg (.ref C0) isx_InvalidFilter
  xi_InvalidValue : ∃ C0 : Addr, mg "InvalidValue" = some (.ref C0) ∧ XI K mg (.ref C0) isx_InvalidValue
  xi_SkipError : ∃ C0 : Addr, mg "SkipError" = some (.ref C0) ∧ XI K mg (.ref C0) isx_SkipError
  xi_ValueError : XI K mg (.type "ValueError") isx_ValueError
  xm_InvalidWords : ∃ C0 : Addr, mg "InvalidWords" = some (.ref C0) ∧ XM K mg (.ref C0) isx_InvalidWords

noncomputable def m_is_text : FM := fnM 0 []
  (sRet (eAnd (eP1 (pIsi "str") (eV 0)) (eP2 pEq (eMt isStr pStrip (eV 0) (aCons (eC (.str "abc")) aNil)) (eC (.str "")))))
theorem sc_is_text : FnScope ["value"] ["value"] (defScope s_is_text) := ⟨rfl, rfl, rfl, by decide +kernel, rfl, by decide +kernel, by decide +kernel⟩
theorem ok_is_text {P : Program} {w : World} {K : PySem.W.Frag} {mg : Str → Option Value} {base : Heap} {f : Addr} {fd : FuncData} {dvs : List V} {kws : List (Str × V)} (Bs : Bas K mg)
    (F : FunD K "is_text" "is_text" (defArgs s_is_text) (defBody s_is_text) (defScope s_is_text) dvs kws f fd) :
    FnOk P w K mg base (L2.CX P w) 1 f fd ["value"] (spM K mg m_is_text 1 []) :=
  have hN := sc_is_text.nd
  fnok_of F sc_is_text rfl rfl (by decide) fun cdv A outer s H E hr =>
  (sb_one (ss_ret (se_and (se_isi "str" tok_str rfl Bs.free_isinstance rfl Bs.free_str (by decide +kernel) (se_v 0)) (se_one (se_cmp (op_eqM hr.units) op2_eq (se_mt isStr PySem.F.plainAttrs_str PySem.F.slot_str_strip PySem.F.type_str_strip mt_stripChars opm_strip tyV_str (se_v 0) (sa_cons (se_gc Bs.g_LETTERS rfl) sa_nil)) se_str (nomark _))))))
noncomputable def m_WordReader_init : FM := fnM 0 [true]
  (sSeq (sSetF [0] 0 "words_held" (eMt isStr pSplit (eV 1) (aCons (eC (.str " ")) aNil)))
  (sSetF [0] 0 "place" (eC (.int 0))))
theorem sc_WordReader_init : FnScope ["self", "words"] ["self", "words"] (defScope s_WordReader_init) := ⟨rfl, rfl, rfl, by decide +kernel, rfl, by decide +kernel, by decide +kernel⟩
theorem ok_WordReader_init {P : Program} {w : World} {K : PySem.W.Frag} {mg : Str → Option Value} {base : Heap} {f : Addr} {fd : FuncData} {dvs : List V} {kws : List (Str × V)} (Bs : Bas K mg)
    (F : FunD K "__init__" "WordReader.__init__" (defArgs s_WordReader_init) (defBody s_WordReader_init) (defScope s_WordReader_init) dvs kws f fd) :
    FnOk P w K mg base (L2.CX P w) 1 f fd ["self", "words"] (spM K mg m_WordReader_init 2 [true]) :=
  have hN := sc_WordReader_init.nd
  fnok_of F sc_WordReader_init rfl rfl (by decide) fun cdv A outer s H E hr =>
  (sb_cons (ss_setF [0] 0 Bs.cf_WordReader (se_mt isStr PySem.F.plainAttrs_str PySem.F.slot_str_split PySem.F.type_str_split mt_split opm_split tyV_str (se_v 1) (sa_cons se_str sa_nil)))
  (sb_one (ss_setF [0] 0 Bs.cf_WordReader se_int)))
noncomputable def m_WordReader_take : FM := fnM 0 [true]
  (sSeq (sIf (bE (eP2 pEq (eFld [0] 0 "place") (ePrim pLen (aCons (eFld [0] 0 "words_held") aNil))))
  (sRaiseW (eFld [0] 0 "place"))
  sNx)
  (sSeq (sAugF [0] 0 "place" (fun a b => a + b) (eC (.int 1)))
  (sRet (eP2 pIx (eFld [0] 0 "words_held") (eP2 pSub (eFld [0] 0 "place") (eC (.int 1)))))))
theorem sc_WordReader_take : FnScope ["self"] ["self"] (defScope s_WordReader_take) := ⟨rfl, rfl, rfl, by decide +kernel, rfl, by decide +kernel, by decide +kernel⟩
theorem ok_WordReader_take {P : Program} {w : World} {K : PySem.W.Frag} {mg : Str → Option Value} {base : Heap} {f : Addr} {fd : FuncData} {dvs : List V} {kws : List (Str × V)} (Bs : Bas K mg) (c_InvalidWords_init : EXW P w K mg base 1)
    (F : FunD K "take" "WordReader.take" (defArgs s_WordReader_take) (defBody s_WordReader_take) (defScope s_WordReader_take) dvs kws f fd) :
    FnOk P w K mg base (L2.CX P w) 3 f fd ["self"] (spM K mg m_WordReader_take 1 [true]) :=
  have hN := sc_WordReader_take.nd
  fnok_of F sc_WordReader_take rfl rfl (by decide) fun cdv A outer s H E hr =>
  (sb_cons (ss_if (st_cmp (op_eqM hr.units) op2_eq (se_fld [0] 0 Bs.cf_WordReader) (se_callB call_lenM opn_len rfl Bs.free_len (by decide +kernel) (sa_cons (se_fld [0] 0 Bs.cf_WordReader) sa_nil)) (nomark _))
  (sb_one (ss_raiseW c_InvalidWords_init hr (by decide) rfl takes_fn rfl (se_fld [0] 0 Bs.cf_WordReader)))
  sb_nil)
  (sb_cons (ss_augF [0] 0 Bs.cf_WordReader se_int)
  (sb_one (ss_ret (se_ix ix_seq op2_ix (se_fld [0] 0 Bs.cf_WordReader) (se_bin op_sub op2_sub (se_fld [0] 0 Bs.cf_WordReader) se_int) (fun _ _ => rfl))))))
noncomputable def m_WordReader_ended : FM := fnM 0 [true]
  (sSeq (sIf (bE (eP2 pLt (eFld [0] 0 "place") (ePrim pLen (aCons (eFld [0] 0 "words_held") aNil))))
  (sRaiseW (eFld [0] 0 "place"))
  sNx)
  (sRet (eV 1)))
theorem sc_WordReader_ended : FnScope ["self", "result"] ["self", "result"] (defScope s_WordReader_ended) := ⟨rfl, rfl, rfl, by decide +kernel, rfl, by decide +kernel, by decide +kernel⟩
theorem ok_WordReader_ended {P : Program} {w : World} {K : PySem.W.Frag} {mg : Str → Option Value} {base : Heap} {f : Addr} {fd : FuncData} {dvs : List V} {kws : List (Str × V)} (Bs : Bas K mg) (c_InvalidWords_init : EXW P w K mg base 1)
    (F : FunD K "ended" "WordReader.ended" (defArgs s_WordReader_ended) (defBody s_WordReader_ended) (defScope s_WordReader_ended) dvs kws f fd) :
    FnOk P w K mg base (L2.CX P w) 3 f fd ["self", "result"] (spM K mg m_WordReader_ended 2 [true]) :=
  have hN := sc_WordReader_ended.nd
  fnok_of F sc_WordReader_ended rfl rfl (by decide) fun cdv A outer s H E hr =>
  (sb_cons (ss_if (st_cmp op_ltM op2_cmp (se_fld [0] 0 Bs.cf_WordReader) (se_callB call_lenM opn_len rfl Bs.free_len (by decide +kernel) (sa_cons (se_fld [0] 0 Bs.cf_WordReader) sa_nil)) (nomark _))
  (sb_one (ss_raiseW c_InvalidWords_init hr (by decide) rfl takes_fn rfl (se_fld [0] 0 Bs.cf_WordReader)))
  sb_nil)
  (sb_one (ss_ret (se_v 1))))
noncomputable def B_is_number_word_1 : SM :=
  (sForS (eV 0) (.nm 2)
  (sIf (bE (eP2 (pIn true) (eV 2) (eC (.str "0123456789"))))
  (sRet (eC (.bl false)))
  sNx))
noncomputable def m_is_number_word : FM := fnM 1 []
  (sSeq (sIf (bOr (bE (eP2 pEq (eV 0) (eC (.str "")))) (bE (eP2 pGt (ePrim pLen (aCons (eV 0) aNil)) (eV 1))))
  (sRet (eC (.bl false)))
  sNx)
  (sSeq B_is_number_word_1
  (sRet (eOr (eP2 pNe (eP2 pIx (eV 0) (eC (.int 0))) (eC (.str "0"))) (eP2 pEq (eV 0) (eC (.str "0")))))))
theorem sc_is_number_word : FnScope ["word", "most_digits", "sign"] ["word", "most_digits"] (defScope s_is_number_word) := ⟨rfl, rfl, rfl, by decide +kernel, rfl, by decide +kernel, by decide +kernel⟩
theorem ok_is_number_word {P : Program} {w : World} {K : PySem.W.Frag} {mg : Str → Option Value} {base : Heap} {f : Addr} {fd : FuncData} {dvs : List V} {kws : List (Str × V)} (Bs : Bas K mg)
    (F : FunD K "is_number_word" "is_number_word" (defArgs s_is_number_word) (defBody s_is_number_word) (defScope s_is_number_word) dvs kws f fd) :
    FnOk P w K mg base (L2.CX P w) 1 f fd ["word", "most_digits"] (spM K mg m_is_number_word 2 []) :=
  have hN := sc_is_number_word.nd
  fnok_of F sc_is_number_word rfl rfl (by decide) fun cdv A outer s H E hr =>
  (sb_cons (ss_if (st_w (sw_or (st_cmp (op_eqM hr.units) op2_eq (se_v 0) se_str (nomark _)) (sw_or1 (st_cmp op_gtM op2_cmp (se_callB call_lenM opn_len rfl Bs.free_len (by decide +kernel) (sa_cons (se_v 0) sa_nil)) (se_v 1) (nomark _)))))
  (sb_one (ss_ret se_bl))
  sb_nil)
  (sb_cons (ss_forS passes_fn rfl (se_v 0) (sg_nm (i := 2) hN)
  (sb_one (ss_if (st_cmp (op_notInM (room_u hr)) op2_in (se_v 2) (se_gc Bs.g_DIGITS rfl) (by with_unfolding_all rfl))
  (sb_one (ss_ret se_bl))
  sb_nil)))
  (sb_one (ss_ret (se_or (se_cmp (op_neM hr.units) op2_ne (se_ix ix_seq op2_ix (se_v 0) se_int (fun _ _ => rfl)) se_str (nomark _)) (se_one (se_cmp (op_eqM hr.units) op2_eq (se_v 0) se_str (nomark _))))))))
noncomputable def m_take_number : FM := fnM 1 [true]
  (sSeq (sSet 3 (eMeth 0 0 m_WordReader_take [] aNil))
  (sSeq (sIf (bOr (bNot (bE (eCall m_is_number_word (aCons (eV 3) (aCons (eV 1) aNil))))) (bE (eP2 pGt (ePrim pInt (aCons (eV 3) aNil)) (eV 2))))
  (sRaiseW (eP2 pSub (eFld [0] 0 "place") (eC (.int 1))))
  sNx)
  (sRet (ePrim pInt (aCons (eV 3) aNil)))))
theorem sc_take_number : FnScope ["reader", "most_digits", "greatest", "word"] ["reader", "most_digits", "greatest"] (defScope s_take_number) := ⟨rfl, rfl, rfl, by decide +kernel, rfl, by decide +kernel, by decide +kernel⟩
theorem ok_take_number {P : Program} {w : World} {K : PySem.W.Frag} {mg : Str → Option Value} {base : Heap} {f : Addr} {fd : FuncData} {dvs : List V} {kws : List (Str × V)} (Bs : Bas K mg) (c_WordReader_take : FOM P w K mg base 0 "take" 3 1 [true] m_WordReader_take) (c_InvalidWords_init : EXW P w K mg base 1) (c_is_number_word : FO P w K mg base "is_number_word" 1 2 [] m_is_number_word)
    (F : FunD K "take_number" "take_number" (defArgs s_take_number) (defBody s_take_number) (defScope s_take_number) dvs kws f fd) :
    FnOk P w K mg base (L2.CX P w) 4 f fd ["reader", "most_digits", "greatest"] (spM K mg m_take_number 3 [true]) :=
  have hN := sc_take_number.nd
  fnok_of F sc_take_number rfl rfl (by decide) fun cdv A outer s H E hr =>
  (sb_cons (ss_set (i := 3) hN (se_meth0 0 c_WordReader_take hr (by decide) takes_fn))
  (sb_cons (ss_if (st_w (sw_or (st_not (st_val (se_call c_is_number_word hr (by decide) takes_fn rfl (sa_cons (se_v 3) (sa_cons (se_v 1) sa_nil)) rfl))) (sw_or1 (st_cmp op_gtM op2_cmp (se_callT call_intM opn_int rfl Bs.free_int (by decide +kernel) (sa_cons (se_v 3) sa_nil)) (se_v 2) (nomark _)))))
  (sb_one (ss_raiseW c_InvalidWords_init hr (by decide) rfl takes_fn rfl (se_bin op_sub op2_sub (se_fld [0] 0 Bs.cf_WordReader) se_int)))
  sb_nil)
  (sb_one (ss_ret (se_callT call_intM opn_int rfl Bs.free_int (by decide +kernel) (sa_cons (se_v 3) sa_nil))))))
noncomputable def m_take_text : FM := fnM 1 [true]
  (sSeq (sSet 1 (eMeth 0 0 m_WordReader_take [] aNil))
  (sSeq (sIf (bE (eP2 pEq (eV 1) (eC (.str "-"))))
  (sRet (eC (.str "")))
  sNx)
  (sSeq (sIf (bOr (bE (eP2 pEq (eV 1) (eC (.str "")))) (bOr (bE (eP2 pGt (ePrim pLen (aCons (eV 1) aNil)) (eC (.int 40)))) (bNot (bE (eCall m_is_text (aCons (eV 1) aNil))))))
  (sRaiseW (eP2 pSub (eFld [0] 0 "place") (eC (.int 1))))
  sNx)
  (sRet (eV 1)))))
theorem sc_take_text : FnScope ["reader", "word"] ["reader"] (defScope s_take_text) := ⟨rfl, rfl, rfl, by decide +kernel, rfl, by decide +kernel, by decide +kernel⟩
theorem ok_take_text {P : Program} {w : World} {K : PySem.W.Frag} {mg : Str → Option Value} {base : Heap} {f : Addr} {fd : FuncData} {dvs : List V} {kws : List (Str × V)} (Bs : Bas K mg) (c_WordReader_take : FOM P w K mg base 0 "take" 3 1 [true] m_WordReader_take) (c_InvalidWords_init : EXW P w K mg base 1) (c_is_text : FO P w K mg base "is_text" 1 1 [] m_is_text)
    (F : FunD K "take_text" "take_text" (defArgs s_take_text) (defBody s_take_text) (defScope s_take_text) dvs kws f fd) :
    FnOk P w K mg base (L2.CX P w) 4 f fd ["reader"] (spM K mg m_take_text 1 [true]) :=
  have hN := sc_take_text.nd
  fnok_of F sc_take_text rfl rfl (by decide) fun cdv A outer s H E hr =>
  (sb_cons (ss_set (i := 1) hN (se_meth0 0 c_WordReader_take hr (by decide) takes_fn))
  (sb_cons (ss_if (st_cmp (op_eqM hr.units) op2_eq (se_v 1) se_str (nomark _))
  (sb_one (ss_ret se_str))
  sb_nil)
  (sb_cons (ss_if (st_w (sw_or (st_cmp (op_eqM hr.units) op2_eq (se_v 1) se_str (nomark _)) (sw_or (st_cmp op_gtM op2_cmp (se_callB call_lenM opn_len rfl Bs.free_len (by decide +kernel) (sa_cons (se_v 1) sa_nil)) (se_gc Bs.g_LONGEST_TEXT rfl) (nomark _)) (sw_or1 (st_not (st_val (se_call c_is_text hr (by decide) takes_fn rfl (sa_cons (se_v 1) sa_nil) rfl)))))))
  (sb_one (ss_raiseW c_InvalidWords_init hr (by decide) rfl takes_fn rfl (se_bin op_sub op2_sub (se_fld [0] 0 Bs.cf_WordReader) se_int)))
  sb_nil)
  (sb_one (ss_ret (se_v 1))))))
noncomputable def m_take_answer : FM := fnM 1 [true]
  (sSeq (sSet 1 (eMeth 0 0 m_WordReader_take [] aNil))
  (sSeq (sIf (bE (eP2 (pIn true) (eV 1) (eTup (aCons (eC (.str "yes")) (aCons (eC (.str "no")) aNil)))))
  (sRaiseW (eP2 pSub (eFld [0] 0 "place") (eC (.int 1))))
  sNx)
  (sRet (eP2 pEq (eV 1) (eC (.str "yes"))))))
theorem sc_take_answer : FnScope ["reader", "word"] ["reader"] (defScope s_take_answer) := ⟨rfl, rfl, rfl, by decide +kernel, rfl, by decide +kernel, by decide +kernel⟩
theorem ok_take_answer {P : Program} {w : World} {K : PySem.W.Frag} {mg : Str → Option Value} {base : Heap} {f : Addr} {fd : FuncData} {dvs : List V} {kws : List (Str × V)} (Bs : Bas K mg) (c_WordReader_take : FOM P w K mg base 0 "take" 3 1 [true] m_WordReader_take) (c_InvalidWords_init : EXW P w K mg base 1)
    (F : FunD K "take_answer" "take_answer" (defArgs s_take_answer) (defBody s_take_answer) (defScope s_take_answer) dvs kws f fd) :
    FnOk P w K mg base (L2.CX P w) 4 f fd ["reader"] (spM K mg m_take_answer 1 [true]) :=
  have hN := sc_take_answer.nd
  fnok_of F sc_take_answer rfl rfl (by decide) fun cdv A outer s H E hr =>
  (sb_cons (ss_set (i := 1) hN (se_meth0 0 c_WordReader_take hr (by decide) takes_fn))
  (sb_cons (ss_if (st_cmp (op_notInM (room_u hr)) op2_in (se_v 1) (se_tup (sa_cons se_str (sa_cons se_str sa_nil))) (by with_unfolding_all rfl))
  (sb_one (ss_raiseW c_InvalidWords_init hr (by decide) rfl takes_fn rfl (se_bin op_sub op2_sub (se_fld [0] 0 Bs.cf_WordReader) se_int)))
  sb_nil)
  (sb_one (ss_ret (se_cmp (op_eqM hr.units) op2_eq (se_v 1) se_str (nomark _))))))
noncomputable def B_take_filter_1 (q : FM) : EM :=
  (eLcR (eCallI m_take_number [true] (aCons (eV 0) (aCons (eC (.int 3)) (aCons (eC (.int 999)) aNil)))) (.nm 3) bYes (eCallI m_take_text [true] (aCons (eV 0) aNil)) (List.map (·.2) ([("k", 3)] : List (Str × Nat))))
noncomputable def B_take_filter_2 (q : FM) : EM :=
  (eLcR (eCallI m_take_number [true] (aCons (eV 0) (aCons (eC (.int 3)) (aCons (eC (.int 999)) aNil)))) (.nm 3) bYes (eCallI q [true] (aCons (eV 0) (aCons (eP2 pAdd (eV 1) (eC (.int 1))) aNil))) (List.map (·.2) ([("k", 3)] : List (Str × Nat))))
noncomputable def m_take_filter : Nat → FM
  | 0 => fun _ => .stuck
  | fu + 1 => fnM 2 [true] (
    (sSeq (sIf (bE (eP2 pGt (eV 1) (eC (.int 20))))
  (sRaiseW (eFld [0] 0 "place"))
  sNx)
  (sSeq (sSet 2 (eMeth 0 0 m_WordReader_take [] aNil))
  (sSeq (sIf (bE (eP2 (pIn false) (eV 2) (eC (.tup [.str "is", .str "below", .str "above", .str "begins"]))))
  (sRet (eTup (aCons (eV 2) (aCons (eCallI m_take_text [true] (aCons (eV 0) aNil)) aNil))))
  sNx)
  (sSeq (sIf (bE (eP2 pEq (eV 2) (eC (.str "none"))))
  (sRet (eTup (aCons (eV 2) aNil)))
  sNx)
  (sSeq (sIf (bE (eP2 pEq (eV 2) (eC (.str "say"))))
  (sRet (eTup (aCons (eV 2) (aCons (eCallI m_take_answer [true] (aCons (eV 0) aNil)) aNil))))
  sNx)
  (sSeq (sIf (bE (eP2 pEq (eV 2) (eC (.str "not"))))
  (sRet (eTup (aCons (eV 2) (aCons (eCallI (m_take_filter fu) [true] (aCons (eV 0) (aCons (eP2 pAdd (eV 1) (eC (.int 1))) aNil))) aNil))))
  sNx)
  (sSeq (sIf (bE (eP2 pEq (eV 2) (eC (.str "among"))))
  (sRet (eTup (aCons (eV 2) (aCons (ePrim pTuple (aCons (B_take_filter_1 (m_take_filter fu)) aNil)) aNil))))
  sNx)
  (sSeq (sIf (bE (eP2 (pIn false) (eV 2) (eC (.tup [.str "and", .str "or"]))))
  (sRet (eTup (aCons (eV 2) (aCons (ePrim pTuple (aCons (B_take_filter_2 (m_take_filter fu)) aNil)) aNil))))
  sNx)
  (sRaiseW (eP2 pSub (eFld [0] 0 "place") (eC (.int 1)))))))))))))
theorem sc_take_filter : FnScope ["reader", "level", "word", "k"] ["reader", "level"] (defScope s_take_filter) := ⟨rfl, rfl, rfl, by decide +kernel, rfl, by decide +kernel, by decide +kernel⟩
theorem ok_take_filter {P : Program} {w : World} {K : PySem.W.Frag} {mg : Str → Option Value} {base : Heap} {f : Addr} {fd : FuncData} {dvs : List V} {kws : List (Str × V)} (Bs : Bas K mg) (c_WordReader_take : FOM P w K mg base 0 "take" 3 1 [true] m_WordReader_take) (c_InvalidWords_init : EXW P w K mg base 1) (c_take_text : FO P w K mg base "take_text" 4 1 [true] m_take_text) (c_take_answer : FO P w K mg base "take_answer" 4 1 [true] m_take_answer) (c_take_number : FO P w K mg base "take_number" 4 3 [true] m_take_number) (fu : Nat) (c_take_filter : FO P w K mg base "take_filter" (4 + fu) 2 [true] (m_take_filter fu))
    (F : FunD K "take_filter" "take_filter" (defArgs s_take_filter) (defBody s_take_filter) (defScope s_take_filter) dvs kws f fd) :
    FnOk P w K mg base (L2.CX P w) (4 + fu + 1) f fd ["reader", "level"] (spM K mg (m_take_filter (fu + 1)) 2 [true]) :=
  have hN := sc_take_filter.nd
  fnok_of F sc_take_filter rfl rfl (by decide) fun cdv A outer s H E hr =>
  (sb_cons (ss_if (st_cmp op_gtM op2_cmp (se_v 1) (se_gc Bs.g_DEEPEST_LEVEL rfl) (nomark _))
  (sb_one (ss_raiseW c_InvalidWords_init hr (by omega) rfl takes_fn rfl (se_fld [0] 0 Bs.cf_WordReader)))
  sb_nil)
  (sb_cons (ss_set (i := 2) hN (se_meth0 0 c_WordReader_take hr (by omega) takes_fn))
  (sb_cons (ss_if (st_cmp (op_inM (room_u hr)) op2_in (se_v 2) (se_gc Bs.g_LEAVES rfl) (by with_unfolding_all rfl))
  (sb_one (ss_ret (se_tup (sa_cons (se_v 2) (sa_cons (se_callI c_take_text hr (by omega) takes_fn rfl (sa_cons (se_v 0) sa_nil) rfl) sa_nil)))))
  sb_nil)
  (sb_cons (ss_if (st_cmp (op_eqM hr.units) op2_eq (se_v 2) se_str (nomark _))
  (sb_one (ss_ret (se_tup (sa_cons (se_v 2) sa_nil))))
  sb_nil)
  (sb_cons (ss_if (st_cmp (op_eqM hr.units) op2_eq (se_v 2) se_str (nomark _))
  (sb_one (ss_ret (se_tup (sa_cons (se_v 2) (sa_cons (se_callI c_take_answer hr (by omega) takes_fn rfl (sa_cons (se_v 0) sa_nil) rfl) sa_nil)))))
  sb_nil)
  (sb_cons (ss_if (st_cmp (op_eqM hr.units) op2_eq (se_v 2) se_str (nomark _))
  (sb_one (ss_ret (se_tup (sa_cons (se_v 2) (sa_cons (se_callI c_take_filter hr (by omega) takes_fn rfl (sa_cons (se_v 0) (sa_cons (se_bin op_addM op2_add (se_v 1) se_int) sa_nil)) rfl) sa_nil)))))
  sb_nil)
  (sb_cons (ss_if (st_cmp (op_eqM hr.units) op2_eq (se_v 2) se_str (nomark _))
  (sb_one (ss_ret (se_tup (sa_cons (se_v 2) (sa_cons (se_callT call_tuple_of opn_tuple rfl Bs.free_tuple (by decide +kernel) (sa_cons (se_lcR (own := [("k", 3)]) takes_fn rfl hN rfl Bs.free_range (se_callI c_take_number hr (by omega) takes_fn rfl (sa_cons (se_v 0) (sa_cons se_int (sa_cons se_int sa_nil))) rfl) (show BlkOk ["reader", "level", "word", "k"] (defScope s_take_filter) _ [("k", 3)] from ⟨rfl, by decide +kernel, by decide +kernel, by decide +kernel, by decide +kernel⟩) (fun s0 H0 C0 cl0 fp0 xe0 => (sg_nm (i := 3) hN)) (fun s0 H0 C0 cl0 fp0 xe0 => sts_nil) (fun s00 s0 H0 C0 cl0 fp0 xe0 tk0 => (se_callI c_take_text hr (by omega) tk0 rfl (sa_cons (se_v 0) sa_nil) rfl))) sa_nil)) sa_nil)))))
  sb_nil)
  (sb_cons (ss_if (st_cmp (op_inM (room_u hr)) op2_in (se_v 2) (se_gc Bs.g_GROUPS rfl) (by with_unfolding_all rfl))
  (sb_one (ss_ret (se_tup (sa_cons (se_v 2) (sa_cons (se_callT call_tuple_of opn_tuple rfl Bs.free_tuple (by decide +kernel) (sa_cons (se_lcR (own := [("k", 3)]) takes_fn rfl hN rfl Bs.free_range (se_callI c_take_number hr (by omega) takes_fn rfl (sa_cons (se_v 0) (sa_cons se_int (sa_cons se_int sa_nil))) rfl) (show BlkOk ["reader", "level", "word", "k"] (defScope s_take_filter) _ [("k", 3)] from ⟨rfl, by decide +kernel, by decide +kernel, by decide +kernel, by decide +kernel⟩) (fun s0 H0 C0 cl0 fp0 xe0 => (sg_nm (i := 3) hN)) (fun s0 H0 C0 cl0 fp0 xe0 => sts_nil) (fun s00 s0 H0 C0 cl0 fp0 xe0 tk0 => (se_callI c_take_filter hr (by omega) tk0 rfl (sa_cons (se_v 0) (sa_cons (se_bin op_addM op2_add (se_v 1) se_int) sa_nil)) rfl))) sa_nil)) sa_nil)))))
  sb_nil)
  (sb_one (ss_raiseW c_InvalidWords_init hr (by omega) rfl takes_fn rfl (se_bin op_sub op2_sub (se_fld [0] 0 Bs.cf_WordReader) se_int)))))))))))
noncomputable def m_read_filter : FM := fnM 1 []
  (sSeq (sSet 1 (eMake 0 m_WordReader_init (aCons (eV 0) aNil)))
  (sRet (eMeth 0 1 m_WordReader_ended [] (aCons (eCallI (m_take_filter 24) [true] (aCons (eV 1) (aCons (eC (.int 1)) aNil))) aNil))))
theorem sc_read_filter : FnScope ["words", "reader"] ["words"] (defScope s_read_filter) := ⟨rfl, rfl, rfl, by decide +kernel, rfl, by decide +kernel, by decide +kernel⟩
theorem ok_read_filter {P : Program} {w : World} {K : PySem.W.Frag} {mg : Str → Option Value} {base : Heap} {f : Addr} {fd : FuncData} {dvs : List V} {kws : List (Str × V)} (Bs : Bas K mg) (c_WordReader_init : FOK P w K mg base 0 1 2 m_WordReader_init) (c_WordReader_ended : FOM P w K mg base 0 "ended" 3 2 [true] m_WordReader_ended) (c_take_filter : FO P w K mg base "take_filter" 28 2 [true] (m_take_filter 24))
    (F : FunD K "read_filter" "read_filter" (defArgs s_read_filter) (defBody s_read_filter) (defScope s_read_filter) dvs kws f fd) :
    FnOk P w K mg base (L2.CX P w) 29 f fd ["words"] (spM K mg m_read_filter 1 []) :=
  have hN := sc_read_filter.nd
  fnok_of F sc_read_filter rfl rfl (by decide) fun cdv A outer s H E hr =>
  (sb_cons (ss_set (i := 1) hN (se_make c_WordReader_init rfl hr (by decide) takes_fn rfl (sa_cons (se_v 0) sa_nil) rfl))
  (sb_one (ss_ret (se_meth 1 c_WordReader_ended hr (by decide) takes_fn (sa_cons (se_callI c_take_filter hr (by decide) takes_fn rfl (sa_cons (se_v 1) (sa_cons se_int sa_nil)) rfl) sa_nil) rfl))))
noncomputable def m__law_hand : FM := fnM 1 []
  (sSeq (sSet 1 (eC (.int 0)))
  (sSeq (sIf (bE (eP2 pGe (eV 0) (eP2 (pI gPow) (eC (.int 10)) (eC (.int 18)))))
  (sSet 1 (eP2 pSub (eV 0) (eP2 (pI gPow) (eC (.int 10)) (eC (.int 18)))))
  sNx)
  (sRet (eLst (aCons (eV 1) (aCons (eP2 (pI gMod) (ePrim pInt (aCons (eV 0) aNil)) (eC (.int 2147483563))) (aCons (eC (.int 0)) aNil)))))))
theorem sc__law_hand : FnScope ["cell", "rest"] ["cell"] (defScope s__law_hand) := ⟨rfl, rfl, rfl, by decide +kernel, rfl, by decide +kernel, by decide +kernel⟩
theorem ok__law_hand {P : Program} {w : World} {K : PySem.W.Frag} {mg : Str → Option Value} {base : Heap} {f : Addr} {fd : FuncData} {dvs : List V} {kws : List (Str × V)} (Bs : Bas K mg)
    (F : FunD K "_law_hand" "_law_hand" (defArgs s__law_hand) (defBody s__law_hand) (defScope s__law_hand) dvs kws f fd) :
    FnOk P w K mg base (L2.CX P w) 1 f fd ["cell"] (spM K mg m__law_hand 1 []) :=
  have hN := sc__law_hand.nd
  fnok_of F sc__law_hand rfl rfl (by decide) fun cdv A outer s H E hr =>
  (sb_cons (ss_set (i := 1) hN se_int)
  (sb_cons (ss_if (st_cmp op_geM op2_cmp (se_v 0) (se_bin op_pow op2_pow se_int se_int) (nomark _))
  (sb_one (ss_set (i := 1) hN (se_bin op_sub op2_sub (se_v 0) (se_bin op_pow op2_pow se_int se_int))))
  sb_nil)
  (sb_one (ss_ret (se_lst (sa_cons (se_v 1) (sa_cons (se_bin op_mod op2_mod (se_callT call_intM opn_int rfl Bs.free_int (by decide +kernel) (sa_cons (se_v 0) sa_nil)) se_int) (sa_cons se_int sa_nil))))))))
noncomputable def B__law_pick_1 : SM :=
  (sSeq (sSet 2 (eP2 (pI gMod) (ePrim pInt (aCons (eP2 pIx (eV 0) (eC (.int 0))) aNil)) (eV 1)))
  (sSeq (sSetIx 0 (eC (.int 0)) (eP2 (pI gFdiv) (eP2 pIx (eV 0) (eC (.int 0))) (eV 1)))
  (sRet (eV 2))))
noncomputable def m__law_pick : FM := fnM 2 [true]
  (sSeq (sIf (bE (eP2 pGt (eP2 pIx (eV 0) (eC (.int 0))) (eC (.int 0))))
  B__law_pick_1
  sNx)
  (sSeq (sSetIx 0 (eC (.int 2)) (eP2 pAdd (eP2 pIx (eV 0) (eC (.int 2))) (eC (.int 1))))
  (sSeq (sSet 3 (eP2 (pI gMod) (ePrim pInt (aCons (eP2 pAdd (eP2 pAdd (eP2 pMulM (eP2 pIx (eV 0) (eC (.int 1))) (eC (.int 40014))) (eP2 pMulM (eP2 pMulM (eP2 pIx (eV 0) (eC (.int 2))) (eP2 pAdd (eP2 pIx (eV 0) (eC (.int 2))) (eC (.int 53)))) (eC (.int 16807)))) (eC (.int 7))) aNil)) (eC (.int 2147483647))))
  (sSeq (sSet 3 (eP2 (pI gMod) (ePrim pInt (aCons (eP2 pAdd (eP2 pAdd (eP2 pMulM (eV 3) (eV 3)) (eP2 pMulM (eP2 pIx (eV 0) (eC (.int 2))) (eC (.int 69621)))) (eV 3)) aNil)) (eC (.int 2147483399))))
  (sRet (eP2 (pI gMod) (eP2 (pI gFdiv) (eP2 (pI gMod) (ePrim pInt (aCons (eP2 pAdd (eP2 pMulM (eV 3) (eC (.int 48271))) (eP2 pIx (eV 0) (eC (.int 2)))) aNil)) (eC (.int 2147483629))) (eC (.int 16))) (eV 1)))))))
theorem sc__law_pick : FnScope ["hand", "size", "digit", "mixed"] ["hand", "size"] (defScope s__law_pick) := ⟨rfl, rfl, rfl, by decide +kernel, rfl, by decide +kernel, by decide +kernel⟩
theorem ok__law_pick {P : Program} {w : World} {K : PySem.W.Frag} {mg : Str → Option Value} {base : Heap} {f : Addr} {fd : FuncData} {dvs : List V} {kws : List (Str × V)} (Bs : Bas K mg)
    (F : FunD K "_law_pick" "_law_pick" (defArgs s__law_pick) (defBody s__law_pick) (defScope s__law_pick) dvs kws f fd) :
    FnOk P w K mg base (L2.CX P w) 1 f fd ["hand", "size"] (spM K mg m__law_pick 2 [true]) :=
  have hN := sc__law_pick.nd
  fnok_of F sc__law_pick rfl rfl (by decide) fun cdv A outer s H E hr =>
  (sb_cons (ss_if (st_cmp op_gtM op2_cmp (se_ix ix_seq op2_ix (se_v 0) se_int (fun _ _ => rfl)) se_int (nomark _))
  (sb_cons (ss_set (i := 2) hN (se_bin op_mod op2_mod (se_callT call_intM opn_int rfl Bs.free_int (by decide +kernel) (sa_cons (se_ix ix_seq op2_ix (se_v 0) se_int (fun _ _ => rfl)) sa_nil)) (se_v 1)))
  (sb_cons (ss_setIx 0 (se_bin op_fdiv op2_fdiv (se_ix ix_seq op2_ix (se_v 0) se_int (fun _ _ => rfl)) (se_v 1)) se_int)
  (sb_one (ss_ret (se_v 2)))))
  sb_nil)
  (sb_cons (ss_setIx 0 (se_bin op_addM op2_add (se_ix ix_seq op2_ix (se_v 0) se_int (fun _ _ => rfl)) se_int) se_int)
  (sb_cons (ss_set (i := 3) hN (se_bin op_mod op2_mod (se_callT call_intM opn_int rfl Bs.free_int (by decide +kernel) (sa_cons (se_bin op_addM op2_add (se_bin op_addM op2_add (se_bin op_mulM op2_mulM (se_ix ix_seq op2_ix (se_v 0) se_int (fun _ _ => rfl)) se_int) (se_bin op_mulM op2_mulM (se_bin op_mulM op2_mulM (se_ix ix_seq op2_ix (se_v 0) se_int (fun _ _ => rfl)) (se_bin op_addM op2_add (se_ix ix_seq op2_ix (se_v 0) se_int (fun _ _ => rfl)) se_int)) se_int)) se_int) sa_nil)) se_int))
  (sb_cons (ss_set (i := 3) hN (se_bin op_mod op2_mod (se_callT call_intM opn_int rfl Bs.free_int (by decide +kernel) (sa_cons (se_bin op_addM op2_add (se_bin op_addM op2_add (se_bin op_mulM op2_mulM (se_v 3) (se_v 3)) (se_bin op_mulM op2_mulM (se_ix ix_seq op2_ix (se_v 0) se_int (fun _ _ => rfl)) se_int)) (se_v 3)) sa_nil)) se_int))
  (sb_one (ss_ret (se_bin op_mod op2_mod (se_bin op_fdiv op2_fdiv (se_bin op_mod op2_mod (se_callT call_intM opn_int rfl Bs.free_int (by decide +kernel) (sa_cons (se_bin op_addM op2_add (se_bin op_mulM op2_mulM (se_v 3) se_int) (se_ix ix_seq op2_ix (se_v 0) se_int (fun _ _ => rfl))) sa_nil)) se_int) se_int) (se_v 1))))))))
noncomputable def B__law_text_1 : EM :=
  (eLcR (eV 1) (.nm 2) bYes (eP2 pIx (eC (.str "abc")) (eCallI m__law_pick [true] (aCons (eV 0) (aCons (eC (.int 3)) aNil)))) (List.map (·.2) ([("k", 2)] : List (Str × Nat))))
noncomputable def m__law_text : FM := fnM 2 [true]
  (sSeq (sSet 1 (eCallI m__law_pick [true] (aCons (eV 0) (aCons (eC (.int 8)) aNil))))
  (sSeq (sIf (bE (eP2 pEq (eV 1) (eC (.int 7))))
  (sSet 1 (eCallI m__law_pick [true] (aCons (eV 0) (aCons (eC (.int 13)) aNil))))
  sNx)
  (sRet (eMt isStr pJoin (eC (.str "")) (aCons B__law_text_1 aNil)))))
theorem sc__law_text : FnScope ["hand", "size", "k"] ["hand"] (defScope s__law_text) := ⟨rfl, rfl, rfl, by decide +kernel, rfl, by decide +kernel, by decide +kernel⟩
theorem ok__law_text {P : Program} {w : World} {K : PySem.W.Frag} {mg : Str → Option Value} {base : Heap} {f : Addr} {fd : FuncData} {dvs : List V} {kws : List (Str × V)} (Bs : Bas K mg) (c__law_pick : FO P w K mg base "_law_pick" 1 2 [true] m__law_pick)
    (F : FunD K "_law_text" "_law_text" (defArgs s__law_text) (defBody s__law_text) (defScope s__law_text) dvs kws f fd) :
    FnOk P w K mg base (L2.CX P w) 2 f fd ["hand"] (spM K mg m__law_text 1 [true]) :=
  have hN := sc__law_text.nd
  fnok_of F sc__law_text rfl rfl (by decide) fun cdv A outer s H E hr =>
  (sb_cons (ss_set (i := 1) hN (se_callI c__law_pick hr (by decide) takes_fn rfl (sa_cons (se_v 0) (sa_cons se_int sa_nil)) rfl))
  (sb_cons (ss_if (st_cmp (op_eqM hr.units) op2_eq (se_v 1) se_int (nomark _))
  (sb_one (ss_set (i := 1) hN (se_callI c__law_pick hr (by decide) takes_fn rfl (sa_cons (se_v 0) (sa_cons se_int sa_nil)) rfl)))
  sb_nil)
  (sb_one (ss_ret (se_mt isStr PySem.F.plainAttrs_str PySem.F.slot_str_join PySem.F.type_str_join mt_join opm_join tyV_str se_str (sa_cons (se_lcR (own := [("k", 2)]) takes_fn rfl hN rfl Bs.free_range (se_v 1) (show BlkOk ["hand", "size", "k"] (defScope s__law_text) _ [("k", 2)] from ⟨rfl, by decide +kernel, by decide +kernel, by decide +kernel, by decide +kernel⟩) (fun s0 H0 C0 cl0 fp0 xe0 => (sg_nm (i := 2) hN)) (fun s0 H0 C0 cl0 fp0 xe0 => sts_nil) (fun s00 s0 H0 C0 cl0 fp0 xe0 tk0 => (se_ix ix_seq op2_ix se_str (se_callI c__law_pick hr (by decide) tk0 rfl (sa_cons (se_v 0) (sa_cons se_int sa_nil)) rfl) (fun _ _ => rfl)))) sa_nil))))))
noncomputable def B__law_near_1 : SM :=
  (sSeq (sSet 3 (eP2 pIx (eV 1) (eCallI m__law_pick [true] (aCons (eV 0) (aCons (ePrim pLen (aCons (eV 1) aNil)) aNil)))))
  (sIf (bE (eP2 pEq (eV 2) (eC (.int 2))))
  (sSet 3 (eP2 pAdd (eSl pSl (eV 3) none (some (eC (.int 11)))) (eC (.str "a"))))
  (sIf (bE (eP2 pEq (eV 2) (eC (.int 3))))
  (sSet 3 (eSl pSl (eV 3) none (some (eP1 pNeg (eC (.int 1))))))
  (sIf (bE (eP2 pEq (eV 2) (eC (.int 4))))
  (sSet 3 (eP2 pAdd (eSl pSl (eV 3) none (some (eC (.int 11)))) (eP2 pIx (eC (.str "abc")) (eCallI m__law_pick [true] (aCons (eV 0) (aCons (eC (.int 3)) aNil))))))
  (sIf (bE (eP2 pEq (eV 2) (eC (.int 5))))
  (sSet 3 (eP2 pAdd (eSl pSl (eV 3) none (some (eP1 pNeg (eC (.int 1))))) (eP2 pIx (eC (.str "abc")) (eCallI m__law_pick [true] (aCons (eV 0) (aCons (eC (.int 3)) aNil))))))
  sNx)))))
noncomputable def m__law_near : FM := fnM 2 [true, true]
  (sSeq (sSet 2 (eCallI m__law_pick [true] (aCons (eV 0) (aCons (eC (.int 6)) aNil))))
  (sSeq (sSet 3 (eC (.str "")))
  (sSeq (sIf (bOr (bE (eP2 pEq (eV 2) (eC (.int 0)))) (bE (eP2 pEq (eV 1) (eLst aNil))))
  (sSet 3 (eCallI m__law_text [true] (aCons (eV 0) aNil)))
  B__law_near_1)
  (sSeq (sApp 1 (eV 3))
  (sRet (eV 3))))))
theorem sc__law_near : FnScope ["hand", "pool", "way", "text"] ["hand", "pool"] (defScope s__law_near) := ⟨rfl, rfl, rfl, by decide +kernel, rfl, by decide +kernel, by decide +kernel⟩
theorem ok__law_near {P : Program} {w : World} {K : PySem.W.Frag} {mg : Str → Option Value} {base : Heap} {f : Addr} {fd : FuncData} {dvs : List V} {kws : List (Str × V)} (Bs : Bas K mg) (c__law_pick : FO P w K mg base "_law_pick" 1 2 [true] m__law_pick) (c__law_text : FO P w K mg base "_law_text" 2 1 [true] m__law_text)
    (F : FunD K "_law_near" "_law_near" (defArgs s__law_near) (defBody s__law_near) (defScope s__law_near) dvs kws f fd) :
    FnOk P w K mg base (L2.CX P w) 3 f fd ["hand", "pool"] (spM K mg m__law_near 2 [true, true]) :=
  have hN := sc__law_near.nd
  fnok_of F sc__law_near rfl rfl (by decide) fun cdv A outer s H E hr =>
  (sb_cons (ss_set (i := 2) hN (se_callI c__law_pick hr (by decide) takes_fn rfl (sa_cons (se_v 0) (sa_cons se_int sa_nil)) rfl))
  (sb_cons (ss_set (i := 3) hN se_str)
  (sb_cons (ss_if (st_w (sw_or (st_cmp (op_eqM hr.units) op2_eq (se_v 2) se_int (nomark _)) (sw_or1 (st_cmp (op_eqM hr.units) op2_eq (se_v 1) (se_lst sa_nil) (nomark _)))))
  (sb_one (ss_set (i := 3) hN (se_callI c__law_text hr (by decide) takes_fn rfl (sa_cons (se_v 0) sa_nil) rfl)))
  (sb_cons (ss_set (i := 3) hN (se_ix ix_seq op2_ix (se_v 1) (se_callI c__law_pick hr (by decide) takes_fn rfl (sa_cons (se_v 0) (sa_cons (se_callB call_lenM opn_len rfl Bs.free_len (by decide +kernel) (sa_cons (se_v 1) sa_nil)) sa_nil)) rfl) (fun _ _ => rfl)))
  (sb_one (ss_if (st_cmp (op_eqM hr.units) op2_eq (se_v 2) se_int (nomark _))
  (sb_one (ss_set (i := 3) hN (se_bin op_addM op2_add (se_sl sl_M ops_sl (se_v 3) sp_none (sp_some se_int)) se_str)))
  (sb_one (ss_if (st_cmp (op_eqM hr.units) op2_eq (se_v 2) se_int (nomark _))
  (sb_one (ss_set (i := 3) hN (se_sl sl_M ops_sl (se_v 3) sp_none (sp_some (se_un un_neg op1_neg se_int)))))
  (sb_one (ss_if (st_cmp (op_eqM hr.units) op2_eq (se_v 2) se_int (nomark _))
  (sb_one (ss_set (i := 3) hN (se_bin op_addM op2_add (se_sl sl_M ops_sl (se_v 3) sp_none (sp_some se_int)) (se_ix ix_seq op2_ix se_str (se_callI c__law_pick hr (by decide) takes_fn rfl (sa_cons (se_v 0) (sa_cons se_int sa_nil)) rfl) (fun _ _ => rfl)))))
  (sb_one (ss_if (st_cmp (op_eqM hr.units) op2_eq (se_v 2) se_int (nomark _))
  (sb_one (ss_set (i := 3) hN (se_bin op_addM op2_add (se_sl sl_M ops_sl (se_v 3) sp_none (sp_some (se_un un_neg op1_neg se_int))) (se_ix ix_seq op2_ix se_str (se_callI c__law_pick hr (by decide) takes_fn rfl (sa_cons (se_v 0) (sa_cons se_int sa_nil)) rfl) (fun _ _ => rfl)))))
  sb_nil))))))))))
  (sb_cons (ss_app 1 (se_v 3))
  (sb_one (ss_ret (se_v 3)))))))
noncomputable def B__law_query_1 (q : FM) : SM :=
  (sForR1 (eV 5) (.nm 7)
  (sIf (bE (eP2 pGt (eP2 pIx (eV 2) (eC (.int 0))) (eC (.int 0))))
  (sApp 6 (eCallI q [true, true, true] (aCons (eV 0) (aCons (eV 1) (aCons (eV 2) (aCons (eP2 pSub (eV 3) (eC (.int 1))) aNil))))))
  sNx))
noncomputable def B__law_query_2 (q : FM) : SM :=
  (sSeq (sIf (bE (eP2 pLt (eV 4) (eC (.int 9))))
  (sRet (eTup (aCons (eC (.str "not")) (aCons (eCallI q [true, true, true] (aCons (eV 0) (aCons (eV 1) (aCons (eV 2) (aCons (eP2 pSub (eV 3) (eC (.int 1))) aNil))))) aNil))))
  sNx)
  (sSeq (sSet 5 (eCallI m__law_pick [true] (aCons (eV 0) (aCons (eC (.int 5)) aNil))))
  (sSeq (sIf (bE (eP2 pEq (eV 5) (eC (.int 4))))
  (sSet 5 (eP2 pAdd (eC (.int 4)) (eCallI m__law_pick [true] (aCons (eV 0) (aCons (eC (.int 8)) aNil)))))
  sNx)
  (sSeq (sSet 6 (eLst aNil))
  (sSeq (B__law_query_1 q)
  (sRet (eTup (aCons (eP2 pIx (eLst (aCons (eC (.str "and")) (aCons (eC (.str "or")) aNil))) (eP2 (pI gMod) (eV 4) (eC (.int 2)))) (aCons (ePrim pTuple (aCons (eV 6) aNil)) aNil)))))))))
noncomputable def B__law_query_3 (q : FM) : EM :=
  (eLcR (eV 5) (.nm 7) bYes (eCallI m__law_near [true, true] (aCons (eV 0) (aCons (eV 1) aNil))) (List.map (·.2) ([("k", 7)] : List (Str × Nat))))
noncomputable def B__law_query_4 (q : FM) : SM :=
  (sSeq (sSet 5 (eCallI m__law_pick [true] (aCons (eV 0) (aCons (eP2 pAdd (eP2 pIx (eV 2) (eC (.int 1))) (eC (.int 1))) aNil))))
  (sSeq (sSetIx 2 (eC (.int 1)) (eP2 pSub (eP2 pIx (eV 2) (eC (.int 1))) (eV 5)))
  (sRet (eTup (aCons (eC (.str "among")) (aCons (ePrim pTuple (aCons (B__law_query_3 q) aNil)) aNil))))))
noncomputable def m__law_query : Nat → FM
  | 0 => fun _ => .stuck
  | fu + 1 => fnM 4 [true, true, true] (
    (sSeq (sSetIx 2 (eC (.int 0)) (eP2 pSub (eP2 pIx (eV 2) (eC (.int 0))) (eC (.int 1))))
  (sSeq (sSet 4 (eCallI m__law_pick [true] (aCons (eV 0) (aCons (eC (.int 14)) aNil))))
  (sSeq (sIf (bAnd (bE (eP2 pGt (eV 4) (eC (.int 6)))) (bAnd (bE (eP2 pGt (eV 3) (eC (.int 1)))) (bE (eP2 pGt (eP2 pIx (eV 2) (eC (.int 0))) (eC (.int 0))))))
  (B__law_query_2 (m__law_query fu))
  sNx)
  (sSeq (sIf (bE (eP2 pEq (eV 4) (eC (.int 1))))
  (sRet (eTup (aCons (eC (.str "say")) (aCons (eP2 pEq (eCallI m__law_pick [true] (aCons (eV 0) (aCons (eC (.int 2)) aNil))) (eC (.int 1))) aNil))))
  sNx)
  (sSeq (sIf (bE (eP2 pEq (eV 4) (eC (.int 2))))
  (B__law_query_4 (m__law_query fu))
  sNx)
  (sSeq (sIf (bOr (bE (eP2 pEq (eV 4) (eC (.int 0)))) (bE (eP2 pEq (eP2 pIx (eV 2) (eC (.int 1))) (eC (.int 0)))))
  (sRet (eTup (aCons (eC (.str "none")) aNil)))
  sNx)
  (sSeq (sSetIx 2 (eC (.int 1)) (eP2 pSub (eP2 pIx (eV 2) (eC (.int 1))) (eC (.int 1))))
  (sRet (eTup (aCons (eP2 pIx (eLst (aCons (eC (.str "is")) (aCons (eC (.str "below")) (aCons (eC (.str "above")) (aCons (eC (.str "begins")) aNil))))) (eP2 (pI gMod) (eV 4) (eC (.int 4)))) (aCons (eCallI m__law_near [true, true] (aCons (eV 0) (aCons (eV 1) aNil))) aNil))))))))))))
theorem sc__law_query : FnScope ["hand", "pool", "room", "levels", "way", "size", "parts", "k"] ["hand", "pool", "room", "levels"] (defScope s__law_query) := ⟨rfl, rfl, rfl, by decide +kernel, rfl, by decide +kernel, by decide +kernel⟩
theorem ok__law_query {P : Program} {w : World} {K : PySem.W.Frag} {mg : Str → Option Value} {base : Heap} {f : Addr} {fd : FuncData} {dvs : List V} {kws : List (Str × V)} (Bs : Bas K mg) (c__law_pick : FO P w K mg base "_law_pick" 1 2 [true] m__law_pick) (c__law_near : FO P w K mg base "_law_near" 3 2 [true, true] m__law_near) (fu : Nat) (c__law_query : FO P w K mg base "_law_query" (3 + fu) 4 [true, true, true] (m__law_query fu))
    (F : FunD K "_law_query" "_law_query" (defArgs s__law_query) (defBody s__law_query) (defScope s__law_query) dvs kws f fd) :
    FnOk P w K mg base (L2.CX P w) (3 + fu + 1) f fd ["hand", "pool", "room", "levels"] (spM K mg (m__law_query (fu + 1)) 4 [true, true, true]) :=
  have hN := sc__law_query.nd
  fnok_of F sc__law_query rfl rfl (by decide) fun cdv A outer s H E hr =>
  (sb_cons (ss_setIx 2 (se_bin op_sub op2_sub (se_ix ix_seq op2_ix (se_v 2) se_int (fun _ _ => rfl)) se_int) se_int)
  (sb_cons (ss_set (i := 4) hN (se_callI c__law_pick hr (by omega) takes_fn rfl (sa_cons (se_v 0) (sa_cons se_int sa_nil)) rfl))
  (sb_cons (ss_if (st_w (sw_and (st_cmp op_gtM op2_cmp (se_v 4) se_int (nomark _)) (sw_and (st_cmp op_gtM op2_cmp (se_v 3) se_int (nomark _)) (sw_and1 (st_cmp op_gtM op2_cmp (se_ix ix_seq op2_ix (se_v 2) se_int (fun _ _ => rfl)) se_int (nomark _))))))
  (sb_cons (ss_if (st_cmp op_ltM op2_cmp (se_v 4) se_int (nomark _))
  (sb_one (ss_ret (se_tup (sa_cons se_str (sa_cons (se_callI c__law_query hr (by omega) takes_fn rfl (sa_cons (se_v 0) (sa_cons (se_v 1) (sa_cons (se_v 2) (sa_cons (se_bin op_sub op2_sub (se_v 3) se_int) sa_nil)))) rfl) sa_nil)))))
  sb_nil)
  (sb_cons (ss_set (i := 5) hN (se_callI c__law_pick hr (by omega) takes_fn rfl (sa_cons (se_v 0) (sa_cons se_int sa_nil)) rfl))
  (sb_cons (ss_if (st_cmp (op_eqM hr.units) op2_eq (se_v 5) se_int (nomark _))
  (sb_one (ss_set (i := 5) hN (se_bin op_addM op2_add se_int (se_callI c__law_pick hr (by omega) takes_fn rfl (sa_cons (se_v 0) (sa_cons se_int sa_nil)) rfl))))
  sb_nil)
  (sb_cons (ss_set (i := 6) hN (se_lst sa_nil))
  (sb_cons (ss_forR1 passes_fn rfl rfl Bs.free_range (se_v 5) (sg_nm (i := 7) hN)
  (sb_one (ss_if (st_cmp op_gtM op2_cmp (se_ix ix_seq op2_ix (se_v 2) se_int (fun _ _ => rfl)) se_int (nomark _))
  (sb_one (ss_app 6 (se_callI c__law_query hr (by omega) takes_fn rfl (sa_cons (se_v 0) (sa_cons (se_v 1) (sa_cons (se_v 2) (sa_cons (se_bin op_sub op2_sub (se_v 3) se_int) sa_nil)))) rfl)))
  sb_nil)))
  (sb_one (ss_ret (se_tup (sa_cons (se_ix ix_seq op2_ix (se_lst (sa_cons se_str (sa_cons se_str sa_nil))) (se_bin op_mod op2_mod (se_v 4) se_int) (fun _ _ => rfl)) (sa_cons (se_callT call_tuple_of opn_tuple rfl Bs.free_tuple (by decide +kernel) (sa_cons (se_v 6) sa_nil)) sa_nil))))))))))
  sb_nil)
  (sb_cons (ss_if (st_cmp (op_eqM hr.units) op2_eq (se_v 4) se_int (nomark _))
  (sb_one (ss_ret (se_tup (sa_cons se_str (sa_cons (se_cmp (op_eqM hr.units) op2_eq (se_callI c__law_pick hr (by omega) takes_fn rfl (sa_cons (se_v 0) (sa_cons se_int sa_nil)) rfl) se_int (nomark _)) sa_nil)))))
  sb_nil)
  (sb_cons (ss_if (st_cmp (op_eqM hr.units) op2_eq (se_v 4) se_int (nomark _))
  (sb_cons (ss_set (i := 5) hN (se_callI c__law_pick hr (by omega) takes_fn rfl (sa_cons (se_v 0) (sa_cons (se_bin op_addM op2_add (se_ix ix_seq op2_ix (se_v 2) se_int (fun _ _ => rfl)) se_int) sa_nil)) rfl))
  (sb_cons (ss_setIx 2 (se_bin op_sub op2_sub (se_ix ix_seq op2_ix (se_v 2) se_int (fun _ _ => rfl)) (se_v 5)) se_int)
  (sb_one (ss_ret (se_tup (sa_cons se_str (sa_cons (se_callT call_tuple_of opn_tuple rfl Bs.free_tuple (by decide +kernel) (sa_cons (se_lcR (own := [("k", 7)]) takes_fn rfl hN rfl Bs.free_range (se_v 5) (show BlkOk ["hand", "pool", "room", "levels", "way", "size", "parts", "k"] (defScope s__law_query) _ [("k", 7)] from ⟨rfl, by decide +kernel, by decide +kernel, by decide +kernel, by decide +kernel⟩) (fun s0 H0 C0 cl0 fp0 xe0 => (sg_nm (i := 7) hN)) (fun s0 H0 C0 cl0 fp0 xe0 => sts_nil) (fun s00 s0 H0 C0 cl0 fp0 xe0 tk0 => (se_callI c__law_near hr (by omega) tk0 rfl (sa_cons (se_v 0) (sa_cons (se_v 1) sa_nil)) rfl))) sa_nil)) sa_nil)))))))
  sb_nil)
  (sb_cons (ss_if (st_w (sw_or (st_cmp (op_eqM hr.units) op2_eq (se_v 4) se_int (nomark _)) (sw_or1 (st_cmp (op_eqM hr.units) op2_eq (se_ix ix_seq op2_ix (se_v 2) se_int (fun _ _ => rfl)) se_int (nomark _)))))
  (sb_one (ss_ret (se_tup (sa_cons se_str sa_nil))))
  sb_nil)
  (sb_cons (ss_setIx 2 (se_bin op_sub op2_sub (se_ix ix_seq op2_ix (se_v 2) se_int (fun _ _ => rfl)) se_int) se_int)
  (sb_one (ss_ret (se_tup (sa_cons (se_ix ix_seq op2_ix (se_lst (sa_cons se_str (sa_cons se_str (sa_cons se_str (sa_cons se_str sa_nil))))) (se_bin op_mod op2_mod (se_v 4) se_int) (fun _ _ => rfl)) (sa_cons (se_callI c__law_near hr (by omega) takes_fn rfl (sa_cons (se_v 0) (sa_cons (se_v 1) sa_nil)) rfl) sa_nil))))))))))))
noncomputable def m__law_word : FM := fnM 0 []
  (sSeq (sIf (bE (eP2 (pIsN false) (eV 0) (eC .non)))
  (sRet (eC (.str "none")))
  sNx)
  (sRet (eIf (bE (eP2 pEq (eV 0) (eC (.str "")))) (eC (.str "-")) (eV 0))))
theorem sc__law_word : FnScope ["value"] ["value"] (defScope s__law_word) := ⟨rfl, rfl, rfl, by decide +kernel, rfl, by decide +kernel, by decide +kernel⟩
theorem ok__law_word {P : Program} {w : World} {K : PySem.W.Frag} {mg : Str → Option Value} {base : Heap} {f : Addr} {fd : FuncData} {dvs : List V} {kws : List (Str × V)} (Bs : Bas K mg)
    (F : FunD K "_law_word" "_law_word" (defArgs s__law_word) (defBody s__law_word) (defScope s__law_word) dvs kws f fd) :
    FnOk P w K mg base (L2.CX P w) 1 f fd ["value"] (spM K mg m__law_word 1 []) :=
  have hN := sc__law_word.nd
  fnok_of F sc__law_word rfl rfl (by decide) fun cdv A outer s H E hr =>
  (sb_cons (ss_if (st_cmp op_isM op2_is (se_v 0) se_non (nomark _))
  (sb_one (ss_ret se_str))
  sb_nil)
  (sb_one (ss_ret (se_if (st_cmp (op_eqM hr.units) op2_eq (se_v 0) se_str (nomark _)) se_str (se_v 0)))))
noncomputable def B__law_words_1 (q : FM) : SM :=
  (sFor (eP2 pIx (eV 0) (eC (.int 1))) (.nm 3)
  (sSet 2 (eP2 pAdd (eV 2) (eCall q (aCons (eV 3) aNil)))))
noncomputable def B__law_words_2 (q : FM) : SM :=
  (sSeq (sSet 2 (eLst (aCons (eV 1) (aCons (ePrim pStr (aCons (ePrim pLen (aCons (eP2 pIx (eV 0) (eC (.int 1))) aNil)) aNil)) aNil))))
  (sSeq (B__law_words_1 q)
  (sRet (eMv 2))))
noncomputable def B__law_words_3 (q : FM) : EM :=
  (eLc (eP2 pIx (eV 0) (eC (.int 1))) (.nm 4) bYes (eCall m__law_word (aCons (eV 4) aNil)) (List.map (·.2) ([("text", 4)] : List (Str × Nat))))
noncomputable def m__law_words : Nat → FM
  | 0 => fun _ => .stuck
  | fu + 1 => fnM 4 [] (
    (sSeq (sSet 1 (eP2 pIx (eV 0) (eC (.int 0))))
  (sSeq (sIf (bE (eP2 pEq (eV 1) (eC (.str "none"))))
  (sRet (eLst (aCons (eV 1) aNil)))
  sNx)
  (sSeq (sIf (bE (eP2 pEq (eV 1) (eC (.str "say"))))
  (sRet (eLst (aCons (eV 1) (aCons (eIf (bE (eP2 pIx (eV 0) (eC (.int 1)))) (eC (.str "yes")) (eC (.str "no"))) aNil))))
  sNx)
  (sSeq (sIf (bE (eP2 pEq (eV 1) (eC (.str "not"))))
  (sRet (eP2 pAdd (eLst (aCons (eV 1) aNil)) (eCall (m__law_words fu) (aCons (eP2 pIx (eV 0) (eC (.int 1))) aNil))))
  sNx)
  (sSeq (sIf (bOr (bE (eP2 pEq (eV 1) (eC (.str "and")))) (bE (eP2 pEq (eV 1) (eC (.str "or")))))
  (B__law_words_2 (m__law_words fu))
  sNx)
  (sSeq (sIf (bE (eP2 pEq (eV 1) (eC (.str "among"))))
  (sRet (eP2 pAdd (eLst (aCons (eV 1) (aCons (ePrim pStr (aCons (ePrim pLen (aCons (eP2 pIx (eV 0) (eC (.int 1))) aNil)) aNil)) aNil))) (B__law_words_3 (m__law_words fu))))
  sNx)
  (sRet (eLst (aCons (eV 1) (aCons (eCall m__law_word (aCons (eP2 pIx (eV 0) (eC (.int 1))) aNil)) aNil)))))))))))
theorem sc__law_words : FnScope ["query", "word", "found", "part", "text"] ["query"] (defScope s__law_words) := ⟨rfl, rfl, rfl, by decide +kernel, rfl, by decide +kernel, by decide +kernel⟩
theorem ok__law_words {P : Program} {w : World} {K : PySem.W.Frag} {mg : Str → Option Value} {base : Heap} {f : Addr} {fd : FuncData} {dvs : List V} {kws : List (Str × V)} (Bs : Bas K mg) (c__law_word : FO P w K mg base "_law_word" 1 1 [] m__law_word) (fu : Nat) (c__law_words : FO P w K mg base "_law_words" (1 + fu) 1 [] (m__law_words fu))
    (F : FunD K "_law_words" "_law_words" (defArgs s__law_words) (defBody s__law_words) (defScope s__law_words) dvs kws f fd) :
    FnOk P w K mg base (L2.CX P w) (1 + fu + 1) f fd ["query"] (spM K mg (m__law_words (fu + 1)) 1 []) :=
  have hN := sc__law_words.nd
  fnok_of F sc__law_words rfl rfl (by decide) fun cdv A outer s H E hr =>
  (sb_cons (ss_set (i := 1) hN (se_ix ix_seq op2_ix (se_v 0) se_int (fun _ _ => rfl)))
  (sb_cons (ss_if (st_cmp (op_eqM hr.units) op2_eq (se_v 1) se_str (nomark _))
  (sb_one (ss_ret (se_lst (sa_cons (se_v 1) sa_nil))))
  sb_nil)
  (sb_cons (ss_if (st_cmp (op_eqM hr.units) op2_eq (se_v 1) se_str (nomark _))
  (sb_one (ss_ret (se_lst (sa_cons (se_v 1) (sa_cons (se_if (st_val (se_ix ix_seq op2_ix (se_v 0) se_int (fun _ _ => rfl))) se_str se_str) sa_nil)))))
  sb_nil)
  (sb_cons (ss_if (st_cmp (op_eqM hr.units) op2_eq (se_v 1) se_str (nomark _))
  (sb_one (ss_ret (se_bin op_addM op2_add (se_lst (sa_cons (se_v 1) sa_nil)) (se_call c__law_words hr (by omega) takes_fn rfl (sa_cons (se_ix ix_seq op2_ix (se_v 0) se_int (fun _ _ => rfl)) sa_nil) rfl))))
  sb_nil)
  (sb_cons (ss_if (st_w (sw_or (st_cmp (op_eqM hr.units) op2_eq (se_v 1) se_str (nomark _)) (sw_or1 (st_cmp (op_eqM hr.units) op2_eq (se_v 1) se_str (nomark _)))))
  (sb_cons (ss_set (i := 2) hN (se_lst (sa_cons (se_v 1) (sa_cons (se_callT call_strM opn_str rfl Bs.free_str (by decide +kernel) (sa_cons (se_callB call_lenM opn_len rfl Bs.free_len (by decide +kernel) (sa_cons (se_ix ix_seq op2_ix (se_v 0) se_int (fun _ _ => rfl)) sa_nil)) sa_nil)) sa_nil))))
  (sb_cons (ss_for passes_fn rfl (se_ix ix_seq op2_ix (se_v 0) se_int (fun _ _ => rfl)) (sg_nm (i := 3) hN)
  (sb_one (ss_set (i := 2) hN (se_bin op_addM op2_add (se_v 2) (se_call c__law_words hr (by omega) takes_fn rfl (sa_cons (se_v 3) sa_nil) rfl)))))
  (sb_one (ss_ret (se_mv 2)))))
  sb_nil)
  (sb_cons (ss_if (st_cmp (op_eqM hr.units) op2_eq (se_v 1) se_str (nomark _))
  (sb_one (ss_ret (se_bin op_addM op2_add (se_lst (sa_cons (se_v 1) (sa_cons (se_callT call_strM opn_str rfl Bs.free_str (by decide +kernel) (sa_cons (se_callB call_lenM opn_len rfl Bs.free_len (by decide +kernel) (sa_cons (se_ix ix_seq op2_ix (se_v 0) se_int (fun _ _ => rfl)) sa_nil)) sa_nil)) sa_nil))) (se_lc (own := [("text", 4)]) takes_fn rfl hN (se_ix ix_seq op2_ix (se_v 0) se_int (fun _ _ => rfl)) (show BlkOk ["query", "word", "found", "part", "text"] (defScope s__law_words) _ [("text", 4)] from ⟨rfl, by decide +kernel, by decide +kernel, by decide +kernel, by decide +kernel⟩) (fun s0 H0 C0 cl0 fp0 xe0 => (sg_nm (i := 4) hN)) (fun s0 H0 C0 cl0 fp0 xe0 => sts_nil) (fun s00 s0 H0 C0 cl0 fp0 xe0 tk0 => (se_call c__law_word hr (by omega) tk0 rfl (sa_cons (se_v 4) sa_nil) rfl))))))
  sb_nil)
  (sb_one (ss_ret (se_lst (sa_cons (se_v 1) (sa_cons (se_call c__law_word hr (by omega) takes_fn rfl (sa_cons (se_ix ix_seq op2_ix (se_v 0) se_int (fun _ _ => rfl)) sa_nil) rfl) sa_nil)))))))))))
noncomputable def B__law_is_number_1 : EM :=
  (eLcS (eV 0) (.nm 2) (bE (eP2 (pIn true) (eV 2) (eC (.str "0123456789")))) (eV 2) (List.map (·.2) ([("sign", 2)] : List (Str × Nat))))
noncomputable def m__law_is_number : FM := fnM 1 []
  (sSeq (sIf (bOr (bE (eP2 pEq (eV 0) (eC (.str "")))) (bOr (bE (eP2 pGt (ePrim pLen (aCons (eV 0) aNil)) (eV 1))) (bE (eP2 pNe B__law_is_number_1 (eLst aNil)))))
  (sRet (eC (.bl false)))
  sNx)
  (sRet (eOr (eP2 pEq (eV 0) (eC (.str "0"))) (eP2 pNe (eP2 pIx (eV 0) (eC (.int 0))) (eC (.str "0"))))))
theorem sc__law_is_number : FnScope ["word", "most", "sign"] ["word", "most"] (defScope s__law_is_number) := ⟨rfl, rfl, rfl, by decide +kernel, rfl, by decide +kernel, by decide +kernel⟩
theorem ok__law_is_number {P : Program} {w : World} {K : PySem.W.Frag} {mg : Str → Option Value} {base : Heap} {f : Addr} {fd : FuncData} {dvs : List V} {kws : List (Str × V)} (Bs : Bas K mg)
    (F : FunD K "_law_is_number" "_law_is_number" (defArgs s__law_is_number) (defBody s__law_is_number) (defScope s__law_is_number) dvs kws f fd) :
    FnOk P w K mg base (L2.CX P w) 1 f fd ["word", "most"] (spM K mg m__law_is_number 2 []) :=
  have hN := sc__law_is_number.nd
  fnok_of F sc__law_is_number rfl rfl (by decide) fun cdv A outer s H E hr =>
  (sb_cons (ss_if (st_w (sw_or (st_cmp (op_eqM hr.units) op2_eq (se_v 0) se_str (nomark _)) (sw_or (st_cmp op_gtM op2_cmp (se_callB call_lenM opn_len rfl Bs.free_len (by decide +kernel) (sa_cons (se_v 0) sa_nil)) (se_v 1) (nomark _)) (sw_or1 (st_cmp (op_neM hr.units) op2_ne (se_lcS (own := [("sign", 2)]) takes_fn rfl hN (se_v 0) (show BlkOk ["word", "most", "sign"] (defScope s__law_is_number) _ [("sign", 2)] from ⟨rfl, by decide +kernel, by decide +kernel, by decide +kernel, by decide +kernel⟩) (fun s0 H0 C0 cl0 fp0 xe0 => (sg_nm (i := 2) hN)) (fun s0 H0 C0 cl0 fp0 xe0 => (sts_one (st_cmp (op_notInM (room_u hr)) op2_in (se_v 2) se_str (by with_unfolding_all rfl)))) (fun s00 s0 H0 C0 cl0 fp0 xe0 tk0 => (se_v 2))) (se_lst sa_nil) (nomark _))))))
  (sb_one (ss_ret se_bl))
  sb_nil)
  (sb_one (ss_ret (se_or (se_cmp (op_eqM hr.units) op2_eq (se_v 0) se_str (nomark _)) (se_one (se_cmp (op_neM hr.units) op2_ne (se_ix ix_seq op2_ix (se_v 0) se_int (fun _ _ => rfl)) se_str (nomark _)))))))
noncomputable def m__law_is_text_word : FM := fnM 0 []
  (sRet (eOr (eP2 pEq (eV 0) (eC (.str "-"))) (eAnd (eP2 pNe (eV 0) (eC (.str ""))) (eAnd (eP2 pLt (ePrim pLen (aCons (eV 0) aNil)) (eC (.int 41))) (eP2 pEq (eMt isStr pStrip (eV 0) (aCons (eC (.str "abc")) aNil)) (eC (.str "")))))))
theorem sc__law_is_text_word : FnScope ["word"] ["word"] (defScope s__law_is_text_word) := ⟨rfl, rfl, rfl, by decide +kernel, rfl, by decide +kernel, by decide +kernel⟩
theorem ok__law_is_text_word {P : Program} {w : World} {K : PySem.W.Frag} {mg : Str → Option Value} {base : Heap} {f : Addr} {fd : FuncData} {dvs : List V} {kws : List (Str × V)} (Bs : Bas K mg)
    (F : FunD K "_law_is_text_word" "_law_is_text_word" (defArgs s__law_is_text_word) (defBody s__law_is_text_word) (defScope s__law_is_text_word) dvs kws f fd) :
    FnOk P w K mg base (L2.CX P w) 1 f fd ["word"] (spM K mg m__law_is_text_word 1 []) :=
  have hN := sc__law_is_text_word.nd
  fnok_of F sc__law_is_text_word rfl rfl (by decide) fun cdv A outer s H E hr =>
  (sb_one (ss_ret (se_or (se_cmp (op_eqM hr.units) op2_eq (se_v 0) se_str (nomark _)) (se_one (se_and (se_cmp (op_neM hr.units) op2_ne (se_v 0) se_str (nomark _)) (se_and (se_cmp op_ltM op2_cmp (se_callB call_lenM opn_len rfl Bs.free_len (by decide +kernel) (sa_cons (se_v 0) sa_nil)) se_int (nomark _)) (se_one (se_cmp (op_eqM hr.units) op2_eq (se_mt isStr PySem.F.plainAttrs_str PySem.F.slot_str_strip PySem.F.type_str_strip mt_stripChars opm_strip tyV_str (se_v 0) (sa_cons se_str sa_nil)) se_str (nomark _)))))))))
noncomputable def B__law_place_1 : SM :=
  (sSeq (sIf (bNot (bE (eCall m__law_is_number (aCons (eV 5) (aCons (eC (.int 3)) aNil)))))
  (sRet (eV 2))
  sNx)
  (sSet 1 (eP2 pAdd (eV 1) (eP2 pMulM (eLst (aCons (eTup (aCons (eIf (bE (eP2 pEq (eV 3) (eC (.str "many")))) (eC (.str "filter")) (eC (.str "text"))) (aCons (eV 4) aNil))) aNil)) (ePrim pInt (aCons (eV 5) aNil))))))
noncomputable def B__law_place_2 : SM :=
  (sSeq (sSet 6 (eLst (aCons (eC (.str "is")) (aCons (eC (.str "below")) (aCons (eC (.str "above")) (aCons (eC (.str "begins")) (aCons (eC (.str "say")) (aCons (eC (.str "not")) (aCons (eC (.str "among")) (aCons (eC (.str "and")) (aCons (eC (.str "or")) (aCons (eC (.str "none")) aNil))))))))))))
  (sSeq (sIf (bOr (bE (eP2 pGt (eV 4) (eC (.int 20)))) (bE (eP2 (pIn true) (eV 5) (eV 6))))
  (sRet (eV 2))
  sNx)
  (sIf (bE (eP2 (pIn false) (eV 5) (eTup (aCons (eC (.str "and")) (aCons (eC (.str "or")) (aCons (eC (.str "not")) aNil))))))
  (sApp 1 (eTup (aCons (eIf (bE (eP2 pEq (eV 5) (eC (.str "not")))) (eC (.str "filter")) (eC (.str "many"))) (aCons (eP2 pAdd (eV 4) (eC (.int 1))) aNil))))
  (sIf (bE (eP2 pNe (eV 5) (eC (.str "none"))))
  (sApp 1 (eTup (aCons (eIf (bE (eP2 (pIn false) (eV 5) (eTup (aCons (eC (.str "say")) (aCons (eC (.str "among")) aNil))))) (eV 5) (eC (.str "text"))) (aCons (eC (.int 0)) aNil))))
  sNx))))
noncomputable def B__law_place_3 : SM :=
  (sForR1 (ePrim pLen (aCons (eV 0) aNil)) (.nm 2)
  (sSeq (sIf (bE (eP2 pEq (eV 1) (eLst aNil)))
  (sRet (eV 2))
  sNx)
  (sSeq (sUnp [3, 4] (ePop 1))
  (sSeq (sSet 5 (eP2 pIx (eV 0) (eV 2)))
  (sIf (bE (eP2 pEq (eV 3) (eC (.str "filter"))))
  B__law_place_2
  (sIf (bOr (bAnd (bE (eP2 pEq (eV 3) (eC (.str "text")))) (bNot (bE (eCall m__law_is_text_word (aCons (eV 5) aNil))))) (bAnd (bE (eP2 pEq (eV 3) (eC (.str "say")))) (bE (eP2 (pIn true) (eV 5) (eTup (aCons (eC (.str "yes")) (aCons (eC (.str "no")) aNil)))))))
  (sRet (eV 2))
  (sIf (bOr (bE (eP2 pEq (eV 3) (eC (.str "many")))) (bE (eP2 pEq (eV 3) (eC (.str "among")))))
  B__law_place_1
  sNx)))))))
noncomputable def m__law_place : FM := fnM 6 []
  (sSeq (sSet 1 (eLst (aCons (eTup (aCons (eC (.str "filter")) (aCons (eC (.int 1)) aNil))) aNil)))
  (sSeq B__law_place_3
  (sRet (eIf (bE (eP2 pEq (eV 1) (eLst aNil))) (eP1 pNeg (eC (.int 1))) (ePrim pLen (aCons (eV 0) aNil))))))
theorem sc__law_place : FnScope ["words", "wants", "at", "want", "level", "word", "heads"] ["words"] (defScope s__law_place) := ⟨rfl, rfl, rfl, by decide +kernel, rfl, by decide +kernel, by decide +kernel⟩
theorem ok__law_place {P : Program} {w : World} {K : PySem.W.Frag} {mg : Str → Option Value} {base : Heap} {f : Addr} {fd : FuncData} {dvs : List V} {kws : List (Str × V)} (Bs : Bas K mg) (c__law_is_text_word : FO P w K mg base "_law_is_text_word" 1 1 [] m__law_is_text_word) (c__law_is_number : FO P w K mg base "_law_is_number" 1 2 [] m__law_is_number)
    (F : FunD K "_law_place" "_law_place" (defArgs s__law_place) (defBody s__law_place) (defScope s__law_place) dvs kws f fd) :
    FnOk P w K mg base (L2.CX P w) 2 f fd ["words"] (spM K mg m__law_place 1 []) :=
  have hN := sc__law_place.nd
  fnok_of F sc__law_place rfl rfl (by decide) fun cdv A outer s H E hr =>
  (sb_cons (ss_set (i := 1) hN (se_lst (sa_cons (se_tup (sa_cons se_str (sa_cons se_int sa_nil))) sa_nil)))
  (sb_cons (ss_forR1 passes_fn rfl rfl Bs.free_range (se_callB call_lenM opn_len rfl Bs.free_len (by decide +kernel) (sa_cons (se_v 0) sa_nil)) (sg_nm (i := 2) hN)
  (sb_cons (ss_if (st_cmp (op_eqM hr.units) op2_eq (se_v 1) (se_lst sa_nil) (nomark _))
  (sb_one (ss_ret (se_v 2)))
  sb_nil)
  (sb_cons (ss_unp rfl (se_pop 1) (sgs_cons (i := 3) hN (sgs_cons (i := 4) hN sgs_nil)))
  (sb_cons (ss_set (i := 5) hN (se_ix ix_seq op2_ix (se_v 0) (se_v 2) (fun _ _ => rfl)))
  (sb_one (ss_if (st_cmp (op_eqM hr.units) op2_eq (se_v 3) se_str (nomark _))
  (sb_cons (ss_set (i := 6) hN (se_lst (sa_cons se_str (sa_cons se_str (sa_cons se_str (sa_cons se_str (sa_cons se_str (sa_cons se_str (sa_cons se_str (sa_cons se_str (sa_cons se_str (sa_cons se_str sa_nil))))))))))))
  (sb_cons (ss_if (st_w (sw_or (st_cmp op_gtM op2_cmp (se_v 4) se_int (nomark _)) (sw_or1 (st_cmp (op_notInM (room_u hr)) op2_in (se_v 5) (se_v 6) (by with_unfolding_all rfl)))))
  (sb_one (ss_ret (se_v 2)))
  sb_nil)
  (sb_one (ss_if (st_cmp (op_inM (room_u hr)) op2_in (se_v 5) (se_tup (sa_cons se_str (sa_cons se_str (sa_cons se_str sa_nil)))) (by with_unfolding_all rfl))
  (sb_one (ss_app 1 (se_tup (sa_cons (se_if (st_cmp (op_eqM hr.units) op2_eq (se_v 5) se_str (nomark _)) se_str se_str) (sa_cons (se_bin op_addM op2_add (se_v 4) se_int) sa_nil)))))
  (sb_one (ss_if (st_cmp (op_neM hr.units) op2_ne (se_v 5) se_str (nomark _))
  (sb_one (ss_app 1 (se_tup (sa_cons (se_if (st_cmp (op_inM (room_u hr)) op2_in (se_v 5) (se_tup (sa_cons se_str (sa_cons se_str sa_nil))) (by with_unfolding_all rfl)) (se_v 5) se_str) (sa_cons se_int sa_nil)))))
  sb_nil))))))
  (sb_one (ss_if (st_w (sw_or (st_w (sw_and (st_cmp (op_eqM hr.units) op2_eq (se_v 3) se_str (nomark _)) (sw_and1 (st_not (st_val (se_call c__law_is_text_word hr (by decide) takes_fn rfl (sa_cons (se_v 5) sa_nil) rfl)))))) (sw_or1 (st_w (sw_and (st_cmp (op_eqM hr.units) op2_eq (se_v 3) se_str (nomark _)) (sw_and1 (st_cmp (op_notInM (room_u hr)) op2_in (se_v 5) (se_tup (sa_cons se_str (sa_cons se_str sa_nil))) (by with_unfolding_all rfl))))))))
  (sb_one (ss_ret (se_v 2)))
  (sb_one (ss_if (st_w (sw_or (st_cmp (op_eqM hr.units) op2_eq (se_v 3) se_str (nomark _)) (sw_or1 (st_cmp (op_eqM hr.units) op2_eq (se_v 3) se_str (nomark _)))))
  (sb_cons (ss_if (st_not (st_val (se_call c__law_is_number hr (by decide) takes_fn rfl (sa_cons (se_v 5) (sa_cons se_int sa_nil)) rfl)))
  (sb_one (ss_ret (se_v 2)))
  sb_nil)
  (sb_one (ss_set (i := 1) hN (se_bin op_addM op2_add (se_v 1) (se_bin op_mulM op2_mulM (se_lst (sa_cons (se_tup (sa_cons (se_if (st_cmp (op_eqM hr.units) op2_eq (se_v 3) se_str (nomark _)) se_str se_str) (sa_cons (se_v 4) sa_nil))) sa_nil)) (se_callT call_intM opn_int rfl Bs.free_int (by decide +kernel) (sa_cons (se_v 5) sa_nil)))))))
  sb_nil))))))))))
  (sb_one (ss_ret (se_if (st_cmp (op_eqM hr.units) op2_eq (se_v 1) (se_lst sa_nil) (nomark _)) (se_un un_neg op1_neg se_int) (se_callB call_lenM opn_len rfl Bs.free_len (by decide +kernel) (sa_cons (se_v 0) sa_nil)))))))
noncomputable def B__law_strange_1 : EM :=
  (eLcR (eP2 pAdd (eC (.int 1)) (eCallI m__law_pick [true] (aCons (eV 0) (aCons (eC (.int 8)) aNil)))) (.nm 2) bYes (eP2 pIx (eV 1) (eCallI m__law_pick [true] (aCons (eV 0) (aCons (ePrim pLen (aCons (eV 1) aNil)) aNil)))) (List.map (·.2) ([("k", 2)] : List (Str × Nat))))
noncomputable def m__law_strange : FM := fnM 2 [true]
  (sSeq (sSet 1 (eC (.str " !\"#$&'()*+,-./0123456789:;<=>?@ABCDEFGHIJKLMNOPQRSTUVWXYZ[\\]^_")))
  (sSeq (sSet 1 (eP2 pAdd (eV 1) (eC (.str "`abcdefghijklmnopqrstuvwxyz{|}~\n"))))
  (sRet (eMt isStr pJoin (eC (.str "")) (aCons B__law_strange_1 aNil)))))
theorem sc__law_strange : FnScope ["hand", "signs_here", "k"] ["hand"] (defScope s__law_strange) := ⟨rfl, rfl, rfl, by decide +kernel, rfl, by decide +kernel, by decide +kernel⟩
theorem ok__law_strange {P : Program} {w : World} {K : PySem.W.Frag} {mg : Str → Option Value} {base : Heap} {f : Addr} {fd : FuncData} {dvs : List V} {kws : List (Str × V)} (Bs : Bas K mg) (c__law_pick : FO P w K mg base "_law_pick" 1 2 [true] m__law_pick)
    (F : FunD K "_law_strange" "_law_strange" (defArgs s__law_strange) (defBody s__law_strange) (defScope s__law_strange) dvs kws f fd) :
    FnOk P w K mg base (L2.CX P w) 2 f fd ["hand"] (spM K mg m__law_strange 1 [true]) :=
  have hN := sc__law_strange.nd
  fnok_of F sc__law_strange rfl rfl (by decide) fun cdv A outer s H E hr =>
  (sb_cons (ss_set (i := 1) hN se_str)
  (sb_cons (ss_set (i := 1) hN (se_bin op_addM op2_add (se_v 1) se_str))
  (sb_one (ss_ret (se_mt isStr PySem.F.plainAttrs_str PySem.F.slot_str_join PySem.F.type_str_join mt_join opm_join tyV_str se_str (sa_cons (se_lcR (own := [("k", 2)]) takes_fn rfl hN rfl Bs.free_range (se_bin op_addM op2_add se_int (se_callI c__law_pick hr (by decide) takes_fn rfl (sa_cons (se_v 0) (sa_cons se_int sa_nil)) rfl)) (show BlkOk ["hand", "signs_here", "k"] (defScope s__law_strange) _ [("k", 2)] from ⟨rfl, by decide +kernel, by decide +kernel, by decide +kernel, by decide +kernel⟩) (fun s0 H0 C0 cl0 fp0 xe0 => (sg_nm (i := 2) hN)) (fun s0 H0 C0 cl0 fp0 xe0 => sts_nil) (fun s00 s0 H0 C0 cl0 fp0 xe0 tk0 => (se_ix ix_seq op2_ix (se_v 1) (se_callI c__law_pick hr (by decide) tk0 rfl (sa_cons (se_v 0) (sa_cons (se_callB call_lenM opn_len rfl Bs.free_len (by decide +kernel) (sa_cons (se_v 1) sa_nil)) sa_nil)) rfl) (fun _ _ => rfl)))) sa_nil))))))
noncomputable def m__law_bent_word : FM := fnM 2 [true]
  (sSeq (sPar 2 3 (aCons (eCallI m__law_pick [true] (aCons (eV 0) (aCons (eC (.int 4)) aNil))) (aCons (eCallI m__law_pick [true] (aCons (eV 0) (aCons (eP2 pAdd (ePrim pLen (aCons (eV 1) aNil)) (eC (.int 1))) aNil))) aNil)))
  (sSeq (sIf (bE (eP2 pLt (eV 2) (eC (.int 2))))
  (sRet (eP2 pAdd (eP2 pAdd (eSl pSl (eV 1) none (some (eV 3))) (eSl pSl (eCallI m__law_strange [true] (aCons (eV 0) aNil)) none (some (eC (.int 1))))) (eSl pSl (eV 1) (some (eP2 pAdd (eV 3) (eV 2))) none)))
  sNx)
  (sSeq (sIf (bE (eP2 pEq (eV 2) (eC (.int 2))))
  (sRet (eP2 pAdd (eSl pSl (eV 1) none (some (eV 3))) (eSl pSl (eV 1) (some (eP2 pAdd (eV 3) (eC (.int 1)))) none)))
  sNx)
  (sRet (eP2 pAdd (eP2 pAdd (eSl pSl (eV 1) none (some (eV 3))) (eSl pSl (eV 1) (some (eV 3)) (some (eP2 pAdd (eV 3) (eC (.int 1)))))) (eSl pSl (eV 1) (some (eV 3)) none))))))
theorem sc__law_bent_word : FnScope ["hand", "word", "way", "at"] ["hand", "word"] (defScope s__law_bent_word) := ⟨rfl, rfl, rfl, by decide +kernel, rfl, by decide +kernel, by decide +kernel⟩
theorem ok__law_bent_word {P : Program} {w : World} {K : PySem.W.Frag} {mg : Str → Option Value} {base : Heap} {f : Addr} {fd : FuncData} {dvs : List V} {kws : List (Str × V)} (Bs : Bas K mg) (c__law_pick : FO P w K mg base "_law_pick" 1 2 [true] m__law_pick) (c__law_strange : FO P w K mg base "_law_strange" 2 1 [true] m__law_strange)
    (F : FunD K "_law_bent_word" "_law_bent_word" (defArgs s__law_bent_word) (defBody s__law_bent_word) (defScope s__law_bent_word) dvs kws f fd) :
    FnOk P w K mg base (L2.CX P w) 3 f fd ["hand", "word"] (spM K mg m__law_bent_word 2 [true]) :=
  have hN := sc__law_bent_word.nd
  fnok_of F sc__law_bent_word rfl rfl (by decide) fun cdv A outer s H E hr =>
  (sb_cons (ss_par 2 3 rfl hN (sa_cons (se_callI c__law_pick hr (by decide) takes_fn rfl (sa_cons (se_v 0) (sa_cons se_int sa_nil)) rfl) (sa_cons (se_callI c__law_pick hr (by decide) takes_fn rfl (sa_cons (se_v 0) (sa_cons (se_bin op_addM op2_add (se_callB call_lenM opn_len rfl Bs.free_len (by decide +kernel) (sa_cons (se_v 1) sa_nil)) se_int) sa_nil)) rfl) sa_nil)))
  (sb_cons (ss_if (st_cmp op_ltM op2_cmp (se_v 2) se_int (nomark _))
  (sb_one (ss_ret (se_bin op_addM op2_add (se_bin op_addM op2_add (se_sl sl_M ops_sl (se_v 1) sp_none (sp_some (se_v 3))) (se_sl sl_M ops_sl (se_callI c__law_strange hr (by decide) takes_fn rfl (sa_cons (se_v 0) sa_nil) rfl) sp_none (sp_some se_int))) (se_sl sl_M ops_sl (se_v 1) (sp_some (se_bin op_addM op2_add (se_v 3) (se_v 2))) sp_none))))
  sb_nil)
  (sb_cons (ss_if (st_cmp (op_eqM hr.units) op2_eq (se_v 2) se_int (nomark _))
  (sb_one (ss_ret (se_bin op_addM op2_add (se_sl sl_M ops_sl (se_v 1) sp_none (sp_some (se_v 3))) (se_sl sl_M ops_sl (se_v 1) (sp_some (se_bin op_addM op2_add (se_v 3) se_int)) sp_none))))
  sb_nil)
  (sb_one (ss_ret (se_bin op_addM op2_add (se_bin op_addM op2_add (se_sl sl_M ops_sl (se_v 1) sp_none (sp_some (se_v 3))) (se_sl sl_M ops_sl (se_v 1) (sp_some (se_v 3)) (sp_some (se_bin op_addM op2_add (se_v 3) se_int)))) (se_sl sl_M ops_sl (se_v 1) (sp_some (se_v 3)) sp_none)))))))
noncomputable def B__law_changed_1 : SM :=
  (sSeq (sSet 5 (eIf (bE (eP2 pEq (eCallI m__law_pick [true] (aCons (eV 0) (aCons (eC (.int 6)) aNil))) (eC (.int 0)))) (eLst (aCons (eCallI m__law_strange [true] (aCons (eV 0) aNil)) aNil)) (eLst (aCons (eP2 pIx (eV 2) (eCallI m__law_pick [true] (aCons (eV 0) (aCons (ePrim pLen (aCons (eV 2) aNil)) aNil)))) aNil))))
  (sRet (eP2 pAdd (eP2 pAdd (eSl pSl (eV 1) none (some (eV 4))) (eV 5)) (eSl pSl (eV 1) (some (eP2 pAdd (eV 4) (ePrim pInt (aCons (eP2 pEq (eV 3) (eC (.int 2))) aNil)))) none))))
noncomputable def m__law_changed : FM := fnM 3 [true]
  (sSeq (sPar 3 4 (aCons (eCallI m__law_pick [true] (aCons (eV 0) (aCons (eC (.int 9)) aNil))) (aCons (eCallI m__law_pick [true] (aCons (eV 0) (aCons (eP2 pAdd (ePrim pLen (aCons (eV 1) aNil)) (eC (.int 1))) aNil))) aNil)))
  (sSeq (sIf (bOr (bE (eP2 pLt (eV 3) (eC (.int 3)))) (bAnd (bE (eP2 pGt (eV 3) (eC (.int 6)))) (bE (eP2 pEq (eV 4) (ePrim pLen (aCons (eV 1) aNil))))))
  B__law_changed_1
  sNx)
  (sSeq (sIf (bE (eP2 pEq (eV 3) (eC (.int 3))))
  (sRet (eP2 pAdd (eSl pSl (eV 1) none (some (eV 4))) (eSl pSl (eV 1) (some (eP2 pAdd (eV 4) (eC (.int 1)))) none)))
  sNx)
  (sSeq (sIf (bE (eP2 pEq (eV 3) (eC (.int 4))))
  (sRet (eP2 pAdd (eP2 pAdd (eSl pSl (eV 1) none (some (eV 4))) (eSl pSl (eV 1) (some (eV 4)) (some (eP2 pAdd (eV 4) (eC (.int 1)))))) (eSl pSl (eV 1) (some (eV 4)) none)))
  sNx)
  (sSeq (sIf (bE (eP2 pEq (eV 3) (eC (.int 5))))
  (sRet (eP2 pAdd (eP2 pAdd (eSl pSl (eV 1) none (some (eV 4))) (eP1 pRev (eSl pSl (eV 1) (some (eV 4)) (some (eP2 pAdd (eV 4) (eC (.int 2))))))) (eSl pSl (eV 1) (some (eP2 pAdd (eV 4) (eC (.int 2)))) none)))
  sNx)
  (sSeq (sIf (bE (eP2 pEq (eV 3) (eC (.int 6))))
  (sRet (eSl pSl (eV 1) none (some (eV 4))))
  sNx)
  (sRet (eP2 pAdd (eP2 pAdd (eSl pSl (eV 1) none (some (eV 4))) (eLst (aCons (eCallI m__law_bent_word [true] (aCons (eV 0) (aCons (eP2 pIx (eV 1) (eV 4)) aNil))) aNil))) (eSl pSl (eV 1) (some (eP2 pAdd (eV 4) (eC (.int 1)))) none)))))))))
theorem sc__law_changed : FnScope ["hand", "words", "odd", "way", "at", "put"] ["hand", "words", "odd"] (defScope s__law_changed) := ⟨rfl, rfl, rfl, by decide +kernel, rfl, by decide +kernel, by decide +kernel⟩
theorem ok__law_changed {P : Program} {w : World} {K : PySem.W.Frag} {mg : Str → Option Value} {base : Heap} {f : Addr} {fd : FuncData} {dvs : List V} {kws : List (Str × V)} (Bs : Bas K mg) (c__law_pick : FO P w K mg base "_law_pick" 1 2 [true] m__law_pick) (c__law_strange : FO P w K mg base "_law_strange" 2 1 [true] m__law_strange) (c__law_bent_word : FO P w K mg base "_law_bent_word" 3 2 [true] m__law_bent_word)
    (F : FunD K "_law_changed" "_law_changed" (defArgs s__law_changed) (defBody s__law_changed) (defScope s__law_changed) dvs kws f fd) :
    FnOk P w K mg base (L2.CX P w) 4 f fd ["hand", "words", "odd"] (spM K mg m__law_changed 3 [true]) :=
  have hN := sc__law_changed.nd
  fnok_of F sc__law_changed rfl rfl (by decide) fun cdv A outer s H E hr =>
  (sb_cons (ss_par 3 4 rfl hN (sa_cons (se_callI c__law_pick hr (by decide) takes_fn rfl (sa_cons (se_v 0) (sa_cons se_int sa_nil)) rfl) (sa_cons (se_callI c__law_pick hr (by decide) takes_fn rfl (sa_cons (se_v 0) (sa_cons (se_bin op_addM op2_add (se_callB call_lenM opn_len rfl Bs.free_len (by decide +kernel) (sa_cons (se_v 1) sa_nil)) se_int) sa_nil)) rfl) sa_nil)))
  (sb_cons (ss_if (st_w (sw_or (st_cmp op_ltM op2_cmp (se_v 3) se_int (nomark _)) (sw_or1 (st_w (sw_and (st_cmp op_gtM op2_cmp (se_v 3) se_int (nomark _)) (sw_and1 (st_cmp (op_eqM hr.units) op2_eq (se_v 4) (se_callB call_lenM opn_len rfl Bs.free_len (by decide +kernel) (sa_cons (se_v 1) sa_nil)) (nomark _))))))))
  (sb_cons (ss_set (i := 5) hN (se_if (st_cmp (op_eqM hr.units) op2_eq (se_callI c__law_pick hr (by decide) takes_fn rfl (sa_cons (se_v 0) (sa_cons se_int sa_nil)) rfl) se_int (nomark _)) (se_lst (sa_cons (se_callI c__law_strange hr (by decide) takes_fn rfl (sa_cons (se_v 0) sa_nil) rfl) sa_nil)) (se_lst (sa_cons (se_ix ix_seq op2_ix (se_v 2) (se_callI c__law_pick hr (by decide) takes_fn rfl (sa_cons (se_v 0) (sa_cons (se_callB call_lenM opn_len rfl Bs.free_len (by decide +kernel) (sa_cons (se_v 2) sa_nil)) sa_nil)) rfl) (fun _ _ => rfl)) sa_nil))))
  (sb_one (ss_ret (se_bin op_addM op2_add (se_bin op_addM op2_add (se_sl sl_M ops_sl (se_v 1) sp_none (sp_some (se_v 4))) (se_v 5)) (se_sl sl_M ops_sl (se_v 1) (sp_some (se_bin op_addM op2_add (se_v 4) (se_callT call_intM opn_int rfl Bs.free_int (by decide +kernel) (sa_cons (se_cmp (op_eqM hr.units) op2_eq (se_v 3) se_int (nomark _)) sa_nil)))) sp_none)))))
  sb_nil)
  (sb_cons (ss_if (st_cmp (op_eqM hr.units) op2_eq (se_v 3) se_int (nomark _))
  (sb_one (ss_ret (se_bin op_addM op2_add (se_sl sl_M ops_sl (se_v 1) sp_none (sp_some (se_v 4))) (se_sl sl_M ops_sl (se_v 1) (sp_some (se_bin op_addM op2_add (se_v 4) se_int)) sp_none))))
  sb_nil)
  (sb_cons (ss_if (st_cmp (op_eqM hr.units) op2_eq (se_v 3) se_int (nomark _))
  (sb_one (ss_ret (se_bin op_addM op2_add (se_bin op_addM op2_add (se_sl sl_M ops_sl (se_v 1) sp_none (sp_some (se_v 4))) (se_sl sl_M ops_sl (se_v 1) (sp_some (se_v 4)) (sp_some (se_bin op_addM op2_add (se_v 4) se_int)))) (se_sl sl_M ops_sl (se_v 1) (sp_some (se_v 4)) sp_none))))
  sb_nil)
  (sb_cons (ss_if (st_cmp (op_eqM hr.units) op2_eq (se_v 3) se_int (nomark _))
  (sb_one (ss_ret (se_bin op_addM op2_add (se_bin op_addM op2_add (se_sl sl_M ops_sl (se_v 1) sp_none (sp_some (se_v 4))) (se_rev (se_sl sl_M ops_sl (se_v 1) (sp_some (se_v 4)) (sp_some (se_bin op_addM op2_add (se_v 4) se_int))))) (se_sl sl_M ops_sl (se_v 1) (sp_some (se_bin op_addM op2_add (se_v 4) se_int)) sp_none))))
  sb_nil)
  (sb_cons (ss_if (st_cmp (op_eqM hr.units) op2_eq (se_v 3) se_int (nomark _))
  (sb_one (ss_ret (se_sl sl_M ops_sl (se_v 1) sp_none (sp_some (se_v 4)))))
  sb_nil)
  (sb_one (ss_ret (se_bin op_addM op2_add (se_bin op_addM op2_add (se_sl sl_M ops_sl (se_v 1) sp_none (sp_some (se_v 4))) (se_lst (sa_cons (se_callI c__law_bent_word hr (by decide) takes_fn rfl (sa_cons (se_v 0) (sa_cons (se_ix ix_seq op2_ix (se_v 1) (se_v 4) (fun _ _ => rfl)) sa_nil)) rfl) sa_nil))) (se_sl sl_M ops_sl (se_v 1) (sp_some (se_bin op_addM op2_add (se_v 4) se_int)) sp_none))))))))))
noncomputable def m__law_is_text : FM := fnM 0 []
  (sRet (eAnd (eP1 (pIsi "str") (eV 0)) (eP2 pEq (eMt isStr pStrip (eV 0) (aCons (eC (.str "abc")) aNil)) (eC (.str "")))))
theorem sc__law_is_text : FnScope ["found"] ["found"] (defScope s__law_is_text) := ⟨rfl, rfl, rfl, by decide +kernel, rfl, by decide +kernel, by decide +kernel⟩
theorem ok__law_is_text {P : Program} {w : World} {K : PySem.W.Frag} {mg : Str → Option Value} {base : Heap} {f : Addr} {fd : FuncData} {dvs : List V} {kws : List (Str × V)} (Bs : Bas K mg)
    (F : FunD K "_law_is_text" "_law_is_text" (defArgs s__law_is_text) (defBody s__law_is_text) (defScope s__law_is_text) dvs kws f fd) :
    FnOk P w K mg base (L2.CX P w) 1 f fd ["found"] (spM K mg m__law_is_text 1 []) :=
  have hN := sc__law_is_text.nd
  fnok_of F sc__law_is_text rfl rfl (by decide) fun cdv A outer s H E hr =>
  (sb_one (ss_ret (se_and (se_isi "str" tok_str rfl Bs.free_isinstance rfl Bs.free_str (by decide +kernel) (se_v 0)) (se_one (se_cmp (op_eqM hr.units) op2_eq (se_mt isStr PySem.F.plainAttrs_str PySem.F.slot_str_strip PySem.F.type_str_strip mt_stripChars opm_strip tyV_str (se_v 0) (sa_cons se_str sa_nil)) se_str (nomark _))))))
noncomputable def B__law_is_query_1 (q : FM) : EM :=
  (eLcV 2 (.nm 3) (bNot (bE (eCall m__law_is_text (aCons (eV 3) aNil)))) (eV 3) (List.map (·.2) ([("each", 3)] : List (Str × Nat))))
noncomputable def B__law_is_query_2 (q : FM) : EM :=
  (eLcV 2 (.nm 3) (bNot (bE (eCall q (aCons (eV 3) aNil)))) (eV 3) (List.map (·.2) ([("each", 3)] : List (Str × Nat))))
noncomputable def B__law_is_query_3 (q : FM) : SM :=
  (sSeq (sIf (bNot (bE (eP1 (pIsi "tuple") (eV 2))))
  (sRet (eC (.bl false)))
  sNx)
  (sSeq (sIf (bE (eP2 pEq (eV 1) (eC (.str "among"))))
  (sRet (eP2 pEq (B__law_is_query_1 q) (eLst aNil)))
  sNx)
  (sRet (eP2 pEq (B__law_is_query_2 q) (eLst aNil)))))
noncomputable def m__law_is_query : Nat → FM
  | 0 => fun _ => .stuck
  | fu + 1 => fnM 3 [] (
    (sSeq (sIf (bOr (bNot (bE (eP1 (pIsi "tuple") (eV 0)))) (bOr (bE (eP2 (pIn true) (ePrim pLen (aCons (eV 0) aNil)) (eTup (aCons (eC (.int 1)) (aCons (eC (.int 2)) aNil))))) (bNot (bE (eP1 (pIsi "str") (eP2 pIx (eV 0) (eC (.int 0))))))))
  (sRet (eC (.bl false)))
  sNx)
  (sSeq (sSet 1 (eP2 pIx (eV 0) (eC (.int 0))))
  (sSeq (sIf (bOr (bE (eP2 pEq (ePrim pLen (aCons (eV 0) aNil)) (eC (.int 1)))) (bE (eP2 pEq (eV 1) (eC (.str "none")))))
  (sRet (eAnd (eP2 pEq (eV 1) (eC (.str "none"))) (eP2 pEq (ePrim pLen (aCons (eV 0) aNil)) (eC (.int 1)))))
  sNx)
  (sSeq (sSet 2 (eP2 pIx (eV 0) (eC (.int 1))))
  (sSeq (sIf (bE (eP2 pEq (eV 1) (eC (.str "not"))))
  (sRet (eCall (m__law_is_query fu) (aCons (eV 2) aNil)))
  sNx)
  (sSeq (sIf (bE (eP2 pEq (eV 1) (eC (.str "say"))))
  (sRet (eP1 (pIsi "bool") (eV 2)))
  sNx)
  (sSeq (sIf (bE (eP2 (pIn false) (eV 1) (eTup (aCons (eC (.str "among")) (aCons (eC (.str "and")) (aCons (eC (.str "or")) aNil))))))
  (B__law_is_query_3 (m__law_is_query fu))
  sNx)
  (sRet (eAnd (eP2 (pIn false) (eV 1) (eTup (aCons (eC (.str "is")) (aCons (eC (.str "below")) (aCons (eC (.str "above")) (aCons (eC (.str "begins")) aNil)))))) (eCall m__law_is_text (aCons (eV 2) aNil))))))))))))
theorem sc__law_is_query : FnScope ["found", "word", "part", "each"] ["found"] (defScope s__law_is_query) := ⟨rfl, rfl, rfl, by decide +kernel, rfl, by decide +kernel, by decide +kernel⟩
theorem ok__law_is_query {P : Program} {w : World} {K : PySem.W.Frag} {mg : Str → Option Value} {base : Heap} {f : Addr} {fd : FuncData} {dvs : List V} {kws : List (Str × V)} (Bs : Bas K mg) (c__law_is_text : FO P w K mg base "_law_is_text" 1 1 [] m__law_is_text) (fu : Nat) (c__law_is_query : FO P w K mg base "_law_is_query" (1 + fu) 1 [] (m__law_is_query fu))
    (F : FunD K "_law_is_query" "_law_is_query" (defArgs s__law_is_query) (defBody s__law_is_query) (defScope s__law_is_query) dvs kws f fd) :
    FnOk P w K mg base (L2.CX P w) (1 + fu + 1) f fd ["found"] (spM K mg (m__law_is_query (fu + 1)) 1 []) :=
  have hN := sc__law_is_query.nd
  fnok_of F sc__law_is_query rfl rfl (by decide) fun cdv A outer s H E hr =>
  (sb_cons (ss_if (st_w (sw_or (st_not (st_val (se_isi "tuple" tok_tuple rfl Bs.free_isinstance rfl Bs.free_tuple (by decide +kernel) (se_v 0)))) (sw_or (st_cmp (op_notInM (room_u hr)) op2_in (se_callB call_lenM opn_len rfl Bs.free_len (by decide +kernel) (sa_cons (se_v 0) sa_nil)) (se_tup (sa_cons se_int (sa_cons se_int sa_nil))) (by with_unfolding_all rfl)) (sw_or1 (st_not (st_val (se_isi "str" tok_str rfl Bs.free_isinstance rfl Bs.free_str (by decide +kernel) (se_ix ix_seq op2_ix (se_v 0) se_int (fun _ _ => rfl)))))))))
  (sb_one (ss_ret se_bl))
  sb_nil)
  (sb_cons (ss_set (i := 1) hN (se_ix ix_seq op2_ix (se_v 0) se_int (fun _ _ => rfl)))
  (sb_cons (ss_if (st_w (sw_or (st_cmp (op_eqM hr.units) op2_eq (se_callB call_lenM opn_len rfl Bs.free_len (by decide +kernel) (sa_cons (se_v 0) sa_nil)) se_int (nomark _)) (sw_or1 (st_cmp (op_eqM hr.units) op2_eq (se_v 1) se_str (nomark _)))))
  (sb_one (ss_ret (se_and (se_cmp (op_eqM hr.units) op2_eq (se_v 1) se_str (nomark _)) (se_one (se_cmp (op_eqM hr.units) op2_eq (se_callB call_lenM opn_len rfl Bs.free_len (by decide +kernel) (sa_cons (se_v 0) sa_nil)) se_int (nomark _))))))
  sb_nil)
  (sb_cons (ss_set (i := 2) hN (se_ix ix_seq op2_ix (se_v 0) se_int (fun _ _ => rfl)))
  (sb_cons (ss_if (st_cmp (op_eqM hr.units) op2_eq (se_v 1) se_str (nomark _))
  (sb_one (ss_ret (se_call c__law_is_query hr (by omega) takes_fn rfl (sa_cons (se_v 2) sa_nil) rfl)))
  sb_nil)
  (sb_cons (ss_if (st_cmp (op_eqM hr.units) op2_eq (se_v 1) se_str (nomark _))
  (sb_one (ss_ret (se_isi "bool" tok_bool rfl Bs.free_isinstance rfl Bs.free_bool (by decide +kernel) (se_v 2))))
  sb_nil)
  (sb_cons (ss_if (st_cmp (op_inM (room_u hr)) op2_in (se_v 1) (se_tup (sa_cons se_str (sa_cons se_str (sa_cons se_str sa_nil)))) (by with_unfolding_all rfl))
  (sb_cons (ss_if (st_not (st_val (se_isi "tuple" tok_tuple rfl Bs.free_isinstance rfl Bs.free_tuple (by decide +kernel) (se_v 2))))
  (sb_one (ss_ret se_bl))
  sb_nil)
  (sb_cons (ss_if (st_cmp (op_eqM hr.units) op2_eq (se_v 1) se_str (nomark _))
  (sb_one (ss_ret (se_cmp (op_eqM hr.units) op2_eq (se_lcV 2 (own := [("each", 3)]) takes_fn rfl hN (show BlkOk ["found", "word", "part", "each"] (defScope s__law_is_query) _ [("each", 3)] from ⟨rfl, by decide +kernel, by decide +kernel, by decide +kernel, by decide +kernel⟩) (fun s0 H0 C0 cl0 fp0 xe0 => (sg_nm (i := 3) hN)) (fun s0 H0 C0 cl0 fp0 xe0 => (sts_one (st_not (st_val (se_call c__law_is_text hr (by omega) takes_blk rfl (sa_cons (se_v 3) sa_nil) rfl))))) (fun s00 s0 H0 C0 cl0 fp0 xe0 tk0 => (se_v 3))) (se_lst sa_nil) (nomark _))))
  sb_nil)
  (sb_one (ss_ret (se_cmp (op_eqM hr.units) op2_eq (se_lcV 2 (own := [("each", 3)]) takes_fn rfl hN (show BlkOk ["found", "word", "part", "each"] (defScope s__law_is_query) _ [("each", 3)] from ⟨rfl, by decide +kernel, by decide +kernel, by decide +kernel, by decide +kernel⟩) (fun s0 H0 C0 cl0 fp0 xe0 => (sg_nm (i := 3) hN)) (fun s0 H0 C0 cl0 fp0 xe0 => (sts_one (st_not (st_val (se_call c__law_is_query hr (by omega) takes_blk rfl (sa_cons (se_v 3) sa_nil) rfl))))) (fun s00 s0 H0 C0 cl0 fp0 xe0 tk0 => (se_v 3))) (se_lst sa_nil) (nomark _))))))
  sb_nil)
  (sb_one (ss_ret (se_and (se_cmp (op_inM (room_u hr)) op2_in (se_v 1) (se_tup (sa_cons se_str (sa_cons se_str (sa_cons se_str (sa_cons se_str sa_nil))))) (by with_unfolding_all rfl)) (se_one (se_call c__law_is_text hr (by omega) takes_fn rfl (sa_cons (se_v 2) sa_nil) rfl))))))))))))
noncomputable def m__law_odd_words : FM := fnM 1 []
  (sSeq (sSet 0 (eLst (aCons (eC (.str "")) (aCons (eC (.str "-")) (aCons (eC (.str "none")) (aCons (eC (.str "say")) (aCons (eC (.str "yes")) (aCons (eC (.str "no")) (aCons (eC (.str "not")) (aCons (eC (.str "and")) (aCons (eC (.str "or")) (aCons (eC (.str "among")) (aCons (eC (.str "is")) (aCons (eC (.str "below")) (aCons (eC (.str "above")) (aCons (eC (.str "begins")) aNil))))))))))))))))
  (sSeq (sSet 0 (eP2 pAdd (eV 0) (eLst (aCons (eC (.str "0")) (aCons (eC (.str "1")) (aCons (eC (.str "2")) (aCons (eC (.str "3")) (aCons (eC (.str "00")) (aCons (eC (.str "01")) (aCons (eC (.str "-1")) (aCons (eC (.str "+1")) (aCons (eC (.str "999")) (aCons (eC (.str "1000")) (aCons (eC (.str "0x1")) (aCons (eC (.str "1_0")) (aCons (eC (.str "a")) (aCons (eC (.str "cab")) (aCons (eC (.str "d")) (aCons (eC (.str "A")) (aCons (eC (.str "None")) aNil))))))))))))))))))))
  (sRet (eP2 pAdd (eV 0) (eLst (aCons (eP2 pMulM (eC (.str "a")) (eC (.int 40))) (aCons (eP2 pAdd (eP2 pMulM (eC (.str "bc")) (eC (.int 20))) (eC (.str "a"))) (aCons (eC (.str "--")) (aCons (eC (.str "-a")) (aCons (eC (.str "a-")) (aCons (eC (.str "|")) (aCons (eC (.str "\n")) (aCons (eC (.str "a\n")) (aCons (eC (.str "is\n")) (aCons (eC (.str "many")) (aCons (eC (.str "\"a\"")) (aCons (eC (.str "0 ")) (aCons (eC (.str " ")) aNil))))))))))))))))))
theorem sc__law_odd_words : FnScope ["odd"] [] (defScope s__law_odd_words) := ⟨rfl, rfl, rfl, by decide +kernel, rfl, by decide +kernel, by decide +kernel⟩
theorem ok__law_odd_words {P : Program} {w : World} {K : PySem.W.Frag} {mg : Str → Option Value} {base : Heap} {f : Addr} {fd : FuncData} {dvs : List V} {kws : List (Str × V)} (Bs : Bas K mg)
    (F : FunD K "_law_odd_words" "_law_odd_words" (defArgs s__law_odd_words) (defBody s__law_odd_words) (defScope s__law_odd_words) dvs kws f fd) :
    FnOk P w K mg base (L2.CX P w) 1 f fd [] (spM K mg m__law_odd_words 0 []) :=
  have hN := sc__law_odd_words.nd
  fnok_of F sc__law_odd_words rfl rfl (by decide) fun cdv A outer s H E hr =>
  (sb_cons (ss_set (i := 0) hN (se_lst (sa_cons se_str (sa_cons se_str (sa_cons se_str (sa_cons se_str (sa_cons se_str (sa_cons se_str (sa_cons se_str (sa_cons se_str (sa_cons se_str (sa_cons se_str (sa_cons se_str (sa_cons se_str (sa_cons se_str (sa_cons se_str sa_nil))))))))))))))))
  (sb_cons (ss_set (i := 0) hN (se_bin op_addM op2_add (se_v 0) (se_lst (sa_cons se_str (sa_cons se_str (sa_cons se_str (sa_cons se_str (sa_cons se_str (sa_cons se_str (sa_cons se_str (sa_cons se_str (sa_cons se_str (sa_cons se_str (sa_cons se_str (sa_cons se_str (sa_cons se_str (sa_cons se_str (sa_cons se_str (sa_cons se_str (sa_cons se_str sa_nil))))))))))))))))))))
  (sb_one (ss_ret (se_bin op_addM op2_add (se_v 0) (se_lst (sa_cons (se_bin op_mulM op2_mulM se_str se_int) (sa_cons (se_bin op_addM op2_add (se_bin op_mulM op2_mulM se_str se_int) se_str) (sa_cons se_str (sa_cons se_str (sa_cons se_str (sa_cons se_str (sa_cons se_str (sa_cons se_str (sa_cons se_str (sa_cons se_str (sa_cons se_str (sa_cons se_str (sa_cons se_str sa_nil)))))))))))))))))))
noncomputable def m__law_read : FM := fnM 4 []
  (sSeq (sSet 1 (eC .non))
  (sSeq (sSet 2 (eC .non))
  (sSeq (sTryAs isx_InvalidWords 3 1
  (sSet 2 (eCall m_read_filter (aCons (eV 0) aNil))))
  (sSeq (sIf (bE (eP2 (pIsN false) (eV 1) (eC .non)))
  (sRet (eTup (aCons (eV 2) (aCons (eP1 pNeg (eC (.int 1))) (aCons (eC (.bl true)) aNil)))))
  sNx)
  (sSeq (sSet 4 (eLst (aCons (eP1 (pIsx isx_SkipError) (eV 1)) (aCons (eP1 (pIsx isx_ValueError) (eV 1)) (aCons (eP1 (pIsx isx_InvalidFilter) (eV 1)) aNil)))))
  (sRet (eTup (aCons (eC .non) (aCons (eP1 pPlace (eV 1)) (aCons (eP2 pEq (eP2 pAdd (eV 4) (eLst (aCons (eP1 (pIsx isx_InvalidValue) (eV 1)) aNil))) (eLst (aCons (eC (.bl true)) (aCons (eC (.bl true)) (aCons (eC (.bl false)) (aCons (eC (.bl false)) aNil)))))) aNil))))))))))
theorem sc__law_read : FnScope ["line", "caught", "found", "e", "marks"] ["line"] (defScope s__law_read) := ⟨rfl, rfl, rfl, by decide +kernel, rfl, by decide +kernel, by decide +kernel⟩
theorem ok__law_read {P : Program} {w : World} {K : PySem.W.Frag} {mg : Str → Option Value} {base : Heap} {f : Addr} {fd : FuncData} {dvs : List V} {kws : List (Str × V)} (Bs : Bas K mg) (c_read_filter : FO P w K mg base "read_filter" 29 1 [] m_read_filter)
    (F : FunD K "_law_read" "_law_read" (defArgs s__law_read) (defBody s__law_read) (defScope s__law_read) dvs kws f fd) :
    FnOk P w K mg base (L2.CX P w) 30 f fd ["line"] (spM K mg m__law_read 1 []) :=
  have hN := sc__law_read.nd
  fnok_of F sc__law_read rfl rfl (by decide) fun cdv A outer s H E hr =>
  (sb_cons (ss_set (i := 1) hN se_non)
  (sb_cons (ss_set (i := 2) hN se_non)
  (sb_cons (by
  obtain ⟨C0, q1, q2⟩ := Bs.xm_InvalidWords
  exact ss_tryAs isx_InvalidWords 3 1 rfl rfl rfl hN takes_fn rfl q1 q2 fun W1 pn1 xe1 t1 p1 => (sb_one (ss_set (i := 2) hN (se_call c_read_filter hr (by decide) t1 rfl (sa_cons (se_v 0) sa_nil) rfl))))
  (sb_cons (ss_if (st_cmp op_isM op2_is (se_v 1) se_non (nomark _))
  (sb_one (ss_ret (se_tup (sa_cons (se_v 2) (sa_cons (se_un un_neg op1_neg se_int) (sa_cons se_bl sa_nil))))))
  sb_nil)
  (sb_cons (ss_set (i := 4) hN (se_lst (sa_cons (by
  obtain ⟨C0, q1, q2⟩ := Bs.xi_SkipError
  exact se_isx isx_SkipError q2 (.own C0) rfl Bs.free_isinstance (se_v 1) (pe_glob rfl q1 rfl)) (sa_cons (se_isx isx_ValueError Bs.xi_ValueError (.ty "ValueError") rfl Bs.free_isinstance (se_v 1) (pe_bltn (v := .ty "ValueError") rfl Bs.free_ValueError (by decide +kernel) rfl)) (sa_cons (by
  obtain ⟨C0, q1, q2⟩ := Bs.xi_InvalidFilter
  exact se_isx isx_InvalidFilter q2 (.own C0) rfl Bs.free_isinstance (se_v 1) (pe_glob rfl q1 rfl)) sa_nil)))))
  (sb_one (ss_ret (se_tup (sa_cons se_non (sa_cons (by
  obtain ⟨C0, q1, q2, q3, q4, q5⟩ := Bs.try_InvalidWords
  exact se_place (se_v 1) (fun id hid => q3 ⟨id, some 0⟩ 0 (decide_eq_true hid) rfl) q4 q5) (sa_cons (se_cmp (op_eqM hr.units) op2_eq (se_bin op_addM op2_add (se_v 4) (se_lst (sa_cons (by
  obtain ⟨C0, q1, q2⟩ := Bs.xi_InvalidValue
  exact se_isx isx_InvalidValue q2 (.own C0) rfl Bs.free_isinstance (se_v 1) (pe_glob rfl q1 rfl)) sa_nil))) (se_lst (sa_cons se_bl (sa_cons se_bl (sa_cons se_bl (sa_cons se_bl sa_nil))))) (nomark _)) sa_nil)))))))))))
noncomputable def B_law_1 : SM :=
  (sForR1 (eP2 pAdd (eC (.int 1)) (eCallI m__law_pick [true] (aCons (eV 2) (aCons (eC (.int 3)) aNil)))) (.nm 6)
  (sSet 4 (eCallI m__law_changed [true] (aCons (eV 2) (aCons (eFz 4) (aCons (eCall m__law_odd_words aNil) aNil))))))
noncomputable def B_law_2 : SM :=
  (sFor (eP2 pAdd (eLst (aCons (eC (.int 102)) aNil)) (eV 0)) (.nm 1)
  (sSeq (sSet 2 (eCall m__law_hand (aCons (eV 1) aNil)))
  (sSeq (sSet 3 (eCallI (m__law_query 24) [true, true, true] (aCons (eV 2) (aCons (eLst aNil) (aCons (eLst (aCons (eC (.int 12)) (aCons (eC (.int 8)) aNil))) (aCons (eC (.int 5)) aNil))))))
  (sSeq (sSet 4 (eCall (m__law_words 24) (aCons (eV 3) aNil)))
  (sSeq (sSet 5 (eMt isStr pJoin (eC (.str " ")) (aCons (eV 4) aNil)))
  (sSeq B_law_1
  (sSeq (sSet 7 (eMt isStr pJoin (eC (.str " ")) (aCons (eV 4) aNil)))
  (sSeq (sUnp [8, 9, 10] (eCall m__law_read (aCons (eV 7) aNil)))
  (sSeq (sIf (bOr (bNot (bE (eV 10))) (bE (eP2 pNe (ePrim pRepr (aCons (eV 9) aNil)) (ePrim pRepr (aCons (eCall m__law_place (aCons (eMt isStr pSplit (eV 7) (aCons (eC (.str " ")) aNil)) aNil)) aNil)))))
  (sRet (eC (.bl false)))
  sNx)
  (sSeq (sIf (bAnd (bE (eP2 pEq (eV 9) (eP1 pNeg (eC (.int 1))))) (bOr (bNot (bE (eCall (m__law_is_query 24) (aCons (eV 8) aNil)))) (bE (eP2 pNe (eMt isStr pJoin (eC (.str " ")) (aCons (eCall (m__law_words 24) (aCons (eV 8) aNil)) aNil)) (eV 7)))))
  (sRet (eC (.bl false)))
  sNx)
  (sIf (bE (eP2 pNe (ePrim pRepr (aCons (eCall m__law_read (aCons (eV 5) aNil)) aNil)) (ePrim pRepr (aCons (eTup (aCons (eV 3) (aCons (eP1 pNeg (eC (.int 1))) (aCons (eC (.bl true)) aNil)))) aNil))))
  (sRet (eC (.bl false)))
  sNx)))))))))))
noncomputable def m_law : FM := fnM 10 []
  (sSeq B_law_2
  (sRet (eC (.bl true))))
theorem sc_law : FnScope ["script", "cell", "hand", "wanted", "words_here", "line", "turn", "bent", "found", "place", "right"] ["script"] (defScope s_law) := ⟨rfl, rfl, rfl, by decide +kernel, rfl, by decide +kernel, by decide +kernel⟩
theorem ok_law {P : Program} {w : World} {K : PySem.W.Frag} {mg : Str → Option Value} {base : Heap} {f : Addr} {fd : FuncData} {dvs : List V} {kws : List (Str × V)} (Bs : Bas K mg) (c__law_hand : FO P w K mg base "_law_hand" 1 1 [] m__law_hand) (c__law_query : FO P w K mg base "_law_query" 27 4 [true, true, true] (m__law_query 24)) (c__law_words : FO P w K mg base "_law_words" 25 1 [] (m__law_words 24)) (c__law_read : FO P w K mg base "_law_read" 30 1 [] m__law_read) (c__law_changed : FO P w K mg base "_law_changed" 4 3 [true] m__law_changed) (c__law_pick : FO P w K mg base "_law_pick" 1 2 [true] m__law_pick) (c__law_odd_words : FO P w K mg base "_law_odd_words" 1 0 [] m__law_odd_words) (c__law_place : FO P w K mg base "_law_place" 2 1 [] m__law_place) (c__law_is_query : FO P w K mg base "_law_is_query" 25 1 [] (m__law_is_query 24))
    (F : FunD K "law" "law" (defArgs s_law) (defBody s_law) (defScope s_law) dvs kws f fd) :
    FnG P w K mg base (L2.CX P w) 31 f fd ["script"] (spM K mg m_law 1 []) :=
  have hN := sc_law.nd
  fnG_body F sc_law rfl rfl (by decide) fun cdv A outer s H E hG hr =>
  (sb_cons (ss_for passes_fn rfl (se_bin op_addM op2_add (se_lst (sa_cons se_int sa_nil)) (se_v 0)) (sg_nm (i := 1) hN)
  (sb_cons (ss_set (i := 2) hN (se_call c__law_hand hr (by decide) takes_fn rfl (sa_cons (se_v 1) sa_nil) rfl))
  (sb_cons (ss_set (i := 3) hN (se_callI c__law_query hr (by decide) takes_fn rfl (sa_cons (se_v 2) (sa_cons (se_lst sa_nil) (sa_cons (se_lst (sa_cons se_int (sa_cons se_int sa_nil))) (sa_cons se_int sa_nil)))) rfl))
  (sb_cons (ss_set (i := 4) hN (se_call c__law_words hr (by decide) takes_fn rfl (sa_cons (se_v 3) sa_nil) rfl))
  (sb_cons (ss_set (i := 5) hN (se_mt isStr PySem.F.plainAttrs_str PySem.F.slot_str_join PySem.F.type_str_join mt_join opm_join tyV_str se_str (sa_cons (se_v 4) sa_nil)))
  (sb_cons (ss_forR1 passes_fn rfl rfl Bs.free_range (se_bin op_addM op2_add se_int (se_callI c__law_pick hr (by decide) takes_fn rfl (sa_cons (se_v 2) (sa_cons se_int sa_nil)) rfl)) (sg_nm (i := 6) hN)
  (sb_one (ss_set (i := 4) hN (se_callI c__law_changed hr (by decide) takes_fn rfl (sa_cons (se_v 2) (sa_cons (se_fz 4) (sa_cons (se_call0 c__law_odd_words hr (by decide) takes_fn rfl) sa_nil))) rfl))))
  (sb_cons (ss_set (i := 7) hN (se_mt isStr PySem.F.plainAttrs_str PySem.F.slot_str_join PySem.F.type_str_join mt_join opm_join tyV_str se_str (sa_cons (se_v 4) sa_nil)))
  (sb_cons (ss_unp rfl (se_call c__law_read hr (by decide) takes_fn rfl (sa_cons (se_v 7) sa_nil) rfl) (sgs_cons (i := 8) hN (sgs_cons (i := 9) hN (sgs_cons (i := 10) hN sgs_nil))))
  (sb_cons (ss_if (st_w (sw_or (st_not (st_val (se_v 10))) (sw_or1 (st_cmp (op_neM hr.units) op2_ne (se_callB (call_reprM hG hr.units) opn_repr rfl Bs.free_repr (by decide +kernel) (sa_cons (se_v 9) sa_nil)) (se_callB (call_reprM hG hr.units) opn_repr rfl Bs.free_repr (by decide +kernel) (sa_cons (se_call c__law_place hr (by decide) takes_fn rfl (sa_cons (se_mt isStr PySem.F.plainAttrs_str PySem.F.slot_str_split PySem.F.type_str_split mt_split opm_split tyV_str (se_v 7) (sa_cons se_str sa_nil)) sa_nil) rfl) sa_nil)) (nomark _)))))
  (sb_one (ss_ret se_bl))
  sb_nil)
  (sb_cons (ss_if (st_w (sw_and (st_cmp (op_eqM hr.units) op2_eq (se_v 9) (se_un un_neg op1_neg se_int) (nomark _)) (sw_and1 (st_w (sw_or (st_not (st_val (se_call c__law_is_query hr (by decide) takes_fn rfl (sa_cons (se_v 8) sa_nil) rfl))) (sw_or1 (st_cmp (op_neM hr.units) op2_ne (se_mt isStr PySem.F.plainAttrs_str PySem.F.slot_str_join PySem.F.type_str_join mt_join opm_join tyV_str se_str (sa_cons (se_call c__law_words hr (by decide) takes_fn rfl (sa_cons (se_v 8) sa_nil) rfl) sa_nil)) (se_v 7) (nomark _))))))))
  (sb_one (ss_ret se_bl))
  sb_nil)
  (sb_one (ss_if (st_cmp (op_neM hr.units) op2_ne (se_callB (call_reprM hG hr.units) opn_repr rfl Bs.free_repr (by decide +kernel) (sa_cons (se_call c__law_read hr (by decide) takes_fn rfl (sa_cons (se_v 5) sa_nil) rfl) sa_nil)) (se_callB (call_reprM hG hr.units) opn_repr rfl Bs.free_repr (by decide +kernel) (sa_cons (se_tup (sa_cons (se_v 3) (sa_cons (se_un un_neg op1_neg se_int) (sa_cons se_bl sa_nil)))) sa_nil)) (nomark _))
  (sb_one (ss_ret se_bl))
  sb_nil))))))))))))
  (sb_one (ss_ret se_bl)))
/-! ### the head -/
def d_InvalidWords_init : He.DefD := ⟨("InvalidWords", some "__init__"), "__init__", "InvalidWords.__init__", defArgs s_InvalidWords_init, defBody s_InvalidWords_init, defScope s_InvalidWords_init, [], []⟩
def d_is_text : He.DefD := ⟨("is_text", none), "is_text", "is_text", defArgs s_is_text, defBody s_is_text, defScope s_is_text, [], []⟩
def d_WordReader_init : He.DefD := ⟨("WordReader", some "__init__"), "__init__", "WordReader.__init__", defArgs s_WordReader_init, defBody s_WordReader_init, defScope s_WordReader_init, [], []⟩
def d_WordReader_take : He.DefD := ⟨("WordReader", some "take"), "take", "WordReader.take", defArgs s_WordReader_take, defBody s_WordReader_take, defScope s_WordReader_take, [], []⟩
def d_WordReader_ended : He.DefD := ⟨("WordReader", some "ended"), "ended", "WordReader.ended", defArgs s_WordReader_ended, defBody s_WordReader_ended, defScope s_WordReader_ended, [], []⟩
def d_is_number_word : He.DefD := ⟨("is_number_word", none), "is_number_word", "is_number_word", defArgs s_is_number_word, defBody s_is_number_word, defScope s_is_number_word, [], []⟩
def d_take_number : He.DefD := ⟨("take_number", none), "take_number", "take_number", defArgs s_take_number, defBody s_take_number, defScope s_take_number, [], []⟩
def d_take_text : He.DefD := ⟨("take_text", none), "take_text", "take_text", defArgs s_take_text, defBody s_take_text, defScope s_take_text, [], []⟩
def d_take_answer : He.DefD := ⟨("take_answer", none), "take_answer", "take_answer", defArgs s_take_answer, defBody s_take_answer, defScope s_take_answer, [], []⟩
def d_take_filter : He.DefD := ⟨("take_filter", none), "take_filter", "take_filter", defArgs s_take_filter, defBody s_take_filter, defScope s_take_filter, [], []⟩
def d_read_filter : He.DefD := ⟨("read_filter", none), "read_filter", "read_filter", defArgs s_read_filter, defBody s_read_filter, defScope s_read_filter, [], []⟩
def d__law_hand : He.DefD := ⟨("_law_hand", none), "_law_hand", "_law_hand", defArgs s__law_hand, defBody s__law_hand, defScope s__law_hand, [], []⟩
def d__law_pick : He.DefD := ⟨("_law_pick", none), "_law_pick", "_law_pick", defArgs s__law_pick, defBody s__law_pick, defScope s__law_pick, [], []⟩
def d__law_text : He.DefD := ⟨("_law_text", none), "_law_text", "_law_text", defArgs s__law_text, defBody s__law_text, defScope s__law_text, [], []⟩
def d__law_near : He.DefD := ⟨("_law_near", none), "_law_near", "_law_near", defArgs s__law_near, defBody s__law_near, defScope s__law_near, [], []⟩
def d__law_query : He.DefD := ⟨("_law_query", none), "_law_query", "_law_query", defArgs s__law_query, defBody s__law_query, defScope s__law_query, [], []⟩
def d__law_word : He.DefD := ⟨("_law_word", none), "_law_word", "_law_word", defArgs s__law_word, defBody s__law_word, defScope s__law_word, [], []⟩
def d__law_words : He.DefD := ⟨("_law_words", none), "_law_words", "_law_words", defArgs s__law_words, defBody s__law_words, defScope s__law_words, [], []⟩
def d__law_is_number : He.DefD := ⟨("_law_is_number", none), "_law_is_number", "_law_is_number", defArgs s__law_is_number, defBody s__law_is_number, defScope s__law_is_number, [], []⟩
def d__law_is_text_word : He.DefD := ⟨("_law_is_text_word", none), "_law_is_text_word", "_law_is_text_word", defArgs s__law_is_text_word, defBody s__law_is_text_word, defScope s__law_is_text_word, [], []⟩
def d__law_place : He.DefD := ⟨("_law_place", none), "_law_place", "_law_place", defArgs s__law_place, defBody s__law_place, defScope s__law_place, [], []⟩
def d__law_strange : He.DefD := ⟨("_law_strange", none), "_law_strange", "_law_strange", defArgs s__law_strange, defBody s__law_strange, defScope s__law_strange, [], []⟩
def d__law_bent_word : He.DefD := ⟨("_law_bent_word", none), "_law_bent_word", "_law_bent_word", defArgs s__law_bent_word, defBody s__law_bent_word, defScope s__law_bent_word, [], []⟩
def d__law_changed : He.DefD := ⟨("_law_changed", none), "_law_changed", "_law_changed", defArgs s__law_changed, defBody s__law_changed, defScope s__law_changed, [], []⟩
def d__law_is_text : He.DefD := ⟨("_law_is_text", none), "_law_is_text", "_law_is_text", defArgs s__law_is_text, defBody s__law_is_text, defScope s__law_is_text, [], []⟩
def d__law_is_query : He.DefD := ⟨("_law_is_query", none), "_law_is_query", "_law_is_query", defArgs s__law_is_query, defBody s__law_is_query, defScope s__law_is_query, [], []⟩
def d__law_odd_words : He.DefD := ⟨("_law_odd_words", none), "_law_odd_words", "_law_odd_words", defArgs s__law_odd_words, defBody s__law_odd_words, defScope s__law_odd_words, [], []⟩
def d__law_read : He.DefD := ⟨("_law_read", none), "_law_read", "_law_read", defArgs s__law_read, defBody s__law_read, defScope s__law_read, [], []⟩
def d_law : He.DefD := ⟨("law", none), "law", "law", defArgs s_law, defBody s_law, defScope s_law, [], []⟩
def fn : List He.DefD := [d_InvalidWords_init, d_is_text, d_WordReader_init, d_WordReader_take, d_WordReader_ended, d_is_number_word, d_take_number, d_take_text, d_take_answer, d_take_filter, d_read_filter, d__law_hand, d__law_pick, d__law_text, d__law_near, d__law_query, d__law_word, d__law_words, d__law_is_number, d__law_is_text_word, d__law_place, d__law_strange, d__law_bent_word, d__law_changed, d__law_is_text, d__law_is_query, d__law_odd_words, d__law_read, d_law]
def fa : List He.Fa := [.free "ValueError", .free "bool", .free "int", .free "isinstance", .free "len", .free "range", .free "repr", .free "str", .free "tuple", .glo "is_text", .glo "is_number_word", .glo "take_number", .glo "take_text", .glo "take_answer", .glo "take_filter", .glo "read_filter", .glo "_law_hand", .glo "_law_pick", .glo "_law_text", .glo "_law_near", .glo "_law_query", .glo "_law_word", .glo "_law_words", .glo "_law_is_number", .glo "_law_is_text_word", .glo "_law_place", .glo "_law_strange", .glo "_law_bent_word", .glo "_law_changed", .glo "_law_is_text", .glo "_law_is_query", .glo "_law_odd_words", .glo "_law_read", .glo "law", .int "DEEPEST_LEVEL" 20, .str "DIGITS" "0123456789", .glo "GROUPS", .glo "LEAVES", .str "LETTERS" "abc", .int "LONGEST_TEXT" 40, .glo "WordReader", .cls "WordReader", .mkr "WordReader", .meth "WordReader" "take", .meth "WordReader" "ended", .glo "InvalidWords", .glo "SkipError", .exm "SkipError" "InvalidWords" false, .free "InvalidText", .glo "InvalidValue", .exm "InvalidValue" "InvalidWords" false, .free "InvalidSpan", .glo "InvalidFilter", .exm "InvalidFilter" "InvalidWords" false, .free "InvalidRule", .free "InvalidPage", .free "InvalidNote", .free "InvalidColumn", .free "InvalidIndex", .free "InvalidNumber", .free "InvalidCode", .free "NoBlock", .free "NothingToUndo", .free "Full", .free "InvalidCommand", .exm "InvalidWords" "InvalidWords" true]
def ex (K : PySem.W.Frag) : Bool := He.tupB K "GROUPS" [.str "and", .str "or"] && (He.tupB K "LEAVES" [.str "is", .str "below", .str "above", .str "begins"] && (((lay 0).2.all fun f => (He.Fa.noat (lay 0).1 f).ok K) && (oexB K (He.ga K "InvalidWords") && (xfB K (He.ga K "InvalidWords") && (decide (PySem.W.findIn K (.ref (He.ga K "InvalidWords")) "place" = some none) && (decide (PySem.W.findIn K (.ref (He.ga K "InvalidWords")) "__init__" = some (some (.ref (He.fAd K ("InvalidWords", some "__init__"))))) && (decide (PySem.W.typeIn K (.ref (He.fAd K ("InvalidWords", some "__init__"))) = some (.type "function")) && (decide (PySem.W.findIn K (.ref (He.ga K "SkipError")) "__getattribute__" = some (some (.builtin "BaseException.__getattribute__"))) && (decide (PySem.W.findIn K (.ref (He.ga K "SkipError")) "__getattr__" = some none) && (decide (PySem.W.subIn K (.ref (He.ga K "SkipError")) (.type "BaseException") = some true) && (PySem.W.hasDictIn K (He.ga K "SkipError") && (decide (PySem.W.findIn K (.ref (He.ga K "SkipError")) "__class__" = some (some (.builtin "object.__class__"))) && (decide (PySem.W.specialIn K (.builtin "object.__class__") "__get__" = some (some (.builtin "getset_descriptor.__get__"))) && (decide (PySem.W.takesIn K (.builtin "object.__class__") = some true) && (decide (PySem.W.mroIn K (He.ga K "SkipError") (.type "object") = some true)))))))) && (decide (PySem.W.findIn K (.ref (He.ga K "InvalidValue")) "__getattribute__" = some (some (.builtin "BaseException.__getattribute__"))) && (decide (PySem.W.findIn K (.ref (He.ga K "InvalidValue")) "__getattr__" = some none) && (decide (PySem.W.subIn K (.ref (He.ga K "InvalidValue")) (.type "BaseException") = some true) && (PySem.W.hasDictIn K (He.ga K "InvalidValue") && (decide (PySem.W.findIn K (.ref (He.ga K "InvalidValue")) "__class__" = some (some (.builtin "object.__class__"))) && (decide (PySem.W.specialIn K (.builtin "object.__class__") "__get__" = some (some (.builtin "getset_descriptor.__get__"))) && (decide (PySem.W.takesIn K (.builtin "object.__class__") = some true) && (decide (PySem.W.mroIn K (He.ga K "InvalidValue") (.type "object") = some true)))))))) && (decide (PySem.W.findIn K (.ref (He.ga K "InvalidFilter")) "__getattribute__" = some (some (.builtin "BaseException.__getattribute__"))) && (decide (PySem.W.findIn K (.ref (He.ga K "InvalidFilter")) "__getattr__" = some none) && (decide (PySem.W.subIn K (.ref (He.ga K "InvalidFilter")) (.type "BaseException") = some true) && (PySem.W.hasDictIn K (He.ga K "InvalidFilter") && (decide (PySem.W.findIn K (.ref (He.ga K "InvalidFilter")) "__class__" = some (some (.builtin "object.__class__"))) && (decide (PySem.W.specialIn K (.builtin "object.__class__") "__get__" = some (some (.builtin "getset_descriptor.__get__"))) && (decide (PySem.W.takesIn K (.builtin "object.__class__") = some true) && (decide (PySem.W.mroIn K (He.ga K "InvalidFilter") (.type "object") = some true)))))))) && (decide (PySem.W.findIn K (.ref (He.ga K "InvalidWords")) "__getattribute__" = some (some (.builtin "BaseException.__getattribute__"))) && (decide (PySem.W.findIn K (.ref (He.ga K "InvalidWords")) "__getattr__" = some none) && (decide (PySem.W.subIn K (.ref (He.ga K "InvalidWords")) (.type "BaseException") = some true) && (PySem.W.hasDictIn K (He.ga K "InvalidWords") && (decide (PySem.W.findIn K (.ref (He.ga K "InvalidWords")) "__class__" = some (some (.builtin "object.__class__"))) && (decide (PySem.W.specialIn K (.builtin "object.__class__") "__get__" = some (some (.builtin "getset_descriptor.__get__"))) && (decide (PySem.W.takesIn K (.builtin "object.__class__") = some true) && (decide (PySem.W.mroIn K (He.ga K "InvalidWords") (.type "object") = some true)))))))) && (decide (PySem.W.kitOne K (.type "NoneType") (.ref (He.ga K "InvalidFilter")) = some false) && (decide (PySem.W.kitOne K (.ref (He.ga K "SkipError")) (.ref (He.ga K "InvalidFilter")) = some false) && (decide (PySem.W.kitOne K (.ref (He.ga K "InvalidValue")) (.ref (He.ga K "InvalidFilter")) = some false) && (decide (PySem.W.kitOne K (.ref (He.ga K "InvalidFilter")) (.ref (He.ga K "InvalidFilter")) = some true) && (decide (PySem.W.kitOne K (.ref (He.ga K "InvalidWords")) (.ref (He.ga K "InvalidFilter")) = some false) && (decide (PySem.W.kitOne K (.type "NoneType") (.ref (He.ga K "InvalidValue")) = some false) && (decide (PySem.W.kitOne K (.ref (He.ga K "SkipError")) (.ref (He.ga K "InvalidValue")) = some false) && (decide (PySem.W.kitOne K (.ref (He.ga K "InvalidValue")) (.ref (He.ga K "InvalidValue")) = some true) && (decide (PySem.W.kitOne K (.ref (He.ga K "InvalidFilter")) (.ref (He.ga K "InvalidValue")) = some false) && (decide (PySem.W.kitOne K (.ref (He.ga K "InvalidWords")) (.ref (He.ga K "InvalidValue")) = some false) && (decide (PySem.W.kitOne K (.type "NoneType") (.ref (He.ga K "SkipError")) = some false) && (decide (PySem.W.kitOne K (.ref (He.ga K "SkipError")) (.ref (He.ga K "SkipError")) = some true) && (decide (PySem.W.kitOne K (.ref (He.ga K "InvalidValue")) (.ref (He.ga K "SkipError")) = some true) && (decide (PySem.W.kitOne K (.ref (He.ga K "InvalidFilter")) (.ref (He.ga K "SkipError")) = some true) && (decide (PySem.W.kitOne K (.ref (He.ga K "InvalidWords")) (.ref (He.ga K "SkipError")) = some true) && (decide (PySem.W.kitOne K (.type "NoneType") (.type "ValueError") = some false) && (decide (PySem.W.kitOne K (.ref (He.ga K "SkipError")) (.type "ValueError") = some true) && (decide (PySem.W.kitOne K (.ref (He.ga K "InvalidValue")) (.type "ValueError") = some true) && (decide (PySem.W.kitOne K (.ref (He.ga K "InvalidFilter")) (.type "ValueError") = some true) && (decide (PySem.W.kitOne K (.ref (He.ga K "InvalidWords")) (.type "ValueError") = some true))))))))))))))))))))))))))))))))
abbrev R : PySem.W.OpenRow := PySem.W.OpenLaw.row PySem.Challenge.rw_pageskips_k62_whole_words_that_cannot_st
abbrev hk : PySem.W.Hook := He.hookX 6 fa fn [] [] ex
def ob (s : PySem.W.SharedT) : He.AlX := He.obsX 6 fa fn [] [] ex (HandSHeadRun.getT s)
theorem ob_eq (s : PySem.W.SharedT) : ob s = hk.obs s.abs := He.obsX_eq (HandSHeadRun.getT_eq s)
def others : List PySem.Str := (["SkipError", "InvalidValue", "InvalidFilter", "InvalidWords", "LETTERS", "is_text", "DIGITS", "LEAVES", "GROUPS", "DEEPEST_LEVEL", "LONGEST_TEXT", "WordReader", "is_number_word", "take_number", "take_text", "take_answer", "take_filter", "read_filter", "_law_hand", "_law_pick", "_law_text", "_law_near", "_law_query", "_law_word", "_law_words", "_law_is_number", "_law_is_text_word", "_law_place", "_law_strange", "_law_bent_word"] : List PySem.Str) ++ (["_law_changed", "_law_is_text", "_law_is_query", "_law_odd_words", "_law_read"] : List PySem.Str)
theorem run (w : World) : HandSHeadRun.RunEq R (PySem.W.view R.prog [39]) hk ob 6000 others w := by
  intro os
  kernel_rfl
section
variable {P : Program} {w : World} {K : PySem.W.Frag} {h : Heap} {mg : Str → Option Value}
theorem f_free_ValueError (c : He.SaysX fa fn [] [] ex w h K) : He.Fa.ok K (.free "ValueError") = true := c.t.d.fact 0 (f := .free "ValueError") rfl
theorem f_free_bool (c : He.SaysX fa fn [] [] ex w h K) : He.Fa.ok K (.free "bool") = true := c.t.d.fact 1 (f := .free "bool") rfl
theorem f_free_int (c : He.SaysX fa fn [] [] ex w h K) : He.Fa.ok K (.free "int") = true := c.t.d.fact 2 (f := .free "int") rfl
theorem f_free_isinstance (c : He.SaysX fa fn [] [] ex w h K) : He.Fa.ok K (.free "isinstance") = true := c.t.d.fact 3 (f := .free "isinstance") rfl
theorem f_free_len (c : He.SaysX fa fn [] [] ex w h K) : He.Fa.ok K (.free "len") = true := c.t.d.fact 4 (f := .free "len") rfl
theorem f_free_range (c : He.SaysX fa fn [] [] ex w h K) : He.Fa.ok K (.free "range") = true := c.t.d.fact 5 (f := .free "range") rfl
theorem f_free_repr (c : He.SaysX fa fn [] [] ex w h K) : He.Fa.ok K (.free "repr") = true := c.t.d.fact 6 (f := .free "repr") rfl
theorem f_free_str (c : He.SaysX fa fn [] [] ex w h K) : He.Fa.ok K (.free "str") = true := c.t.d.fact 7 (f := .free "str") rfl
theorem f_free_tuple (c : He.SaysX fa fn [] [] ex w h K) : He.Fa.ok K (.free "tuple") = true := c.t.d.fact 8 (f := .free "tuple") rfl
theorem f_glo_is_text (c : He.SaysX fa fn [] [] ex w h K) : He.Fa.ok K (.glo "is_text") = true := c.t.d.fact 9 (f := .glo "is_text") rfl
theorem f_glo_is_number_word (c : He.SaysX fa fn [] [] ex w h K) : He.Fa.ok K (.glo "is_number_word") = true := c.t.d.fact 10 (f := .glo "is_number_word") rfl
theorem f_glo_take_number (c : He.SaysX fa fn [] [] ex w h K) : He.Fa.ok K (.glo "take_number") = true := c.t.d.fact 11 (f := .glo "take_number") rfl
theorem f_glo_take_text (c : He.SaysX fa fn [] [] ex w h K) : He.Fa.ok K (.glo "take_text") = true := c.t.d.fact 12 (f := .glo "take_text") rfl
theorem f_glo_take_answer (c : He.SaysX fa fn [] [] ex w h K) : He.Fa.ok K (.glo "take_answer") = true := c.t.d.fact 13 (f := .glo "take_answer") rfl
theorem f_glo_take_filter (c : He.SaysX fa fn [] [] ex w h K) : He.Fa.ok K (.glo "take_filter") = true := c.t.d.fact 14 (f := .glo "take_filter") rfl
theorem f_glo_read_filter (c : He.SaysX fa fn [] [] ex w h K) : He.Fa.ok K (.glo "read_filter") = true := c.t.d.fact 15 (f := .glo "read_filter") rfl
theorem f_glo__law_hand (c : He.SaysX fa fn [] [] ex w h K) : He.Fa.ok K (.glo "_law_hand") = true := c.t.d.fact 16 (f := .glo "_law_hand") rfl
theorem f_glo__law_pick (c : He.SaysX fa fn [] [] ex w h K) : He.Fa.ok K (.glo "_law_pick") = true := c.t.d.fact 17 (f := .glo "_law_pick") rfl
theorem f_glo__law_text (c : He.SaysX fa fn [] [] ex w h K) : He.Fa.ok K (.glo "_law_text") = true := c.t.d.fact 18 (f := .glo "_law_text") rfl
theorem f_glo__law_near (c : He.SaysX fa fn [] [] ex w h K) : He.Fa.ok K (.glo "_law_near") = true := c.t.d.fact 19 (f := .glo "_law_near") rfl
theorem f_glo__law_query (c : He.SaysX fa fn [] [] ex w h K) : He.Fa.ok K (.glo "_law_query") = true := c.t.d.fact 20 (f := .glo "_law_query") rfl
theorem f_glo__law_word (c : He.SaysX fa fn [] [] ex w h K) : He.Fa.ok K (.glo "_law_word") = true := c.t.d.fact 21 (f := .glo "_law_word") rfl
theorem f_glo__law_words (c : He.SaysX fa fn [] [] ex w h K) : He.Fa.ok K (.glo "_law_words") = true := c.t.d.fact 22 (f := .glo "_law_words") rfl
theorem f_glo__law_is_number (c : He.SaysX fa fn [] [] ex w h K) : He.Fa.ok K (.glo "_law_is_number") = true := c.t.d.fact 23 (f := .glo "_law_is_number") rfl
theorem f_glo__law_is_text_word (c : He.SaysX fa fn [] [] ex w h K) : He.Fa.ok K (.glo "_law_is_text_word") = true := c.t.d.fact 24 (f := .glo "_law_is_text_word") rfl
theorem f_glo__law_place (c : He.SaysX fa fn [] [] ex w h K) : He.Fa.ok K (.glo "_law_place") = true := c.t.d.fact 25 (f := .glo "_law_place") rfl
theorem f_glo__law_strange (c : He.SaysX fa fn [] [] ex w h K) : He.Fa.ok K (.glo "_law_strange") = true := c.t.d.fact 26 (f := .glo "_law_strange") rfl
theorem f_glo__law_bent_word (c : He.SaysX fa fn [] [] ex w h K) : He.Fa.ok K (.glo "_law_bent_word") = true := c.t.d.fact 27 (f := .glo "_law_bent_word") rfl
theorem f_glo__law_changed (c : He.SaysX fa fn [] [] ex w h K) : He.Fa.ok K (.glo "_law_changed") = true := c.t.d.fact 28 (f := .glo "_law_changed") rfl
theorem f_glo__law_is_text (c : He.SaysX fa fn [] [] ex w h K) : He.Fa.ok K (.glo "_law_is_text") = true := c.t.d.fact 29 (f := .glo "_law_is_text") rfl
theorem f_glo__law_is_query (c : He.SaysX fa fn [] [] ex w h K) : He.Fa.ok K (.glo "_law_is_query") = true := c.t.d.fact 30 (f := .glo "_law_is_query") rfl
theorem f_glo__law_odd_words (c : He.SaysX fa fn [] [] ex w h K) : He.Fa.ok K (.glo "_law_odd_words") = true := c.t.d.fact 31 (f := .glo "_law_odd_words") rfl
theorem f_glo__law_read (c : He.SaysX fa fn [] [] ex w h K) : He.Fa.ok K (.glo "_law_read") = true := c.t.d.fact 32 (f := .glo "_law_read") rfl
theorem f_glo_law (c : He.SaysX fa fn [] [] ex w h K) : He.Fa.ok K (.glo "law") = true := c.t.d.fact 33 (f := .glo "law") rfl
theorem f_int_DEEPEST_LEVEL_20 (c : He.SaysX fa fn [] [] ex w h K) : He.Fa.ok K (.int "DEEPEST_LEVEL" 20) = true := c.t.d.fact 34 (f := .int "DEEPEST_LEVEL" 20) rfl
theorem f_str_DIGITS_0123456789 (c : He.SaysX fa fn [] [] ex w h K) : He.Fa.ok K (.str "DIGITS" "0123456789") = true := c.t.d.fact 35 (f := .str "DIGITS" "0123456789") rfl
theorem f_glo_GROUPS (c : He.SaysX fa fn [] [] ex w h K) : He.Fa.ok K (.glo "GROUPS") = true := c.t.d.fact 36 (f := .glo "GROUPS") rfl
theorem f_glo_LEAVES (c : He.SaysX fa fn [] [] ex w h K) : He.Fa.ok K (.glo "LEAVES") = true := c.t.d.fact 37 (f := .glo "LEAVES") rfl
theorem f_str_LETTERS_abc (c : He.SaysX fa fn [] [] ex w h K) : He.Fa.ok K (.str "LETTERS" "abc") = true := c.t.d.fact 38 (f := .str "LETTERS" "abc") rfl
theorem f_int_LONGEST_TEXT_40 (c : He.SaysX fa fn [] [] ex w h K) : He.Fa.ok K (.int "LONGEST_TEXT" 40) = true := c.t.d.fact 39 (f := .int "LONGEST_TEXT" 40) rfl
theorem f_glo_WordReader (c : He.SaysX fa fn [] [] ex w h K) : He.Fa.ok K (.glo "WordReader") = true := c.t.d.fact 40 (f := .glo "WordReader") rfl
theorem f_cls_WordReader (c : He.SaysX fa fn [] [] ex w h K) : He.Fa.ok K (.cls "WordReader") = true := c.t.d.fact 41 (f := .cls "WordReader") rfl
theorem f_mkr_WordReader (c : He.SaysX fa fn [] [] ex w h K) : He.Fa.ok K (.mkr "WordReader") = true := c.t.d.fact 42 (f := .mkr "WordReader") rfl
theorem f_meth_WordReader_take (c : He.SaysX fa fn [] [] ex w h K) : He.Fa.ok K (.meth "WordReader" "take") = true := c.t.d.fact 43 (f := .meth "WordReader" "take") rfl
theorem f_meth_WordReader_ended (c : He.SaysX fa fn [] [] ex w h K) : He.Fa.ok K (.meth "WordReader" "ended") = true := c.t.d.fact 44 (f := .meth "WordReader" "ended") rfl
theorem f_glo_InvalidWords (c : He.SaysX fa fn [] [] ex w h K) : He.Fa.ok K (.glo "InvalidWords") = true := c.t.d.fact 45 (f := .glo "InvalidWords") rfl
theorem f_glo_SkipError (c : He.SaysX fa fn [] [] ex w h K) : He.Fa.ok K (.glo "SkipError") = true := c.t.d.fact 46 (f := .glo "SkipError") rfl
theorem f_exm_SkipError_InvalidWords_false (c : He.SaysX fa fn [] [] ex w h K) : He.Fa.ok K (.exm "SkipError" "InvalidWords" false) = true := c.t.d.fact 47 (f := .exm "SkipError" "InvalidWords" false) rfl
theorem f_free_InvalidText (c : He.SaysX fa fn [] [] ex w h K) : He.Fa.ok K (.free "InvalidText") = true := c.t.d.fact 48 (f := .free "InvalidText") rfl
theorem f_glo_InvalidValue (c : He.SaysX fa fn [] [] ex w h K) : He.Fa.ok K (.glo "InvalidValue") = true := c.t.d.fact 49 (f := .glo "InvalidValue") rfl
theorem f_exm_InvalidValue_InvalidWords_false (c : He.SaysX fa fn [] [] ex w h K) : He.Fa.ok K (.exm "InvalidValue" "InvalidWords" false) = true := c.t.d.fact 50 (f := .exm "InvalidValue" "InvalidWords" false) rfl
theorem f_free_InvalidSpan (c : He.SaysX fa fn [] [] ex w h K) : He.Fa.ok K (.free "InvalidSpan") = true := c.t.d.fact 51 (f := .free "InvalidSpan") rfl
theorem f_glo_InvalidFilter (c : He.SaysX fa fn [] [] ex w h K) : He.Fa.ok K (.glo "InvalidFilter") = true := c.t.d.fact 52 (f := .glo "InvalidFilter") rfl
theorem f_exm_InvalidFilter_InvalidWords_false (c : He.SaysX fa fn [] [] ex w h K) : He.Fa.ok K (.exm "InvalidFilter" "InvalidWords" false) = true := c.t.d.fact 53 (f := .exm "InvalidFilter" "InvalidWords" false) rfl
theorem f_free_InvalidRule (c : He.SaysX fa fn [] [] ex w h K) : He.Fa.ok K (.free "InvalidRule") = true := c.t.d.fact 54 (f := .free "InvalidRule") rfl
theorem f_free_InvalidPage (c : He.SaysX fa fn [] [] ex w h K) : He.Fa.ok K (.free "InvalidPage") = true := c.t.d.fact 55 (f := .free "InvalidPage") rfl
theorem f_free_InvalidNote (c : He.SaysX fa fn [] [] ex w h K) : He.Fa.ok K (.free "InvalidNote") = true := c.t.d.fact 56 (f := .free "InvalidNote") rfl
theorem f_free_InvalidColumn (c : He.SaysX fa fn [] [] ex w h K) : He.Fa.ok K (.free "InvalidColumn") = true := c.t.d.fact 57 (f := .free "InvalidColumn") rfl
theorem f_free_InvalidIndex (c : He.SaysX fa fn [] [] ex w h K) : He.Fa.ok K (.free "InvalidIndex") = true := c.t.d.fact 58 (f := .free "InvalidIndex") rfl
theorem f_free_InvalidNumber (c : He.SaysX fa fn [] [] ex w h K) : He.Fa.ok K (.free "InvalidNumber") = true := c.t.d.fact 59 (f := .free "InvalidNumber") rfl
theorem f_free_InvalidCode (c : He.SaysX fa fn [] [] ex w h K) : He.Fa.ok K (.free "InvalidCode") = true := c.t.d.fact 60 (f := .free "InvalidCode") rfl
theorem f_free_NoBlock (c : He.SaysX fa fn [] [] ex w h K) : He.Fa.ok K (.free "NoBlock") = true := c.t.d.fact 61 (f := .free "NoBlock") rfl
theorem f_free_NothingToUndo (c : He.SaysX fa fn [] [] ex w h K) : He.Fa.ok K (.free "NothingToUndo") = true := c.t.d.fact 62 (f := .free "NothingToUndo") rfl
theorem f_free_Full (c : He.SaysX fa fn [] [] ex w h K) : He.Fa.ok K (.free "Full") = true := c.t.d.fact 63 (f := .free "Full") rfl
theorem f_free_InvalidCommand (c : He.SaysX fa fn [] [] ex w h K) : He.Fa.ok K (.free "InvalidCommand") = true := c.t.d.fact 64 (f := .free "InvalidCommand") rfl
theorem f_exm_InvalidWords_InvalidWords_true (c : He.SaysX fa fn [] [] ex w h K) : He.Fa.ok K (.exm "InvalidWords" "InvalidWords" true) = true := c.t.d.fact 65 (f := .exm "InvalidWords" "InvalidWords" true) rfl
theorem e_0 (c : He.SaysX fa fn [] [] ex w h K) : (He.tupB K "GROUPS" [.str "and", .str "or"]) = true := (Bool.and_eq_true_iff.mp c.more).1
theorem e_1 (c : He.SaysX fa fn [] [] ex w h K) : (He.tupB K "LEAVES" [.str "is", .str "below", .str "above", .str "begins"]) = true := (Bool.and_eq_true_iff.mp (Bool.and_eq_true_iff.mp c.more).2).1
theorem e_2 (c : He.SaysX fa fn [] [] ex w h K) : (((lay 0).2.all fun f => (He.Fa.noat (lay 0).1 f).ok K)) = true := (Bool.and_eq_true_iff.mp (Bool.and_eq_true_iff.mp (Bool.and_eq_true_iff.mp c.more).2).2).1
theorem e_3 (c : He.SaysX fa fn [] [] ex w h K) : (oexB K (He.ga K "InvalidWords")) = true := (Bool.and_eq_true_iff.mp (Bool.and_eq_true_iff.mp (Bool.and_eq_true_iff.mp (Bool.and_eq_true_iff.mp c.more).2).2).2).1
theorem e_4 (c : He.SaysX fa fn [] [] ex w h K) : (xfB K (He.ga K "InvalidWords")) = true := (Bool.and_eq_true_iff.mp (Bool.and_eq_true_iff.mp (Bool.and_eq_true_iff.mp (Bool.and_eq_true_iff.mp (Bool.and_eq_true_iff.mp c.more).2).2).2).2).1
theorem e_5 (c : He.SaysX fa fn [] [] ex w h K) : (decide (PySem.W.findIn K (.ref (He.ga K "InvalidWords")) "place" = some none)) = true := (Bool.and_eq_true_iff.mp (Bool.and_eq_true_iff.mp (Bool.and_eq_true_iff.mp (Bool.and_eq_true_iff.mp (Bool.and_eq_true_iff.mp (Bool.and_eq_true_iff.mp c.more).2).2).2).2).2).1
theorem e_6 (c : He.SaysX fa fn [] [] ex w h K) : (decide (PySem.W.findIn K (.ref (He.ga K "InvalidWords")) "__init__" = some (some (.ref (He.fAd K ("InvalidWords", some "__init__")))))) = true := (Bool.and_eq_true_iff.mp (Bool.and_eq_true_iff.mp (Bool.and_eq_true_iff.mp (Bool.and_eq_true_iff.mp (Bool.and_eq_true_iff.mp (Bool.and_eq_true_iff.mp (Bool.and_eq_true_iff.mp c.more).2).2).2).2).2).2).1
theorem e_7 (c : He.SaysX fa fn [] [] ex w h K) : (decide (PySem.W.typeIn K (.ref (He.fAd K ("InvalidWords", some "__init__"))) = some (.type "function"))) = true := (Bool.and_eq_true_iff.mp (Bool.and_eq_true_iff.mp (Bool.and_eq_true_iff.mp (Bool.and_eq_true_iff.mp (Bool.and_eq_true_iff.mp (Bool.and_eq_true_iff.mp (Bool.and_eq_true_iff.mp (Bool.and_eq_true_iff.mp c.more).2).2).2).2).2).2).2).1
theorem e_8 (c : He.SaysX fa fn [] [] ex w h K) : (decide (PySem.W.findIn K (.ref (He.ga K "SkipError")) "__getattribute__" = some (some (.builtin "BaseException.__getattribute__"))) && (decide (PySem.W.findIn K (.ref (He.ga K "SkipError")) "__getattr__" = some none) && (decide (PySem.W.subIn K (.ref (He.ga K "SkipError")) (.type "BaseException") = some true) && (PySem.W.hasDictIn K (He.ga K "SkipError") && (decide (PySem.W.findIn K (.ref (He.ga K "SkipError")) "__class__" = some (some (.builtin "object.__class__"))) && (decide (PySem.W.specialIn K (.builtin "object.__class__") "__get__" = some (some (.builtin "getset_descriptor.__get__"))) && (decide (PySem.W.takesIn K (.builtin "object.__class__") = some true) && (decide (PySem.W.mroIn K (He.ga K "SkipError") (.type "object") = some true))))))))) = true := (Bool.and_eq_true_iff.mp (Bool.and_eq_true_iff.mp (Bool.and_eq_true_iff.mp (Bool.and_eq_true_iff.mp (Bool.and_eq_true_iff.mp (Bool.and_eq_true_iff.mp (Bool.and_eq_true_iff.mp (Bool.and_eq_true_iff.mp (Bool.and_eq_true_iff.mp c.more).2).2).2).2).2).2).2).2).1
theorem e_9 (c : He.SaysX fa fn [] [] ex w h K) : (decide (PySem.W.findIn K (.ref (He.ga K "InvalidValue")) "__getattribute__" = some (some (.builtin "BaseException.__getattribute__"))) && (decide (PySem.W.findIn K (.ref (He.ga K "InvalidValue")) "__getattr__" = some none) && (decide (PySem.W.subIn K (.ref (He.ga K "InvalidValue")) (.type "BaseException") = some true) && (PySem.W.hasDictIn K (He.ga K "InvalidValue") && (decide (PySem.W.findIn K (.ref (He.ga K "InvalidValue")) "__class__" = some (some (.builtin "object.__class__"))) && (decide (PySem.W.specialIn K (.builtin "object.__class__") "__get__" = some (some (.builtin "getset_descriptor.__get__"))) && (decide (PySem.W.takesIn K (.builtin "object.__class__") = some true) && (decide (PySem.W.mroIn K (He.ga K "InvalidValue") (.type "object") = some true))))))))) = true := (Bool.and_eq_true_iff.mp (Bool.and_eq_true_iff.mp (Bool.and_eq_true_iff.mp (Bool.and_eq_true_iff.mp (Bool.and_eq_true_iff.mp (Bool.and_eq_true_iff.mp (Bool.and_eq_true_iff.mp (Bool.and_eq_true_iff.mp (Bool.and_eq_true_iff.mp (Bool.and_eq_true_iff.mp c.more).2).2).2).2).2).2).2).2).2).1
theorem e_10 (c : He.SaysX fa fn [] [] ex w h K) : (decide (PySem.W.findIn K (.ref (He.ga K "InvalidFilter")) "__getattribute__" = some (some (.builtin "BaseException.__getattribute__"))) && (decide (PySem.W.findIn K (.ref (He.ga K "InvalidFilter")) "__getattr__" = some none) && (decide (PySem.W.subIn K (.ref (He.ga K "InvalidFilter")) (.type "BaseException") = some true) && (PySem.W.hasDictIn K (He.ga K "InvalidFilter") && (decide (PySem.W.findIn K (.ref (He.ga K "InvalidFilter")) "__class__" = some (some (.builtin "object.__class__"))) && (decide (PySem.W.specialIn K (.builtin "object.__class__") "__get__" = some (some (.builtin "getset_descriptor.__get__"))) && (decide (PySem.W.takesIn K (.builtin "object.__class__") = some true) && (decide (PySem.W.mroIn K (He.ga K "InvalidFilter") (.type "object") = some true))))))))) = true := (Bool.and_eq_true_iff.mp (Bool.and_eq_true_iff.mp (Bool.and_eq_true_iff.mp (Bool.and_eq_true_iff.mp (Bool.and_eq_true_iff.mp (Bool.and_eq_true_iff.mp (Bool.and_eq_true_iff.mp (Bool.and_eq_true_iff.mp (Bool.and_eq_true_iff.mp (Bool.and_eq_true_iff.mp (Bool.and_eq_true_iff.mp c.more).2).2).2).2).2).2).2).2).2).2).1
theorem e_11 (c : He.SaysX fa fn [] [] ex w h K) : (decide (PySem.W.findIn K (.ref (He.ga K "InvalidWords")) "__getattribute__" = some (some (.builtin "BaseException.__getattribute__"))) && (decide (PySem.W.findIn K (.ref (He.ga K "InvalidWords")) "__getattr__" = some none) && (decide (PySem.W.subIn K (.ref (He.ga K "InvalidWords")) (.type "BaseException") = some true) && (PySem.W.hasDictIn K (He.ga K "InvalidWords") && (decide (PySem.W.findIn K (.ref (He.ga K "InvalidWords")) "__class__" = some (some (.builtin "object.__class__"))) && (decide (PySem.W.specialIn K (.builtin "object.__class__") "__get__" = some (some (.builtin "getset_descriptor.__get__"))) && (decide (PySem.W.takesIn K (.builtin "object.__class__") = some true) && (decide (PySem.W.mroIn K (He.ga K "InvalidWords") (.type "object") = some true))))))))) = true := (Bool.and_eq_true_iff.mp (Bool.and_eq_true_iff.mp (Bool.and_eq_true_iff.mp (Bool.and_eq_true_iff.mp (Bool.and_eq_true_iff.mp (Bool.and_eq_true_iff.mp (Bool.and_eq_true_iff.mp (Bool.and_eq_true_iff.mp (Bool.and_eq_true_iff.mp (Bool.and_eq_true_iff.mp (Bool.and_eq_true_iff.mp (Bool.and_eq_true_iff.mp c.more).2).2).2).2).2).2).2).2).2).2).2).1
theorem e_12 (c : He.SaysX fa fn [] [] ex w h K) : (decide (PySem.W.kitOne K (.type "NoneType") (.ref (He.ga K "InvalidFilter")) = some false)) = true := (Bool.and_eq_true_iff.mp (Bool.and_eq_true_iff.mp (Bool.and_eq_true_iff.mp (Bool.and_eq_true_iff.mp (Bool.and_eq_true_iff.mp (Bool.and_eq_true_iff.mp (Bool.and_eq_true_iff.mp (Bool.and_eq_true_iff.mp (Bool.and_eq_true_iff.mp (Bool.and_eq_true_iff.mp (Bool.and_eq_true_iff.mp (Bool.and_eq_true_iff.mp (Bool.and_eq_true_iff.mp c.more).2).2).2).2).2).2).2).2).2).2).2).2).1
theorem e_13 (c : He.SaysX fa fn [] [] ex w h K) : (decide (PySem.W.kitOne K (.ref (He.ga K "SkipError")) (.ref (He.ga K "InvalidFilter")) = some false)) = true := (Bool.and_eq_true_iff.mp (Bool.and_eq_true_iff.mp (Bool.and_eq_true_iff.mp (Bool.and_eq_true_iff.mp (Bool.and_eq_true_iff.mp (Bool.and_eq_true_iff.mp (Bool.and_eq_true_iff.mp (Bool.and_eq_true_iff.mp (Bool.and_eq_true_iff.mp (Bool.and_eq_true_iff.mp (Bool.and_eq_true_iff.mp (Bool.and_eq_true_iff.mp (Bool.and_eq_true_iff.mp (Bool.and_eq_true_iff.mp c.more).2).2).2).2).2).2).2).2).2).2).2).2).2).1
theorem e_14 (c : He.SaysX fa fn [] [] ex w h K) : (decide (PySem.W.kitOne K (.ref (He.ga K "InvalidValue")) (.ref (He.ga K "InvalidFilter")) = some false)) = true := (Bool.and_eq_true_iff.mp (Bool.and_eq_true_iff.mp (Bool.and_eq_true_iff.mp (Bool.and_eq_true_iff.mp (Bool.and_eq_true_iff.mp (Bool.and_eq_true_iff.mp (Bool.and_eq_true_iff.mp (Bool.and_eq_true_iff.mp (Bool.and_eq_true_iff.mp (Bool.and_eq_true_iff.mp (Bool.and_eq_true_iff.mp (Bool.and_eq_true_iff.mp (Bool.and_eq_true_iff.mp (Bool.and_eq_true_iff.mp (Bool.and_eq_true_iff.mp c.more).2).2).2).2).2).2).2).2).2).2).2).2).2).2).1
theorem e_15 (c : He.SaysX fa fn [] [] ex w h K) : (decide (PySem.W.kitOne K (.ref (He.ga K "InvalidFilter")) (.ref (He.ga K "InvalidFilter")) = some true)) = true := (Bool.and_eq_true_iff.mp (Bool.and_eq_true_iff.mp (Bool.and_eq_true_iff.mp (Bool.and_eq_true_iff.mp (Bool.and_eq_true_iff.mp (Bool.and_eq_true_iff.mp (Bool.and_eq_true_iff.mp (Bool.and_eq_true_iff.mp (Bool.and_eq_true_iff.mp (Bool.and_eq_true_iff.mp (Bool.and_eq_true_iff.mp (Bool.and_eq_true_iff.mp (Bool.and_eq_true_iff.mp (Bool.and_eq_true_iff.mp (Bool.and_eq_true_iff.mp (Bool.and_eq_true_iff.mp c.more).2).2).2).2).2).2).2).2).2).2).2).2).2).2).2).1
theorem e_16 (c : He.SaysX fa fn [] [] ex w h K) : (decide (PySem.W.kitOne K (.ref (He.ga K "InvalidWords")) (.ref (He.ga K "InvalidFilter")) = some false)) = true := (Bool.and_eq_true_iff.mp (Bool.and_eq_true_iff.mp (Bool.and_eq_true_iff.mp (Bool.and_eq_true_iff.mp (Bool.and_eq_true_iff.mp (Bool.and_eq_true_iff.mp (Bool.and_eq_true_iff.mp (Bool.and_eq_true_iff.mp (Bool.and_eq_true_iff.mp (Bool.and_eq_true_iff.mp (Bool.and_eq_true_iff.mp (Bool.and_eq_true_iff.mp (Bool.and_eq_true_iff.mp (Bool.and_eq_true_iff.mp (Bool.and_eq_true_iff.mp (Bool.and_eq_true_iff.mp (Bool.and_eq_true_iff.mp c.more).2).2).2).2).2).2).2).2).2).2).2).2).2).2).2).2).1
theorem e_17 (c : He.SaysX fa fn [] [] ex w h K) : (decide (PySem.W.kitOne K (.type "NoneType") (.ref (He.ga K "InvalidValue")) = some false)) = true := (Bool.and_eq_true_iff.mp (Bool.and_eq_true_iff.mp (Bool.and_eq_true_iff.mp (Bool.and_eq_true_iff.mp (Bool.and_eq_true_iff.mp (Bool.and_eq_true_iff.mp (Bool.and_eq_true_iff.mp (Bool.and_eq_true_iff.mp (Bool.and_eq_true_iff.mp (Bool.and_eq_true_iff.mp (Bool.and_eq_true_iff.mp (Bool.and_eq_true_iff.mp (Bool.and_eq_true_iff.mp (Bool.and_eq_true_iff.mp (Bool.and_eq_true_iff.mp (Bool.and_eq_true_iff.mp (Bool.and_eq_true_iff.mp (Bool.and_eq_true_iff.mp c.more).2).2).2).2).2).2).2).2).2).2).2).2).2).2).2).2).2).1
theorem e_18 (c : He.SaysX fa fn [] [] ex w h K) : (decide (PySem.W.kitOne K (.ref (He.ga K "SkipError")) (.ref (He.ga K "InvalidValue")) = some false)) = true := (Bool.and_eq_true_iff.mp (Bool.and_eq_true_iff.mp (Bool.and_eq_true_iff.mp (Bool.and_eq_true_iff.mp (Bool.and_eq_true_iff.mp (Bool.and_eq_true_iff.mp (Bool.and_eq_true_iff.mp (Bool.and_eq_true_iff.mp (Bool.and_eq_true_iff.mp (Bool.and_eq_true_iff.mp (Bool.and_eq_true_iff.mp (Bool.and_eq_true_iff.mp (Bool.and_eq_true_iff.mp (Bool.and_eq_true_iff.mp (Bool.and_eq_true_iff.mp (Bool.and_eq_true_iff.mp (Bool.and_eq_true_iff.mp (Bool.and_eq_true_iff.mp (Bool.and_eq_true_iff.mp c.more).2).2).2).2).2).2).2).2).2).2).2).2).2).2).2).2).2).2).1
theorem e_19 (c : He.SaysX fa fn [] [] ex w h K) : (decide (PySem.W.kitOne K (.ref (He.ga K "InvalidValue")) (.ref (He.ga K "InvalidValue")) = some true)) = true := (Bool.and_eq_true_iff.mp (Bool.and_eq_true_iff.mp (Bool.and_eq_true_iff.mp (Bool.and_eq_true_iff.mp (Bool.and_eq_true_iff.mp (Bool.and_eq_true_iff.mp (Bool.and_eq_true_iff.mp (Bool.and_eq_true_iff.mp (Bool.and_eq_true_iff.mp (Bool.and_eq_true_iff.mp (Bool.and_eq_true_iff.mp (Bool.and_eq_true_iff.mp (Bool.and_eq_true_iff.mp (Bool.and_eq_true_iff.mp (Bool.and_eq_true_iff.mp (Bool.and_eq_true_iff.mp (Bool.and_eq_true_iff.mp (Bool.and_eq_true_iff.mp (Bool.and_eq_true_iff.mp (Bool.and_eq_true_iff.mp c.more).2).2).2).2).2).2).2).2).2).2).2).2).2).2).2).2).2).2).2).1
theorem e_20 (c : He.SaysX fa fn [] [] ex w h K) : (decide (PySem.W.kitOne K (.ref (He.ga K "InvalidFilter")) (.ref (He.ga K "InvalidValue")) = some false)) = true := (Bool.and_eq_true_iff.mp (Bool.and_eq_true_iff.mp (Bool.and_eq_true_iff.mp (Bool.and_eq_true_iff.mp (Bool.and_eq_true_iff.mp (Bool.and_eq_true_iff.mp (Bool.and_eq_true_iff.mp (Bool.and_eq_true_iff.mp (Bool.and_eq_true_iff.mp (Bool.and_eq_true_iff.mp (Bool.and_eq_true_iff.mp (Bool.and_eq_true_iff.mp (Bool.and_eq_true_iff.mp (Bool.and_eq_true_iff.mp (Bool.and_eq_true_iff.mp (Bool.and_eq_true_iff.mp (Bool.and_eq_true_iff.mp (Bool.and_eq_true_iff.mp (Bool.and_eq_true_iff.mp (Bool.and_eq_true_iff.mp (Bool.and_eq_true_iff.mp c.more).2).2).2).2).2).2).2).2).2).2).2).2).2).2).2).2).2).2).2).2).1
theorem e_21 (c : He.SaysX fa fn [] [] ex w h K) : (decide (PySem.W.kitOne K (.ref (He.ga K "InvalidWords")) (.ref (He.ga K "InvalidValue")) = some false)) = true := (Bool.and_eq_true_iff.mp (Bool.and_eq_true_iff.mp (Bool.and_eq_true_iff.mp (Bool.and_eq_true_iff.mp (Bool.and_eq_true_iff.mp (Bool.and_eq_true_iff.mp (Bool.and_eq_true_iff.mp (Bool.and_eq_true_iff.mp (Bool.and_eq_true_iff.mp (Bool.and_eq_true_iff.mp (Bool.and_eq_true_iff.mp (Bool.and_eq_true_iff.mp (Bool.and_eq_true_iff.mp (Bool.and_eq_true_iff.mp (Bool.and_eq_true_iff.mp (Bool.and_eq_true_iff.mp (Bool.and_eq_true_iff.mp (Bool.and_eq_true_iff.mp (Bool.and_eq_true_iff.mp (Bool.and_eq_true_iff.mp (Bool.and_eq_true_iff.mp (Bool.and_eq_true_iff.mp c.more).2).2).2).2).2).2).2).2).2).2).2).2).2).2).2).2).2).2).2).2).2).1
theorem e_22 (c : He.SaysX fa fn [] [] ex w h K) : (decide (PySem.W.kitOne K (.type "NoneType") (.ref (He.ga K "SkipError")) = some false)) = true := (Bool.and_eq_true_iff.mp (Bool.and_eq_true_iff.mp (Bool.and_eq_true_iff.mp (Bool.and_eq_true_iff.mp (Bool.and_eq_true_iff.mp (Bool.and_eq_true_iff.mp (Bool.and_eq_true_iff.mp (Bool.and_eq_true_iff.mp (Bool.and_eq_true_iff.mp (Bool.and_eq_true_iff.mp (Bool.and_eq_true_iff.mp (Bool.and_eq_true_iff.mp (Bool.and_eq_true_iff.mp (Bool.and_eq_true_iff.mp (Bool.and_eq_true_iff.mp (Bool.and_eq_true_iff.mp (Bool.and_eq_true_iff.mp (Bool.and_eq_true_iff.mp (Bool.and_eq_true_iff.mp (Bool.and_eq_true_iff.mp (Bool.and_eq_true_iff.mp (Bool.and_eq_true_iff.mp (Bool.and_eq_true_iff.mp c.more).2).2).2).2).2).2).2).2).2).2).2).2).2).2).2).2).2).2).2).2).2).2).1
theorem e_23 (c : He.SaysX fa fn [] [] ex w h K) : (decide (PySem.W.kitOne K (.ref (He.ga K "SkipError")) (.ref (He.ga K "SkipError")) = some true)) = true := (Bool.and_eq_true_iff.mp (Bool.and_eq_true_iff.mp (Bool.and_eq_true_iff.mp (Bool.and_eq_true_iff.mp (Bool.and_eq_true_iff.mp (Bool.and_eq_true_iff.mp (Bool.and_eq_true_iff.mp (Bool.and_eq_true_iff.mp (Bool.and_eq_true_iff.mp (Bool.and_eq_true_iff.mp (Bool.and_eq_true_iff.mp (Bool.and_eq_true_iff.mp (Bool.and_eq_true_iff.mp (Bool.and_eq_true_iff.mp (Bool.and_eq_true_iff.mp (Bool.and_eq_true_iff.mp (Bool.and_eq_true_iff.mp (Bool.and_eq_true_iff.mp (Bool.and_eq_true_iff.mp (Bool.and_eq_true_iff.mp (Bool.and_eq_true_iff.mp (Bool.and_eq_true_iff.mp (Bool.and_eq_true_iff.mp (Bool.and_eq_true_iff.mp c.more).2).2).2).2).2).2).2).2).2).2).2).2).2).2).2).2).2).2).2).2).2).2).2).1
theorem e_24 (c : He.SaysX fa fn [] [] ex w h K) : (decide (PySem.W.kitOne K (.ref (He.ga K "InvalidValue")) (.ref (He.ga K "SkipError")) = some true)) = true := (Bool.and_eq_true_iff.mp (Bool.and_eq_true_iff.mp (Bool.and_eq_true_iff.mp (Bool.and_eq_true_iff.mp (Bool.and_eq_true_iff.mp (Bool.and_eq_true_iff.mp (Bool.and_eq_true_iff.mp (Bool.and_eq_true_iff.mp (Bool.and_eq_true_iff.mp (Bool.and_eq_true_iff.mp (Bool.and_eq_true_iff.mp (Bool.and_eq_true_iff.mp (Bool.and_eq_true_iff.mp (Bool.and_eq_true_iff.mp (Bool.and_eq_true_iff.mp (Bool.and_eq_true_iff.mp (Bool.and_eq_true_iff.mp (Bool.and_eq_true_iff.mp (Bool.and_eq_true_iff.mp (Bool.and_eq_true_iff.mp (Bool.and_eq_true_iff.mp (Bool.and_eq_true_iff.mp (Bool.and_eq_true_iff.mp (Bool.and_eq_true_iff.mp (Bool.and_eq_true_iff.mp c.more).2).2).2).2).2).2).2).2).2).2).2).2).2).2).2).2).2).2).2).2).2).2).2).2).1
theorem e_25 (c : He.SaysX fa fn [] [] ex w h K) : (decide (PySem.W.kitOne K (.ref (He.ga K "InvalidFilter")) (.ref (He.ga K "SkipError")) = some true)) = true := (Bool.and_eq_true_iff.mp (Bool.and_eq_true_iff.mp (Bool.and_eq_true_iff.mp (Bool.and_eq_true_iff.mp (Bool.and_eq_true_iff.mp (Bool.and_eq_true_iff.mp (Bool.and_eq_true_iff.mp (Bool.and_eq_true_iff.mp (Bool.and_eq_true_iff.mp (Bool.and_eq_true_iff.mp (Bool.and_eq_true_iff.mp (Bool.and_eq_true_iff.mp (Bool.and_eq_true_iff.mp (Bool.and_eq_true_iff.mp (Bool.and_eq_true_iff.mp (Bool.and_eq_true_iff.mp (Bool.and_eq_true_iff.mp (Bool.and_eq_true_iff.mp (Bool.and_eq_true_iff.mp (Bool.and_eq_true_iff.mp (Bool.and_eq_true_iff.mp (Bool.and_eq_true_iff.mp (Bool.and_eq_true_iff.mp (Bool.and_eq_true_iff.mp (Bool.and_eq_true_iff.mp (Bool.and_eq_true_iff.mp c.more).2).2).2).2).2).2).2).2).2).2).2).2).2).2).2).2).2).2).2).2).2).2).2).2).2).1
theorem e_26 (c : He.SaysX fa fn [] [] ex w h K) : (decide (PySem.W.kitOne K (.ref (He.ga K "InvalidWords")) (.ref (He.ga K "SkipError")) = some true)) = true := (Bool.and_eq_true_iff.mp (Bool.and_eq_true_iff.mp (Bool.and_eq_true_iff.mp (Bool.and_eq_true_iff.mp (Bool.and_eq_true_iff.mp (Bool.and_eq_true_iff.mp (Bool.and_eq_true_iff.mp (Bool.and_eq_true_iff.mp (Bool.and_eq_true_iff.mp (Bool.and_eq_true_iff.mp (Bool.and_eq_true_iff.mp (Bool.and_eq_true_iff.mp (Bool.and_eq_true_iff.mp (Bool.and_eq_true_iff.mp (Bool.and_eq_true_iff.mp (Bool.and_eq_true_iff.mp (Bool.and_eq_true_iff.mp (Bool.and_eq_true_iff.mp (Bool.and_eq_true_iff.mp (Bool.and_eq_true_iff.mp (Bool.and_eq_true_iff.mp (Bool.and_eq_true_iff.mp (Bool.and_eq_true_iff.mp (Bool.and_eq_true_iff.mp (Bool.and_eq_true_iff.mp (Bool.and_eq_true_iff.mp (Bool.and_eq_true_iff.mp c.more).2).2).2).2).2).2).2).2).2).2).2).2).2).2).2).2).2).2).2).2).2).2).2).2).2).2).1
theorem e_27 (c : He.SaysX fa fn [] [] ex w h K) : (decide (PySem.W.kitOne K (.type "NoneType") (.type "ValueError") = some false)) = true := (Bool.and_eq_true_iff.mp (Bool.and_eq_true_iff.mp (Bool.and_eq_true_iff.mp (Bool.and_eq_true_iff.mp (Bool.and_eq_true_iff.mp (Bool.and_eq_true_iff.mp (Bool.and_eq_true_iff.mp (Bool.and_eq_true_iff.mp (Bool.and_eq_true_iff.mp (Bool.and_eq_true_iff.mp (Bool.and_eq_true_iff.mp (Bool.and_eq_true_iff.mp (Bool.and_eq_true_iff.mp (Bool.and_eq_true_iff.mp (Bool.and_eq_true_iff.mp (Bool.and_eq_true_iff.mp (Bool.and_eq_true_iff.mp (Bool.and_eq_true_iff.mp (Bool.and_eq_true_iff.mp (Bool.and_eq_true_iff.mp (Bool.and_eq_true_iff.mp (Bool.and_eq_true_iff.mp (Bool.and_eq_true_iff.mp (Bool.and_eq_true_iff.mp (Bool.and_eq_true_iff.mp (Bool.and_eq_true_iff.mp (Bool.and_eq_true_iff.mp (Bool.and_eq_true_iff.mp c.more).2).2).2).2).2).2).2).2).2).2).2).2).2).2).2).2).2).2).2).2).2).2).2).2).2).2).2).1
theorem e_28 (c : He.SaysX fa fn [] [] ex w h K) : (decide (PySem.W.kitOne K (.ref (He.ga K "SkipError")) (.type "ValueError") = some true)) = true := (Bool.and_eq_true_iff.mp (Bool.and_eq_true_iff.mp (Bool.and_eq_true_iff.mp (Bool.and_eq_true_iff.mp (Bool.and_eq_true_iff.mp (Bool.and_eq_true_iff.mp (Bool.and_eq_true_iff.mp (Bool.and_eq_true_iff.mp (Bool.and_eq_true_iff.mp (Bool.and_eq_true_iff.mp (Bool.and_eq_true_iff.mp (Bool.and_eq_true_iff.mp (Bool.and_eq_true_iff.mp (Bool.and_eq_true_iff.mp (Bool.and_eq_true_iff.mp (Bool.and_eq_true_iff.mp (Bool.and_eq_true_iff.mp (Bool.and_eq_true_iff.mp (Bool.and_eq_true_iff.mp (Bool.and_eq_true_iff.mp (Bool.and_eq_true_iff.mp (Bool.and_eq_true_iff.mp (Bool.and_eq_true_iff.mp (Bool.and_eq_true_iff.mp (Bool.and_eq_true_iff.mp (Bool.and_eq_true_iff.mp (Bool.and_eq_true_iff.mp (Bool.and_eq_true_iff.mp (Bool.and_eq_true_iff.mp c.more).2).2).2).2).2).2).2).2).2).2).2).2).2).2).2).2).2).2).2).2).2).2).2).2).2).2).2).2).1
theorem e_29 (c : He.SaysX fa fn [] [] ex w h K) : (decide (PySem.W.kitOne K (.ref (He.ga K "InvalidValue")) (.type "ValueError") = some true)) = true := (Bool.and_eq_true_iff.mp (Bool.and_eq_true_iff.mp (Bool.and_eq_true_iff.mp (Bool.and_eq_true_iff.mp (Bool.and_eq_true_iff.mp (Bool.and_eq_true_iff.mp (Bool.and_eq_true_iff.mp (Bool.and_eq_true_iff.mp (Bool.and_eq_true_iff.mp (Bool.and_eq_true_iff.mp (Bool.and_eq_true_iff.mp (Bool.and_eq_true_iff.mp (Bool.and_eq_true_iff.mp (Bool.and_eq_true_iff.mp (Bool.and_eq_true_iff.mp (Bool.and_eq_true_iff.mp (Bool.and_eq_true_iff.mp (Bool.and_eq_true_iff.mp (Bool.and_eq_true_iff.mp (Bool.and_eq_true_iff.mp (Bool.and_eq_true_iff.mp (Bool.and_eq_true_iff.mp (Bool.and_eq_true_iff.mp (Bool.and_eq_true_iff.mp (Bool.and_eq_true_iff.mp (Bool.and_eq_true_iff.mp (Bool.and_eq_true_iff.mp (Bool.and_eq_true_iff.mp (Bool.and_eq_true_iff.mp (Bool.and_eq_true_iff.mp c.more).2).2).2).2).2).2).2).2).2).2).2).2).2).2).2).2).2).2).2).2).2).2).2).2).2).2).2).2).2).1
theorem e_30 (c : He.SaysX fa fn [] [] ex w h K) : (decide (PySem.W.kitOne K (.ref (He.ga K "InvalidFilter")) (.type "ValueError") = some true)) = true := (Bool.and_eq_true_iff.mp (Bool.and_eq_true_iff.mp (Bool.and_eq_true_iff.mp (Bool.and_eq_true_iff.mp (Bool.and_eq_true_iff.mp (Bool.and_eq_true_iff.mp (Bool.and_eq_true_iff.mp (Bool.and_eq_true_iff.mp (Bool.and_eq_true_iff.mp (Bool.and_eq_true_iff.mp (Bool.and_eq_true_iff.mp (Bool.and_eq_true_iff.mp (Bool.and_eq_true_iff.mp (Bool.and_eq_true_iff.mp (Bool.and_eq_true_iff.mp (Bool.and_eq_true_iff.mp (Bool.and_eq_true_iff.mp (Bool.and_eq_true_iff.mp (Bool.and_eq_true_iff.mp (Bool.and_eq_true_iff.mp (Bool.and_eq_true_iff.mp (Bool.and_eq_true_iff.mp (Bool.and_eq_true_iff.mp (Bool.and_eq_true_iff.mp (Bool.and_eq_true_iff.mp (Bool.and_eq_true_iff.mp (Bool.and_eq_true_iff.mp (Bool.and_eq_true_iff.mp (Bool.and_eq_true_iff.mp (Bool.and_eq_true_iff.mp (Bool.and_eq_true_iff.mp c.more).2).2).2).2).2).2).2).2).2).2).2).2).2).2).2).2).2).2).2).2).2).2).2).2).2).2).2).2).2).2).1
theorem e_31 (c : He.SaysX fa fn [] [] ex w h K) : (decide (PySem.W.kitOne K (.ref (He.ga K "InvalidWords")) (.type "ValueError") = some true)) = true := (Bool.and_eq_true_iff.mp (Bool.and_eq_true_iff.mp (Bool.and_eq_true_iff.mp (Bool.and_eq_true_iff.mp (Bool.and_eq_true_iff.mp (Bool.and_eq_true_iff.mp (Bool.and_eq_true_iff.mp (Bool.and_eq_true_iff.mp (Bool.and_eq_true_iff.mp (Bool.and_eq_true_iff.mp (Bool.and_eq_true_iff.mp (Bool.and_eq_true_iff.mp (Bool.and_eq_true_iff.mp (Bool.and_eq_true_iff.mp (Bool.and_eq_true_iff.mp (Bool.and_eq_true_iff.mp (Bool.and_eq_true_iff.mp (Bool.and_eq_true_iff.mp (Bool.and_eq_true_iff.mp (Bool.and_eq_true_iff.mp (Bool.and_eq_true_iff.mp (Bool.and_eq_true_iff.mp (Bool.and_eq_true_iff.mp (Bool.and_eq_true_iff.mp (Bool.and_eq_true_iff.mp (Bool.and_eq_true_iff.mp (Bool.and_eq_true_iff.mp (Bool.and_eq_true_iff.mp (Bool.and_eq_true_iff.mp (Bool.and_eq_true_iff.mp (Bool.and_eq_true_iff.mp c.more).2).2).2).2).2).2).2).2).2).2).2).2).2).2).2).2).2).2).2).2).2).2).2).2).2).2).2).2).2).2).2
theorem xm (X : K.In h) (G : h.Ns mainGlobals mg) (c : He.SaysX fa fn [] [] ex w h K) : XM K mg (.ref (He.ga K "InvalidWords")) isW := by
  intro id cls hh
  match id, hh with
  | 0, hh => exact (by
      have e := (He.glo_ok X G (f_glo_SkipError c)).symm.trans hh
      cases e
      exact He.exm_ok (f_exm_SkipError_InvalidWords_false c))
  | 1, hh => exact absurd ((He.free_ok X G (f_free_InvalidText c)).symm.trans hh) (by intro z; cases z)
  | 2, hh => exact (by
      have e := (He.glo_ok X G (f_glo_InvalidValue c)).symm.trans hh
      cases e
      exact He.exm_ok (f_exm_InvalidValue_InvalidWords_false c))
  | 3, hh => exact absurd ((He.free_ok X G (f_free_InvalidSpan c)).symm.trans hh) (by intro z; cases z)
  | 4, hh => exact (by
      have e := (He.glo_ok X G (f_glo_InvalidFilter c)).symm.trans hh
      cases e
      exact He.exm_ok (f_exm_InvalidFilter_InvalidWords_false c))
  | 5, hh => exact absurd ((He.free_ok X G (f_free_InvalidRule c)).symm.trans hh) (by intro z; cases z)
  | 6, hh => exact absurd ((He.free_ok X G (f_free_InvalidPage c)).symm.trans hh) (by intro z; cases z)
  | 7, hh => exact absurd ((He.free_ok X G (f_free_InvalidNote c)).symm.trans hh) (by intro z; cases z)
  | 8, hh => exact absurd ((He.free_ok X G (f_free_InvalidColumn c)).symm.trans hh) (by intro z; cases z)
  | 9, hh => exact absurd ((He.free_ok X G (f_free_InvalidIndex c)).symm.trans hh) (by intro z; cases z)
  | 10, hh => exact absurd ((He.free_ok X G (f_free_InvalidNumber c)).symm.trans hh) (by intro z; cases z)
  | 11, hh => exact absurd ((He.free_ok X G (f_free_InvalidCode c)).symm.trans hh) (by intro z; cases z)
  | 12, hh => exact absurd ((He.free_ok X G (f_free_NoBlock c)).symm.trans hh) (by intro z; cases z)
  | 13, hh => exact absurd ((He.free_ok X G (f_free_NothingToUndo c)).symm.trans hh) (by intro z; cases z)
  | 14, hh => exact absurd ((He.free_ok X G (f_free_Full c)).symm.trans hh) (by intro z; cases z)
  | 15, hh => exact absurd ((He.free_ok X G (f_free_InvalidCommand c)).symm.trans hh) (by intro z; cases z)
  | j + 16, hh => exact (by
      have e := (He.glo_ok X G (f_glo_InvalidWords c)).symm.trans hh
      cases e
      exact (He.exm_ok (f_exm_InvalidWords_InvalidWords_true c)).trans (by show some true = some (decide (16 ≤ j + 16)); rw [decide_eq_true (Nat.le_add_left 16 j)]))
theorem ec_SkipError (c : He.SaysX fa fn [] [] ex w h K) : ExcC K (He.ga K "SkipError") := by
  obtain ⟨z1, z⟩ := Bool.and_eq_true_iff.mp (e_8 c)
  obtain ⟨z2, z⟩ := Bool.and_eq_true_iff.mp z
  obtain ⟨z3, z⟩ := Bool.and_eq_true_iff.mp z
  obtain ⟨z4, z⟩ := Bool.and_eq_true_iff.mp z
  obtain ⟨z5, z⟩ := Bool.and_eq_true_iff.mp z
  obtain ⟨z6, z⟩ := Bool.and_eq_true_iff.mp z
  obtain ⟨z7, z⟩ := Bool.and_eq_true_iff.mp z
  exact ⟨of_decide_eq_true z1, of_decide_eq_true z2, of_decide_eq_true z3, z4, of_decide_eq_true z5, of_decide_eq_true z6, of_decide_eq_true z7, of_decide_eq_true z⟩
theorem ec_InvalidValue (c : He.SaysX fa fn [] [] ex w h K) : ExcC K (He.ga K "InvalidValue") := by
  obtain ⟨z1, z⟩ := Bool.and_eq_true_iff.mp (e_9 c)
  obtain ⟨z2, z⟩ := Bool.and_eq_true_iff.mp z
  obtain ⟨z3, z⟩ := Bool.and_eq_true_iff.mp z
  obtain ⟨z4, z⟩ := Bool.and_eq_true_iff.mp z
  obtain ⟨z5, z⟩ := Bool.and_eq_true_iff.mp z
  obtain ⟨z6, z⟩ := Bool.and_eq_true_iff.mp z
  obtain ⟨z7, z⟩ := Bool.and_eq_true_iff.mp z
  exact ⟨of_decide_eq_true z1, of_decide_eq_true z2, of_decide_eq_true z3, z4, of_decide_eq_true z5, of_decide_eq_true z6, of_decide_eq_true z7, of_decide_eq_true z⟩
theorem ec_InvalidFilter (c : He.SaysX fa fn [] [] ex w h K) : ExcC K (He.ga K "InvalidFilter") := by
  obtain ⟨z1, z⟩ := Bool.and_eq_true_iff.mp (e_10 c)
  obtain ⟨z2, z⟩ := Bool.and_eq_true_iff.mp z
  obtain ⟨z3, z⟩ := Bool.and_eq_true_iff.mp z
  obtain ⟨z4, z⟩ := Bool.and_eq_true_iff.mp z
  obtain ⟨z5, z⟩ := Bool.and_eq_true_iff.mp z
  obtain ⟨z6, z⟩ := Bool.and_eq_true_iff.mp z
  obtain ⟨z7, z⟩ := Bool.and_eq_true_iff.mp z
  exact ⟨of_decide_eq_true z1, of_decide_eq_true z2, of_decide_eq_true z3, z4, of_decide_eq_true z5, of_decide_eq_true z6, of_decide_eq_true z7, of_decide_eq_true z⟩
theorem ec_InvalidWords (c : He.SaysX fa fn [] [] ex w h K) : ExcC K (He.ga K "InvalidWords") := by
  obtain ⟨z1, z⟩ := Bool.and_eq_true_iff.mp (e_11 c)
  obtain ⟨z2, z⟩ := Bool.and_eq_true_iff.mp z
  obtain ⟨z3, z⟩ := Bool.and_eq_true_iff.mp z
  obtain ⟨z4, z⟩ := Bool.and_eq_true_iff.mp z
  obtain ⟨z5, z⟩ := Bool.and_eq_true_iff.mp z
  obtain ⟨z6, z⟩ := Bool.and_eq_true_iff.mp z
  obtain ⟨z7, z⟩ := Bool.and_eq_true_iff.mp z
  exact ⟨of_decide_eq_true z1, of_decide_eq_true z2, of_decide_eq_true z3, z4, of_decide_eq_true z5, of_decide_eq_true z6, of_decide_eq_true z7, of_decide_eq_true z⟩
theorem xi_InvalidFilter (X : K.In h) (G : h.Ns mainGlobals mg) (c : He.SaysX fa fn [] [] ex w h K) : XI K mg (.ref (He.ga K "InvalidFilter")) isx_InvalidFilter := by
  refine ⟨fun id cls hh => ?_, of_decide_eq_true (e_12 c)⟩
  match id, hh with
  | 0, hh => exact (by
      have e := (He.glo_ok X G (f_glo_SkipError c)).symm.trans hh
      cases e
      exact ⟨_, rfl, ec_SkipError c, (of_decide_eq_true (e_13 c)).trans (by show some _ = some (isx_InvalidFilter 0); simp [isx_InvalidFilter])⟩)
  | 1, hh => exact absurd ((He.free_ok X G (f_free_InvalidText c)).symm.trans hh) (by intro z; cases z)
  | 2, hh => exact (by
      have e := (He.glo_ok X G (f_glo_InvalidValue c)).symm.trans hh
      cases e
      exact ⟨_, rfl, ec_InvalidValue c, (of_decide_eq_true (e_14 c)).trans (by show some _ = some (isx_InvalidFilter 2); simp [isx_InvalidFilter])⟩)
  | 3, hh => exact absurd ((He.free_ok X G (f_free_InvalidSpan c)).symm.trans hh) (by intro z; cases z)
  | 4, hh => exact (by
      have e := (He.glo_ok X G (f_glo_InvalidFilter c)).symm.trans hh
      cases e
      exact ⟨_, rfl, ec_InvalidFilter c, (of_decide_eq_true (e_15 c)).trans (by show some _ = some (isx_InvalidFilter 4); simp [isx_InvalidFilter])⟩)
  | 5, hh => exact absurd ((He.free_ok X G (f_free_InvalidRule c)).symm.trans hh) (by intro z; cases z)
  | 6, hh => exact absurd ((He.free_ok X G (f_free_InvalidPage c)).symm.trans hh) (by intro z; cases z)
  | 7, hh => exact absurd ((He.free_ok X G (f_free_InvalidNote c)).symm.trans hh) (by intro z; cases z)
  | 8, hh => exact absurd ((He.free_ok X G (f_free_InvalidColumn c)).symm.trans hh) (by intro z; cases z)
  | 9, hh => exact absurd ((He.free_ok X G (f_free_InvalidIndex c)).symm.trans hh) (by intro z; cases z)
  | 10, hh => exact absurd ((He.free_ok X G (f_free_InvalidNumber c)).symm.trans hh) (by intro z; cases z)
  | 11, hh => exact absurd ((He.free_ok X G (f_free_InvalidCode c)).symm.trans hh) (by intro z; cases z)
  | 12, hh => exact absurd ((He.free_ok X G (f_free_NoBlock c)).symm.trans hh) (by intro z; cases z)
  | 13, hh => exact absurd ((He.free_ok X G (f_free_NothingToUndo c)).symm.trans hh) (by intro z; cases z)
  | 14, hh => exact absurd ((He.free_ok X G (f_free_Full c)).symm.trans hh) (by intro z; cases z)
  | 15, hh => exact absurd ((He.free_ok X G (f_free_InvalidCommand c)).symm.trans hh) (by intro z; cases z)
  | j + 16, hh => exact (by
      have e := (He.glo_ok X G (f_glo_InvalidWords c)).symm.trans hh
      cases e
      exact ⟨_, rfl, ec_InvalidWords c, (of_decide_eq_true (e_16 c)).trans (by show some _ = some (isx_InvalidFilter (j + 16)); simp [isx_InvalidFilter])⟩)
theorem xi_InvalidValue (X : K.In h) (G : h.Ns mainGlobals mg) (c : He.SaysX fa fn [] [] ex w h K) : XI K mg (.ref (He.ga K "InvalidValue")) isx_InvalidValue := by
  refine ⟨fun id cls hh => ?_, of_decide_eq_true (e_17 c)⟩
  match id, hh with
  | 0, hh => exact (by
      have e := (He.glo_ok X G (f_glo_SkipError c)).symm.trans hh
      cases e
      exact ⟨_, rfl, ec_SkipError c, (of_decide_eq_true (e_18 c)).trans (by show some _ = some (isx_InvalidValue 0); simp [isx_InvalidValue])⟩)
  | 1, hh => exact absurd ((He.free_ok X G (f_free_InvalidText c)).symm.trans hh) (by intro z; cases z)
  | 2, hh => exact (by
      have e := (He.glo_ok X G (f_glo_InvalidValue c)).symm.trans hh
      cases e
      exact ⟨_, rfl, ec_InvalidValue c, (of_decide_eq_true (e_19 c)).trans (by show some _ = some (isx_InvalidValue 2); simp [isx_InvalidValue])⟩)
  | 3, hh => exact absurd ((He.free_ok X G (f_free_InvalidSpan c)).symm.trans hh) (by intro z; cases z)
  | 4, hh => exact (by
      have e := (He.glo_ok X G (f_glo_InvalidFilter c)).symm.trans hh
      cases e
      exact ⟨_, rfl, ec_InvalidFilter c, (of_decide_eq_true (e_20 c)).trans (by show some _ = some (isx_InvalidValue 4); simp [isx_InvalidValue])⟩)
  | 5, hh => exact absurd ((He.free_ok X G (f_free_InvalidRule c)).symm.trans hh) (by intro z; cases z)
  | 6, hh => exact absurd ((He.free_ok X G (f_free_InvalidPage c)).symm.trans hh) (by intro z; cases z)
  | 7, hh => exact absurd ((He.free_ok X G (f_free_InvalidNote c)).symm.trans hh) (by intro z; cases z)
  | 8, hh => exact absurd ((He.free_ok X G (f_free_InvalidColumn c)).symm.trans hh) (by intro z; cases z)
  | 9, hh => exact absurd ((He.free_ok X G (f_free_InvalidIndex c)).symm.trans hh) (by intro z; cases z)
  | 10, hh => exact absurd ((He.free_ok X G (f_free_InvalidNumber c)).symm.trans hh) (by intro z; cases z)
  | 11, hh => exact absurd ((He.free_ok X G (f_free_InvalidCode c)).symm.trans hh) (by intro z; cases z)
  | 12, hh => exact absurd ((He.free_ok X G (f_free_NoBlock c)).symm.trans hh) (by intro z; cases z)
  | 13, hh => exact absurd ((He.free_ok X G (f_free_NothingToUndo c)).symm.trans hh) (by intro z; cases z)
  | 14, hh => exact absurd ((He.free_ok X G (f_free_Full c)).symm.trans hh) (by intro z; cases z)
  | 15, hh => exact absurd ((He.free_ok X G (f_free_InvalidCommand c)).symm.trans hh) (by intro z; cases z)
  | j + 16, hh => exact (by
      have e := (He.glo_ok X G (f_glo_InvalidWords c)).symm.trans hh
      cases e
      exact ⟨_, rfl, ec_InvalidWords c, (of_decide_eq_true (e_21 c)).trans (by show some _ = some (isx_InvalidValue (j + 16)); simp [isx_InvalidValue])⟩)
theorem xi_SkipError (X : K.In h) (G : h.Ns mainGlobals mg) (c : He.SaysX fa fn [] [] ex w h K) : XI K mg (.ref (He.ga K "SkipError")) isx_SkipError := by
  refine ⟨fun id cls hh => ?_, of_decide_eq_true (e_22 c)⟩
  match id, hh with
  | 0, hh => exact (by
      have e := (He.glo_ok X G (f_glo_SkipError c)).symm.trans hh
      cases e
      exact ⟨_, rfl, ec_SkipError c, (of_decide_eq_true (e_23 c)).trans (by show some _ = some (isx_SkipError 0); simp [isx_SkipError])⟩)
  | 1, hh => exact absurd ((He.free_ok X G (f_free_InvalidText c)).symm.trans hh) (by intro z; cases z)
  | 2, hh => exact (by
      have e := (He.glo_ok X G (f_glo_InvalidValue c)).symm.trans hh
      cases e
      exact ⟨_, rfl, ec_InvalidValue c, (of_decide_eq_true (e_24 c)).trans (by show some _ = some (isx_SkipError 2); simp [isx_SkipError])⟩)
  | 3, hh => exact absurd ((He.free_ok X G (f_free_InvalidSpan c)).symm.trans hh) (by intro z; cases z)
  | 4, hh => exact (by
      have e := (He.glo_ok X G (f_glo_InvalidFilter c)).symm.trans hh
      cases e
      exact ⟨_, rfl, ec_InvalidFilter c, (of_decide_eq_true (e_25 c)).trans (by show some _ = some (isx_SkipError 4); simp [isx_SkipError])⟩)
  | 5, hh => exact absurd ((He.free_ok X G (f_free_InvalidRule c)).symm.trans hh) (by intro z; cases z)
  | 6, hh => exact absurd ((He.free_ok X G (f_free_InvalidPage c)).symm.trans hh) (by intro z; cases z)
  | 7, hh => exact absurd ((He.free_ok X G (f_free_InvalidNote c)).symm.trans hh) (by intro z; cases z)
  | 8, hh => exact absurd ((He.free_ok X G (f_free_InvalidColumn c)).symm.trans hh) (by intro z; cases z)
  | 9, hh => exact absurd ((He.free_ok X G (f_free_InvalidIndex c)).symm.trans hh) (by intro z; cases z)
  | 10, hh => exact absurd ((He.free_ok X G (f_free_InvalidNumber c)).symm.trans hh) (by intro z; cases z)
  | 11, hh => exact absurd ((He.free_ok X G (f_free_InvalidCode c)).symm.trans hh) (by intro z; cases z)
  | 12, hh => exact absurd ((He.free_ok X G (f_free_NoBlock c)).symm.trans hh) (by intro z; cases z)
  | 13, hh => exact absurd ((He.free_ok X G (f_free_NothingToUndo c)).symm.trans hh) (by intro z; cases z)
  | 14, hh => exact absurd ((He.free_ok X G (f_free_Full c)).symm.trans hh) (by intro z; cases z)
  | 15, hh => exact absurd ((He.free_ok X G (f_free_InvalidCommand c)).symm.trans hh) (by intro z; cases z)
  | j + 16, hh => exact (by
      have e := (He.glo_ok X G (f_glo_InvalidWords c)).symm.trans hh
      cases e
      exact ⟨_, rfl, ec_InvalidWords c, (of_decide_eq_true (e_26 c)).trans (by show some _ = some (isx_SkipError (j + 16)); simp [isx_SkipError])⟩)
theorem xi_ValueError (X : K.In h) (G : h.Ns mainGlobals mg) (c : He.SaysX fa fn [] [] ex w h K) : XI K mg (.type "ValueError") isx_ValueError := by
  refine ⟨fun id cls hh => ?_, of_decide_eq_true (e_27 c)⟩
  match id, hh with
  | 0, hh => exact (by
      have e := (He.glo_ok X G (f_glo_SkipError c)).symm.trans hh
      cases e
      exact ⟨_, rfl, ec_SkipError c, (of_decide_eq_true (e_28 c)).trans (by show some _ = some (isx_ValueError 0); simp [isx_ValueError])⟩)
  | 1, hh => exact absurd ((He.free_ok X G (f_free_InvalidText c)).symm.trans hh) (by intro z; cases z)
  | 2, hh => exact (by
      have e := (He.glo_ok X G (f_glo_InvalidValue c)).symm.trans hh
      cases e
      exact ⟨_, rfl, ec_InvalidValue c, (of_decide_eq_true (e_29 c)).trans (by show some _ = some (isx_ValueError 2); simp [isx_ValueError])⟩)
  | 3, hh => exact absurd ((He.free_ok X G (f_free_InvalidSpan c)).symm.trans hh) (by intro z; cases z)
  | 4, hh => exact (by
      have e := (He.glo_ok X G (f_glo_InvalidFilter c)).symm.trans hh
      cases e
      exact ⟨_, rfl, ec_InvalidFilter c, (of_decide_eq_true (e_30 c)).trans (by show some _ = some (isx_ValueError 4); simp [isx_ValueError])⟩)
  | 5, hh => exact absurd ((He.free_ok X G (f_free_InvalidRule c)).symm.trans hh) (by intro z; cases z)
  | 6, hh => exact absurd ((He.free_ok X G (f_free_InvalidPage c)).symm.trans hh) (by intro z; cases z)
  | 7, hh => exact absurd ((He.free_ok X G (f_free_InvalidNote c)).symm.trans hh) (by intro z; cases z)
  | 8, hh => exact absurd ((He.free_ok X G (f_free_InvalidColumn c)).symm.trans hh) (by intro z; cases z)
  | 9, hh => exact absurd ((He.free_ok X G (f_free_InvalidIndex c)).symm.trans hh) (by intro z; cases z)
  | 10, hh => exact absurd ((He.free_ok X G (f_free_InvalidNumber c)).symm.trans hh) (by intro z; cases z)
  | 11, hh => exact absurd ((He.free_ok X G (f_free_InvalidCode c)).symm.trans hh) (by intro z; cases z)
  | 12, hh => exact absurd ((He.free_ok X G (f_free_NoBlock c)).symm.trans hh) (by intro z; cases z)
  | 13, hh => exact absurd ((He.free_ok X G (f_free_NothingToUndo c)).symm.trans hh) (by intro z; cases z)
  | 14, hh => exact absurd ((He.free_ok X G (f_free_Full c)).symm.trans hh) (by intro z; cases z)
  | 15, hh => exact absurd ((He.free_ok X G (f_free_InvalidCommand c)).symm.trans hh) (by intro z; cases z)
  | j + 16, hh => exact (by
      have e := (He.glo_ok X G (f_glo_InvalidWords c)).symm.trans hh
      cases e
      exact ⟨_, rfl, ec_InvalidWords c, (of_decide_eq_true (e_31 c)).trans (by show some _ = some (isx_ValueError (j + 16)); simp [isx_ValueError])⟩)
theorem xm_InvalidWords (X : K.In h) (G : h.Ns mainGlobals mg) (c : He.SaysX fa fn [] [] ex w h K) : XM K mg (.ref (He.ga K "InvalidWords")) isx_InvalidWords := by
  intro id cls hh
  match id, hh with
  | 0, hh => exact (by
      have e := (He.glo_ok X G (f_glo_SkipError c)).symm.trans hh
      cases e
      exact (He.exm_ok (f_exm_SkipError_InvalidWords_false c)).trans (by show some _ = some (isx_InvalidWords 0); simp [isx_InvalidWords]))
  | 1, hh => exact absurd ((He.free_ok X G (f_free_InvalidText c)).symm.trans hh) (by intro z; cases z)
  | 2, hh => exact (by
      have e := (He.glo_ok X G (f_glo_InvalidValue c)).symm.trans hh
      cases e
      exact (He.exm_ok (f_exm_InvalidValue_InvalidWords_false c)).trans (by show some _ = some (isx_InvalidWords 2); simp [isx_InvalidWords]))
  | 3, hh => exact absurd ((He.free_ok X G (f_free_InvalidSpan c)).symm.trans hh) (by intro z; cases z)
  | 4, hh => exact (by
      have e := (He.glo_ok X G (f_glo_InvalidFilter c)).symm.trans hh
      cases e
      exact (He.exm_ok (f_exm_InvalidFilter_InvalidWords_false c)).trans (by show some _ = some (isx_InvalidWords 4); simp [isx_InvalidWords]))
  | 5, hh => exact absurd ((He.free_ok X G (f_free_InvalidRule c)).symm.trans hh) (by intro z; cases z)
  | 6, hh => exact absurd ((He.free_ok X G (f_free_InvalidPage c)).symm.trans hh) (by intro z; cases z)
  | 7, hh => exact absurd ((He.free_ok X G (f_free_InvalidNote c)).symm.trans hh) (by intro z; cases z)
  | 8, hh => exact absurd ((He.free_ok X G (f_free_InvalidColumn c)).symm.trans hh) (by intro z; cases z)
  | 9, hh => exact absurd ((He.free_ok X G (f_free_InvalidIndex c)).symm.trans hh) (by intro z; cases z)
  | 10, hh => exact absurd ((He.free_ok X G (f_free_InvalidNumber c)).symm.trans hh) (by intro z; cases z)
  | 11, hh => exact absurd ((He.free_ok X G (f_free_InvalidCode c)).symm.trans hh) (by intro z; cases z)
  | 12, hh => exact absurd ((He.free_ok X G (f_free_NoBlock c)).symm.trans hh) (by intro z; cases z)
  | 13, hh => exact absurd ((He.free_ok X G (f_free_NothingToUndo c)).symm.trans hh) (by intro z; cases z)
  | 14, hh => exact absurd ((He.free_ok X G (f_free_Full c)).symm.trans hh) (by intro z; cases z)
  | 15, hh => exact absurd ((He.free_ok X G (f_free_InvalidCommand c)).symm.trans hh) (by intro z; cases z)
  | j + 16, hh => exact (by
      have e := (He.glo_ok X G (f_glo_InvalidWords c)).symm.trans hh
      cases e
      exact (He.exm_ok (f_exm_InvalidWords_InvalidWords_true c)).trans (by show some _ = some (isx_InvalidWords (j + 16)); simp [isx_InvalidWords]))
theorem bas (X : K.In h) (G : h.Ns mainGlobals mg) (c : He.SaysX fa fn [] [] ex w h K) : Bas K mg where
  free_ValueError := He.free_ok X G (f_free_ValueError c)
  free_bool := He.free_ok X G (f_free_bool c)
  free_int := He.free_ok X G (f_free_int c)
  free_isinstance := He.free_ok X G (f_free_isinstance c)
  free_len := He.free_ok X G (f_free_len c)
  free_range := He.free_ok X G (f_free_range c)
  free_repr := He.free_ok X G (f_free_repr c)
  free_str := He.free_ok X G (f_free_str c)
  free_tuple := He.free_ok X G (f_free_tuple c)
  g_DEEPEST_LEVEL := gc_int X G (f_int_DEEPEST_LEVEL_20 c)
  g_DIGITS := gc_str X G (f_str_DIGITS_0123456789 c)
  g_GROUPS := gc_tup X G (f_glo_GROUPS c) (e_0 c) rfl
  g_LEAVES := gc_tup X G (f_glo_LEAVES c) (e_1 c) rfl
  g_LETTERS := gc_str X G (f_str_LETTERS_abc c)
  g_LONGEST_TEXT := gc_int X G (f_int_LONGEST_TEXT_40 c)
  cf_WordReader := cf_of X G (f_glo_WordReader c) (f_cls_WordReader c) (e_2 c)
  try_InvalidWords := ⟨_, He.glo_ok X G (f_glo_InvalidWords c), xm X G c, fun y m hy _ => by
    have h16 : 16 ≤ y.id := of_decide_eq_true hy
    obtain ⟨j, ej⟩ : ∃ j, y.id = j + 16 := ⟨y.id - 16, by omega⟩
    rw [ej]
    exact He.glo_ok X G (f_glo_InvalidWords c), xfB_ok (e_4 c), of_decide_eq_true (e_5 c)⟩
  xi_InvalidFilter := ⟨_, He.glo_ok X G (f_glo_InvalidFilter c), xi_InvalidFilter X G c⟩
  xi_InvalidValue := ⟨_, He.glo_ok X G (f_glo_InvalidValue c), xi_InvalidValue X G c⟩
  xi_SkipError := ⟨_, He.glo_ok X G (f_glo_SkipError c), xi_SkipError X G c⟩
  xi_ValueError := xi_ValueError X G c
  xm_InvalidWords := ⟨_, He.glo_ok X G (f_glo_InvalidWords c), xm_InvalidWords X G c⟩
theorem facts {f0 : Addr} (X : K.In h) (G : h.Ns mainGlobals mg) (hfa : mg ("law" : Str) = some (.ref f0)) (c : He.SaysX fa fn [] [] ex w h K) :
    ∃ fd : FuncData, (∀ (s : Shared) (v : Value), BindsTo s fd ⟨[v], []⟩ [("script", v)]) ∧ ∀ base : Heap, K.In base → base.Ns mainGlobals mg → FnG P w K mg base (L2.CX P w) 31 f0 fd ["script"] (spM K mg m_law 1 []) := by
  obtain ⟨fd0, F0⟩ := c.t.d.def_ 0 (d := d_InvalidWords_init) rfl
  obtain ⟨fd1, F1⟩ := c.t.d.def_ 1 (d := d_is_text) rfl
  obtain ⟨fd2, F2⟩ := c.t.d.def_ 2 (d := d_WordReader_init) rfl
  obtain ⟨fd3, F3⟩ := c.t.d.def_ 3 (d := d_WordReader_take) rfl
  obtain ⟨fd4, F4⟩ := c.t.d.def_ 4 (d := d_WordReader_ended) rfl
  obtain ⟨fd5, F5⟩ := c.t.d.def_ 5 (d := d_is_number_word) rfl
  obtain ⟨fd6, F6⟩ := c.t.d.def_ 6 (d := d_take_number) rfl
  obtain ⟨fd7, F7⟩ := c.t.d.def_ 7 (d := d_take_text) rfl
  obtain ⟨fd8, F8⟩ := c.t.d.def_ 8 (d := d_take_answer) rfl
  obtain ⟨fd9, F9⟩ := c.t.d.def_ 9 (d := d_take_filter) rfl
  obtain ⟨fd10, F10⟩ := c.t.d.def_ 10 (d := d_read_filter) rfl
  obtain ⟨fd11, F11⟩ := c.t.d.def_ 11 (d := d__law_hand) rfl
  obtain ⟨fd12, F12⟩ := c.t.d.def_ 12 (d := d__law_pick) rfl
  obtain ⟨fd13, F13⟩ := c.t.d.def_ 13 (d := d__law_text) rfl
  obtain ⟨fd14, F14⟩ := c.t.d.def_ 14 (d := d__law_near) rfl
  obtain ⟨fd15, F15⟩ := c.t.d.def_ 15 (d := d__law_query) rfl
  obtain ⟨fd16, F16⟩ := c.t.d.def_ 16 (d := d__law_word) rfl
  obtain ⟨fd17, F17⟩ := c.t.d.def_ 17 (d := d__law_words) rfl
  obtain ⟨fd18, F18⟩ := c.t.d.def_ 18 (d := d__law_is_number) rfl
  obtain ⟨fd19, F19⟩ := c.t.d.def_ 19 (d := d__law_is_text_word) rfl
  obtain ⟨fd20, F20⟩ := c.t.d.def_ 20 (d := d__law_place) rfl
  obtain ⟨fd21, F21⟩ := c.t.d.def_ 21 (d := d__law_strange) rfl
  obtain ⟨fd22, F22⟩ := c.t.d.def_ 22 (d := d__law_bent_word) rfl
  obtain ⟨fd23, F23⟩ := c.t.d.def_ 23 (d := d__law_changed) rfl
  obtain ⟨fd24, F24⟩ := c.t.d.def_ 24 (d := d__law_is_text) rfl
  obtain ⟨fd25, F25⟩ := c.t.d.def_ 25 (d := d__law_is_query) rfl
  obtain ⟨fd26, F26⟩ := c.t.d.def_ 26 (d := d__law_odd_words) rfl
  obtain ⟨fd27, F27⟩ := c.t.d.def_ 27 (d := d__law_read) rfl
  obtain ⟨fd28, F28⟩ := c.t.d.def_ 28 (d := d_law) rfl
  have e := hfa.symm.trans (He.glo_ok X G (f_glo_law c))
  cases e
  have Bs := bas X G c
  refine ⟨fd28, fun s v => FunD.bindsA (ps := ["script"]) F28 (fun _ _ _ _ _ _ us hl => match us, hl with | [_], _ => rfl) s [v] rfl, fun base KB GB => ?_⟩
  have c_InvalidWords_init : EXW P w K mg base 1 := exw_of F0 rfl ⟨rfl, rfl, rfl, by decide +kernel, rfl, by decide +kernel, by decide +kernel⟩ rfl rfl (fun _ _ _ _ _ _ us hl => match us, hl with | [_, _], _ => rfl) (He.glo_ok X G (f_glo_InvalidWords c)) (oexB_ok (e_3 c)) (of_decide_eq_true (e_6 c)) (of_decide_eq_true (e_7 c)) (of_decide_eq_true (e_5 c))
  have k_is_text := ok_is_text (P := P) (w := w) (base := base) Bs F1
  have c_is_text : FO P w K mg base "is_text" 1 1 [] m_is_text := fo_mk F1 (He.glo_ok X G (f_glo_is_text c)) k_is_text (fun _ _ _ _ _ _ us hl => match us, hl with | [_], _ => rfl)
  have k_WordReader_init := ok_WordReader_init (P := P) (w := w) (base := base) Bs F2
  have c_WordReader_init : FOK P w K mg base 0 1 2 m_WordReader_init := fok_mk F2 (He.glo_ok X G (f_glo_WordReader c)) (He.mkr_ok (f_mkr_WordReader c)) k_WordReader_init (fun _ _ _ _ _ _ us hl => match us, hl with | [_, _], _ => rfl)
  have k_WordReader_take := ok_WordReader_take (P := P) (w := w) (base := base) Bs c_InvalidWords_init F3
  have c_WordReader_take : FOM P w K mg base 0 "take" 3 1 [true] m_WordReader_take := fom_mk F3 (He.glo_ok X G (f_glo_WordReader c)) (He.cls_ok (f_cls_WordReader c)) (He.meth_ok (f_meth_WordReader_take c)) k_WordReader_take (fun _ _ _ _ _ _ us hl => match us, hl with | [_], _ => rfl)
  have k_WordReader_ended := ok_WordReader_ended (P := P) (w := w) (base := base) Bs c_InvalidWords_init F4
  have c_WordReader_ended : FOM P w K mg base 0 "ended" 3 2 [true] m_WordReader_ended := fom_mk F4 (He.glo_ok X G (f_glo_WordReader c)) (He.cls_ok (f_cls_WordReader c)) (He.meth_ok (f_meth_WordReader_ended c)) k_WordReader_ended (fun _ _ _ _ _ _ us hl => match us, hl with | [_, _], _ => rfl)
  have k_is_number_word := ok_is_number_word (P := P) (w := w) (base := base) Bs F5
  have c_is_number_word : FO P w K mg base "is_number_word" 1 2 [] m_is_number_word := fo_mk F5 (He.glo_ok X G (f_glo_is_number_word c)) k_is_number_word (fun _ _ _ _ _ _ us hl => match us, hl with | [_, _], _ => rfl)
  have k_take_number := ok_take_number (P := P) (w := w) (base := base) Bs c_WordReader_take c_InvalidWords_init c_is_number_word F6
  have c_take_number : FO P w K mg base "take_number" 4 3 [true] m_take_number := fo_mk F6 (He.glo_ok X G (f_glo_take_number c)) k_take_number (fun _ _ _ _ _ _ us hl => match us, hl with | [_, _, _], _ => rfl)
  have k_take_text := ok_take_text (P := P) (w := w) (base := base) Bs c_WordReader_take c_InvalidWords_init c_is_text F7
  have c_take_text : FO P w K mg base "take_text" 4 1 [true] m_take_text := fo_mk F7 (He.glo_ok X G (f_glo_take_text c)) k_take_text (fun _ _ _ _ _ _ us hl => match us, hl with | [_], _ => rfl)
  have k_take_answer := ok_take_answer (P := P) (w := w) (base := base) Bs c_WordReader_take c_InvalidWords_init F8
  have c_take_answer : FO P w K mg base "take_answer" 4 1 [true] m_take_answer := fo_mk F8 (He.glo_ok X G (f_glo_take_answer c)) k_take_answer (fun _ _ _ _ _ _ us hl => match us, hl with | [_], _ => rfl)
  have r_take_filter : ∀ fu, FO P w K mg base "take_filter" (4 + fu) 2 [true] (m_take_filter fu) := fo_rec (fo_zero (ps := ["reader", "level"]) F9 (He.glo_ok X G (f_glo_take_filter c)) (fun _ _ _ _ _ _ us hl => match us, hl with | [_, _], _ => rfl)) fun fu cc => fo_mk F9 (He.glo_ok X G (f_glo_take_filter c)) (ok_take_filter (P := P) (w := w) (base := base) Bs c_WordReader_take c_InvalidWords_init c_take_text c_take_answer c_take_number fu cc F9) (fun _ _ _ _ _ _ us hl => match us, hl with | [_, _], _ => rfl)
  have c_take_filter : FO P w K mg base "take_filter" 28 2 [true] (m_take_filter 24) := r_take_filter 24
  have k_read_filter := ok_read_filter (P := P) (w := w) (base := base) Bs c_WordReader_init c_WordReader_ended c_take_filter F10
  have c_read_filter : FO P w K mg base "read_filter" 29 1 [] m_read_filter := fo_mk F10 (He.glo_ok X G (f_glo_read_filter c)) k_read_filter (fun _ _ _ _ _ _ us hl => match us, hl with | [_], _ => rfl)
  have k__law_hand := ok__law_hand (P := P) (w := w) (base := base) Bs F11
  have c__law_hand : FO P w K mg base "_law_hand" 1 1 [] m__law_hand := fo_mk F11 (He.glo_ok X G (f_glo__law_hand c)) k__law_hand (fun _ _ _ _ _ _ us hl => match us, hl with | [_], _ => rfl)
  have k__law_pick := ok__law_pick (P := P) (w := w) (base := base) Bs F12
  have c__law_pick : FO P w K mg base "_law_pick" 1 2 [true] m__law_pick := fo_mk F12 (He.glo_ok X G (f_glo__law_pick c)) k__law_pick (fun _ _ _ _ _ _ us hl => match us, hl with | [_, _], _ => rfl)
  have k__law_text := ok__law_text (P := P) (w := w) (base := base) Bs c__law_pick F13
  have c__law_text : FO P w K mg base "_law_text" 2 1 [true] m__law_text := fo_mk F13 (He.glo_ok X G (f_glo__law_text c)) k__law_text (fun _ _ _ _ _ _ us hl => match us, hl with | [_], _ => rfl)
  have k__law_near := ok__law_near (P := P) (w := w) (base := base) Bs c__law_pick c__law_text F14
  have c__law_near : FO P w K mg base "_law_near" 3 2 [true, true] m__law_near := fo_mk F14 (He.glo_ok X G (f_glo__law_near c)) k__law_near (fun _ _ _ _ _ _ us hl => match us, hl with | [_, _], _ => rfl)
  have r__law_query : ∀ fu, FO P w K mg base "_law_query" (3 + fu) 4 [true, true, true] (m__law_query fu) := fo_rec (fo_zero (ps := ["hand", "pool", "room", "levels"]) F15 (He.glo_ok X G (f_glo__law_query c)) (fun _ _ _ _ _ _ us hl => match us, hl with | [_, _, _, _], _ => rfl)) fun fu cc => fo_mk F15 (He.glo_ok X G (f_glo__law_query c)) (ok__law_query (P := P) (w := w) (base := base) Bs c__law_pick c__law_near fu cc F15) (fun _ _ _ _ _ _ us hl => match us, hl with | [_, _, _, _], _ => rfl)
  have c__law_query : FO P w K mg base "_law_query" 27 4 [true, true, true] (m__law_query 24) := r__law_query 24
  have k__law_word := ok__law_word (P := P) (w := w) (base := base) Bs F16
  have c__law_word : FO P w K mg base "_law_word" 1 1 [] m__law_word := fo_mk F16 (He.glo_ok X G (f_glo__law_word c)) k__law_word (fun _ _ _ _ _ _ us hl => match us, hl with | [_], _ => rfl)
  have r__law_words : ∀ fu, FO P w K mg base "_law_words" (1 + fu) 1 [] (m__law_words fu) := fo_rec (fo_zero (ps := ["query"]) F17 (He.glo_ok X G (f_glo__law_words c)) (fun _ _ _ _ _ _ us hl => match us, hl with | [_], _ => rfl)) fun fu cc => fo_mk F17 (He.glo_ok X G (f_glo__law_words c)) (ok__law_words (P := P) (w := w) (base := base) Bs c__law_word fu cc F17) (fun _ _ _ _ _ _ us hl => match us, hl with | [_], _ => rfl)
  have c__law_words : FO P w K mg base "_law_words" 25 1 [] (m__law_words 24) := r__law_words 24
  have k__law_is_number := ok__law_is_number (P := P) (w := w) (base := base) Bs F18
  have c__law_is_number : FO P w K mg base "_law_is_number" 1 2 [] m__law_is_number := fo_mk F18 (He.glo_ok X G (f_glo__law_is_number c)) k__law_is_number (fun _ _ _ _ _ _ us hl => match us, hl with | [_, _], _ => rfl)
  have k__law_is_text_word := ok__law_is_text_word (P := P) (w := w) (base := base) Bs F19
  have c__law_is_text_word : FO P w K mg base "_law_is_text_word" 1 1 [] m__law_is_text_word := fo_mk F19 (He.glo_ok X G (f_glo__law_is_text_word c)) k__law_is_text_word (fun _ _ _ _ _ _ us hl => match us, hl with | [_], _ => rfl)
  have k__law_place := ok__law_place (P := P) (w := w) (base := base) Bs c__law_is_text_word c__law_is_number F20
  have c__law_place : FO P w K mg base "_law_place" 2 1 [] m__law_place := fo_mk F20 (He.glo_ok X G (f_glo__law_place c)) k__law_place (fun _ _ _ _ _ _ us hl => match us, hl with | [_], _ => rfl)
  have k__law_strange := ok__law_strange (P := P) (w := w) (base := base) Bs c__law_pick F21
  have c__law_strange : FO P w K mg base "_law_strange" 2 1 [true] m__law_strange := fo_mk F21 (He.glo_ok X G (f_glo__law_strange c)) k__law_strange (fun _ _ _ _ _ _ us hl => match us, hl with | [_], _ => rfl)
  have k__law_bent_word := ok__law_bent_word (P := P) (w := w) (base := base) Bs c__law_pick c__law_strange F22
  have c__law_bent_word : FO P w K mg base "_law_bent_word" 3 2 [true] m__law_bent_word := fo_mk F22 (He.glo_ok X G (f_glo__law_bent_word c)) k__law_bent_word (fun _ _ _ _ _ _ us hl => match us, hl with | [_, _], _ => rfl)
  have k__law_changed := ok__law_changed (P := P) (w := w) (base := base) Bs c__law_pick c__law_strange c__law_bent_word F23
  have c__law_changed : FO P w K mg base "_law_changed" 4 3 [true] m__law_changed := fo_mk F23 (He.glo_ok X G (f_glo__law_changed c)) k__law_changed (fun _ _ _ _ _ _ us hl => match us, hl with | [_, _, _], _ => rfl)
  have k__law_is_text := ok__law_is_text (P := P) (w := w) (base := base) Bs F24
  have c__law_is_text : FO P w K mg base "_law_is_text" 1 1 [] m__law_is_text := fo_mk F24 (He.glo_ok X G (f_glo__law_is_text c)) k__law_is_text (fun _ _ _ _ _ _ us hl => match us, hl with | [_], _ => rfl)
  have r__law_is_query : ∀ fu, FO P w K mg base "_law_is_query" (1 + fu) 1 [] (m__law_is_query fu) := fo_rec (fo_zero (ps := ["found"]) F25 (He.glo_ok X G (f_glo__law_is_query c)) (fun _ _ _ _ _ _ us hl => match us, hl with | [_], _ => rfl)) fun fu cc => fo_mk F25 (He.glo_ok X G (f_glo__law_is_query c)) (ok__law_is_query (P := P) (w := w) (base := base) Bs c__law_is_text fu cc F25) (fun _ _ _ _ _ _ us hl => match us, hl with | [_], _ => rfl)
  have c__law_is_query : FO P w K mg base "_law_is_query" 25 1 [] (m__law_is_query 24) := r__law_is_query 24
  have k__law_odd_words := ok__law_odd_words (P := P) (w := w) (base := base) Bs F26
  have c__law_odd_words : FO P w K mg base "_law_odd_words" 1 0 [] m__law_odd_words := fo_mk F26 (He.glo_ok X G (f_glo__law_odd_words c)) k__law_odd_words (fun _ _ _ _ _ _ us hl => match us, hl with | [], _ => rfl)
  have k__law_read := ok__law_read (P := P) (w := w) (base := base) Bs c_read_filter F27
  have c__law_read : FO P w K mg base "_law_read" 30 1 [] m__law_read := fo_mk F27 (He.glo_ok X G (f_glo__law_read c)) k__law_read (fun _ _ _ _ _ _ us hl => match us, hl with | [_], _ => rfl)
  have k_law := ok_law (P := P) (w := w) (base := base) Bs c__law_hand c__law_query c__law_words c__law_read c__law_changed c__law_pick c__law_odd_words c__law_place c__law_is_query F28
  exact k_law
end
end Gk62
section
open PySem PySem.W PySem.Calls PyProof.Rows
theorem PySem.Challenge.cw_pageskips_k62_whole_words_that_cannot_st_of (HL : ∀ ns : List Int, ns.length ≤ 63 → (∀ z ∈ ns, Builtin.Int.intBits z ≤ 1048576) → Gk62.m_law [.sh (.lst (ns.map .int))] = .ok (.sh (.bl true)) []) : PySem.Challenge.rw_pageskips_k62_whole_words_that_cannot_st.Holds := by
  w_on; o_law
  refine HandSHeadRun.head_any (r := OpenLaw.row PySem.Challenge.rw_pageskips_k62_whole_words_that_cannot_st) (q := view (OpenLaw.row PySem.Challenge.rw_pageskips_k62_whole_words_that_cannot_st).prog [39]) (H := Gk62.hk) (ob := Gk62.ob) (M := 6000) (loose := Gk62.others) (d := HandSHeadRun.topDef (OpenLaw.row PySem.Challenge.rw_pageskips_k62_whole_words_that_cannot_st).prog 39) (kwd := []) Gk62.ob_eq
    (by kernel_rfl) (fun s => by kernel_rfl) Gk62.run (by kernel_rfl) (by kernel_rfl) (by kernel_rfl) (by rfl) (by first | assumption | decide +kernel) (by decide +kernel) ⟨rfl, rfl, rfl, rfl, rfl, by decide +kernel⟩ ?hw ?hc
  case hw => w_witness2
  case hc =>
    refine Mi.walk_G (l := PySem.Challenge.rw_pageskips_k62_whole_words_that_cannot_st) (n := 63) (k := 31) (x := "script") (CX := fun w => L2.CX (PySem.Challenge.rw_pageskips_k62_whole_words_that_cannot_st).prog w) rfl (by decide) (by kernel_rfl) ⟨rfl, by decide, by decide⟩ ?F ?CX0
    case CX0 => exact fun w H s e s' ⟨a, B, H', cls, d, _, _, _, _, _, _, _, z⟩ => z
    intro w mg fa h Y G hmg0
    obtain ⟨K, KX, c⟩ := Y
    have hmg : mg ("law" : PySem.Str) = some (.ref fa) := by
      have e : (HandSHeadRun.topDef (OpenLaw.row PySem.Challenge.rw_pageskips_k62_whole_words_that_cannot_st).prog 39).name = ("law" : PySem.Str) := by kernel_rfl
      rw [← e]
      exact hmg0
    obtain ⟨fd, hb, hF⟩ := Gk62.facts (P := (PySem.Challenge.rw_pageskips_k62_whole_words_that_cannot_st).prog) (w := w) KX G hmg c
    exact ⟨K, fd, Mi.spM K mg Gk62.m_law 1 [], KX, hb, fun H a ns hl hbits hO hS => Mi.law_sp hS hO (HL ns hl hbits), hF⟩
end
set_option maxRecDepth 100000
set_option maxHeartbeats 2000000
namespace Gk62
open PySem PySem.Spec PyProof.Rows L2 Mi
abbrev S (l : List Nat) : Str := SX.S l
def Abc (l : List Nat) : Prop := ∀ c ∈ l, c = 97 ∨ c = 98 ∨ c = 99
theorem abc_all {l : List Nat} (h : Abc l) : ∀ c ∈ l, ("abc" : Str).cps.contains c = true := fun c hc => by
  rcases h c hc with rfl | rfl | rfl <;> decide +kernel
theorem tw_all {p : Nat → Bool} : ∀ {l : List Nat}, (∀ c ∈ l, p c = true) → l.takeWhile p = l
  | [], _ => rfl
  | c :: r, h => by rw [List.takeWhile_cons, if_pos (h c List.mem_cons_self), tw_all fun d hd => h d (List.mem_cons_of_mem _ hd)]
theorem strip_abc {l : List Nat} (h : Abc l) : Txt.stripChars (S l) ("abc" : Str) = ("" : Str) := by
  have e1 : (S l).cps.toList = l := by simp [S, SX.S]
  have lo : stripLo (("abc" : Str).cps.contains) true (S l) = l.length := by
    unfold stripLo
    rw [if_pos rfl, e1, tw_all (abc_all h)]
  have len : (S l).length = l.length := SX.S_len l
  have hi : stripHi (("abc" : Str).cps.contains) true (S l) l.length = l.length := by
    unfold stripHi
    rw [if_pos rfl, e1]
    simp [len]
  unfold Txt.stripChars Txt.stripBy
  by_cases h0 : l = []
  · subst h0
    rw [if_pos (by unfold stripSame; rw [lo, hi, len]; rfl)]
    rfl
  · have hn : l.length ≠ 0 := fun z => h0 (List.eq_nil_of_length_eq_zero z)
    rw [if_neg (by unfold stripSame; rw [lo]; simp [hn])]
    unfold stripped
    rw [lo, hi]
    unfold PySem.Builtin.Str.strSub
    simp
    rfl
theorem split_one {l : List Nat} (h : 32 ∉ l) : Txt.split (S l) (" " : Str) = [S l] := by
  have e := SX.split_S (a := l) (b := [32]) (by simp) (by decide)
  have e2 : TL.spl [32] 0 [] l = [l] := SX.spl_join (c := 32) (sep := []) (parts := [l]) (by simp) (by simpa using h)
  rw [e2] at e
  exact e
theorem is_text_abc {l : List Nat} (h : Abc l) (hz : l.length ≤ 1000) : m_is_text [.sh (.str (S l))] = .ok (.sh (.bl true)) [] := by
  have z : (S l).length ≤ sizeLine := by rw [SX.S_len, sizeLine_eq]; omega
  have p : pStrip [.str (S l), .str "abc"] = some (.sh (.str "")) := by
    show (if (S l).length ≤ sizeLine then some (W.sh (.str (Txt.stripChars (S l) "abc"))) else none) = _
    rw [if_pos z, strip_abc h]
  simp [m_is_text, fnM_ap, p]
end Gk62
set_option maxRecDepth 100000
set_option maxHeartbeats 2000000
namespace Gk62
open PySem PySem.Spec PyProof.Rows L2 Mi
/-- a reader of the words ws at the place p -/
abbrev rd (ws : List D) (p : Int) : W := .oi 0 [.sh (.lst ws), .sh (.int p)]
theorem init_s {x : Str} {ys : List Str} (h : x.length + 2 ≤ sizeLine) (e : Txt.split x (" " : Str) = ys) : m_WordReader_init [.oi 0 [], .sh (.str x)] = .ok (.sh .non) [rd (ys.map .str) 0] := by
  have p : pSplit [.str x, .str " "] = some (.ol (ys.map .str)) := by
    show (if ((" " : Str).length == 0) = false ∧ x.length + 2 ≤ sizeLine then some (W.ol ((Txt.split x " ").map D.str)) else none) = _
    rw [if_pos ⟨by decide, h⟩, e]
  simp [m_WordReader_init, fnM_ap, p]
theorem take_s {ws : List D} {p : Nat} {d : D} (h : ws[p]? = some d) : m_WordReader_take [rd ws p] = .ok (.sh d) [rd ws ((p : Int) + 1)] := by
  obtain ⟨hl, _⟩ := List.getElem?_eq_some_iff.mp h
  have n : ¬ (p : Int) = (ws.length : Int) := by omega
  have e : ((p : Int) + 1 - 1) = (p : Int) := by omega
  have a : atI ws (p : Int) = some d := atI_nat h
  simp [m_WordReader_take, fnM_ap, n, e, a]
theorem ended_s {ws : List D} {p : Nat} {d : D} (h : p = ws.length) : m_WordReader_ended [rd ws p, .sh d] = .ok (.sh d) [rd ws p] := by
  subst h
  simp [m_WordReader_ended, fnM_ap]
theorem take_text_abc {l : List Nat} {ws : List D} {p : Nat} (h : Abc l) (h1 : l ≠ []) (hz : l.length ≤ 40) (hw : ws[p]? = some (.str (S l))) : m_take_text [rd ws p] = .ok (.sh (.str (S l))) [rd ws ((p : Int) + 1)] := by
  have e1 : ¬ S l = ("-" : Str) := fun z => by
    have z2 : S l = S [45] := z
    have z3 := SX.S_inj z2
    subst z3
    have := h 45 (by simp)
    omega
  have e2 : ¬ S l = ("" : Str) := fun z => h1 (SX.S_inj (show S l = S [] from z))
  have e3 : pLen [.str (S l)] = some (.sh (.int l.length)) := by rw [len_s (by rw [SX.S_len, sizeLine_eq]; omega), SX.S_len]
  have e4 : ¬ (40 : Int) < (l.length : Int) := by omega
  simp [m_take_text, fnM_ap, take_s hw, e1, e2, e3, e4, is_text_abc h (by omega)]
theorem take_text_dash {ws : List D} {p : Nat} (hw : ws[p]? = some (.str "-")) : m_take_text [rd ws p] = .ok (.sh (.str "")) [rd ws ((p : Int) + 1)] := by
  simp [m_take_text, fnM_ap, take_s hw]
theorem take_text_long {l : List Nat} {ws : List D} {p : Nat} (h : Abc l) (hz : 40 < l.length) (hz2 : l.length ≤ 1000) (hw : ws[p]? = some (.str (S l))) : m_take_text [rd ws p] = .err ⟨16, some p⟩ [rd ws ((p : Int) + 1)] := by
  have e1 : ¬ S l = ("-" : Str) := fun z => by
    have z2 : S l = S [45] := z
    have z3 := SX.S_inj z2
    subst z3
    simp at hz
  have e2 : ¬ S l = ("" : Str) := fun z => by
    have z3 := SX.S_inj (show S l = S [] from z)
    subst z3
    simp at hz
  have e3 : pLen [.str (S l)] = some (.sh (.int l.length)) := by rw [len_s (by rw [SX.S_len, sizeLine_eq]; omega), SX.S_len]
  have e4 : (40 : Int) < (l.length : Int) := by omega
  have e : ((p : Int) + 1 - 1) = (p : Int) := by omega
  simp [m_take_text, fnM_ap, take_s hw, e1, e2, e3, e4, e]
end Gk62
set_option maxRecDepth 100000
set_option maxHeartbeats 2000000
namespace Gk62
open PySem PySem.Spec PyProof.Rows L2 Mi
/-- the draw's state: at most n numbers drawn -/
def Hd (n : Int) (w : W) : Prop := ∃ r s c : Int, w = .ol [.int r, .int s, .int c] ∧ 0 ≤ s ∧ s < 2147483563 ∧ 0 ≤ c ∧ c ≤ n
theorem Hd.mono {n k : Int} {w : W} (h : Hd n w) (l : n ≤ k) : Hd k w := let ⟨r, s, c, e, a, b, d, f⟩ := h; ⟨r, s, c, e, a, b, d, by omega⟩
theorem mul_l {i j : Int} (h : -(2 ^ 64) < i) (h2 : i < 2 ^ 64) : gMul i j = some (i * j) := if_pos (.inl ⟨h, h2⟩)
theorem mul_r {i j : Int} (h : -(2 ^ 64) < j) (h2 : j < 2 ^ 64) : gMul i j = some (i * j) := if_pos (.inr ⟨h, h2⟩)
theorem mod_p {i j : Int} (h : 0 < j) : gMod i j = some (i % j) := if_pos h
theorem fdiv_p {i j : Int} (h : 0 < j) (h2 : j < 1073741824) : gFdiv i j = some (i / j) := if_pos ⟨h, h2⟩
theorem ix30 : ixN 3 0 = some 0 := by decide
theorem ix32 : ixN 3 2 = some 2 := by decide
theorem at0 {α : Type} {a b c : α} : atI [a, b, c] 0 = some a := rfl
theorem at1 {α : Type} {a b c : α} : atI [a, b, c] 1 = some b := rfl
theorem at2 {α : Type} {a b c : α} : atI [a, b, c] 2 = some c := rfl
theorem pick {n k : Int} {w : W} (h : Hd n w) (hn : n < 2 ^ 40) (h0 : 0 < k) (h1 : k < 1073741824) : ∃ v w', m__law_pick [w, .sh (.int k)] = .ok (.sh (.int v)) [w'] ∧ Hd (n + 1) w' ∧ 0 ≤ v ∧ v < k := by
  obtain ⟨r, s, c, rfl, hs0, hs1, hc0, hc1⟩ := h
  by_cases hr : 0 < r
  · refine ⟨r % k, .ol [.int (r / k), .int s, .int c], ?_, ⟨_, _, _, rfl, hs0, hs1, hc0, by omega⟩, Int.emod_nonneg _ (by omega), Int.emod_lt_of_pos _ h0⟩
    simp [m__law_pick, B__law_pick_1, fnM_ap, at0, hr, mod_p h0, fdiv_p h0 h1, ix30]
  · let c' := c + 1
    let m1 := (s * 40014 + c' * (c' + 53) * 16807 + 7) % 2147483647
    let m2 := (m1 * m1 + c' * 69621 + m1) % 2147483399
    let v := ((m2 * 48271 + c') % 2147483629) / 16 % k
    have b1 : 0 ≤ m1 ∧ m1 < 2147483647 := ⟨Int.emod_nonneg _ (by omega), Int.emod_lt_of_pos _ (by omega)⟩
    have b2 : 0 ≤ m2 ∧ m2 < 2147483399 := ⟨Int.emod_nonneg _ (by omega), Int.emod_lt_of_pos _ (by omega)⟩
    have e1 : gMul s 40014 = some (s * 40014) := mul_r (by omega) (by omega)
    have e2 : gMul (c + 1) (c + 1 + 53) = some ((c + 1) * (c + 1 + 53)) := mul_l (by omega) (by omega)
    have e3 : gMul ((c + 1) * (c + 1 + 53)) 16807 = some ((c + 1) * (c + 1 + 53) * 16807) := mul_r (by omega) (by omega)
    have e4 : gMul m1 m1 = some (m1 * m1) := mul_l (by omega) (by omega)
    have e5 : gMul (c + 1) 69621 = some ((c + 1) * 69621) := mul_r (by omega) (by omega)
    have e6 : gMul m2 48271 = some (m2 * 48271) := mul_r (by omega) (by omega)
    have g1 : gMod (s * 40014 + (c + 1) * (c + 1 + 53) * 16807 + 7) 2147483647 = some m1 := mod_p (by omega)
    have g2 : gMod (m1 * m1 + (c + 1) * 69621 + m1) 2147483399 = some m2 := mod_p (by omega)
    have g3 : gMod (m2 * 48271 + (c + 1)) 2147483629 = some ((m2 * 48271 + (c + 1)) % 2147483629) := mod_p (by omega)
    have g4 : gFdiv ((m2 * 48271 + (c + 1)) % 2147483629) 16 = some ((m2 * 48271 + (c + 1)) % 2147483629 / 16) := fdiv_p (by omega) (by omega)
    have g5 : gMod ((m2 * 48271 + (c + 1)) % 2147483629 / 16) k = some v := mod_p h0
    refine ⟨v, .ol [.int r, .int s, .int (c + 1)], ?_, ⟨_, _, _, rfl, hs0, hs1, by omega, by omega⟩, Int.emod_nonneg _ (by omega), Int.emod_lt_of_pos _ h0⟩
    clear_value m1 m2 v
    simp [m__law_pick, B__law_pick_1, fnM_ap, at0, at1, at2, hr, ix32, e1, e2, e3, e4, e5, e6, g1, g2, g3, g4, g5]
theorem hand (x : Int) : ∃ w, m__law_hand [.sh (.int x)] = .ok w [] ∧ Hd 0 w := by
  have p : gPow 10 18 = some (1000000000000000000) := by decide +kernel
  have g : gMod x 2147483563 = some (x % 2147483563) := mod_p (by omega)
  have b1 : 0 ≤ x % 2147483563 := Int.emod_nonneg _ (by omega)
  have b2 : x % 2147483563 < 2147483563 := Int.emod_lt_of_pos _ (by omega)
  by_cases h : 1000000000000000000 ≤ x
  · exact ⟨.ol [.int (x - 1000000000000000000), .int (x % 2147483563), .int 0], by simp [m__law_hand, fnM_ap, p, g, h], ⟨_, _, _, rfl, b1, b2, by omega, by omega⟩⟩
  · exact ⟨.ol [.int 0, .int (x % 2147483563), .int 0], by simp [m__law_hand, fnM_ap, p, g, h], ⟨_, _, _, rfl, b1, b2, by omega, by omega⟩⟩
end Gk62
set_option maxRecDepth 100000
set_option maxHeartbeats 2000000
namespace Gk62
open PySem PySem.Spec PyProof.Rows L2 Mi
abbrev sg (c : Nat) : D := .str (S [c])
theorem ix_abc {v : Int} (h0 : 0 ≤ v) (h1 : v < 3) : ∃ c : Nat, (c = 97 ∨ c = 98 ∨ c = 99) ∧ pIx (.str "abc") (.int v) = some (.sh (sg c)) := by
  have : v = 0 ∨ v = 1 ∨ v = 2 := by omega
  rcases this with rfl | rfl | rfl
  · exact ⟨97, by simp, rfl⟩
  · exact ⟨98, by simp, rfl⟩
  · exact ⟨99, by simp, rfl⟩
noncomputable abbrev txtE : EM := eP2 pIx (eC (.str "abc")) (eCallI m__law_pick [true] (aCons (eV 0) (aCons (eC (.int 3)) aNil)))
theorem text_loop {x : D} : ∀ (ds : List D) (ls : List Nat) (n : Int) (w : W), Abc ls → ls.length + ds.length ≤ 100 → Hd n w → n + ds.length < 2 ^ 40 →
    ∃ (ls' : List Nat) (w' : W), compGo (fun _ => True) (.nm 2) bYes txtE [2] ds (ls.map sg) [w, .sh x, .gone] = .ok (.val (.ol (ls'.map sg))) [w', .sh x, .gone] ∧
      Abc ls' ∧ ls'.length = ls.length + ds.length ∧ Hd (n + ds.length) w'
  | [], ls, n, w, ha, hl, hw, hn => ⟨ls, w, compGo_nil trivial, ha, rfl, by simpa using hw⟩
  | d :: ds, ls, n, w, ha, hl, hw, hn => by
    simp only [List.length_cons] at hl hn
    obtain ⟨v, w1, e1, h1, v0, v1⟩ := pick (k := 3) hw (by omega) (by omega) (by omega)
    obtain ⟨c, hc, ec⟩ := ix_abc v0 v1
    have ha2 : Abc (ls ++ [c]) := fun z hz => by
      rcases List.mem_append.mp hz with hz | hz
      · exact ha z hz
      · rw [List.mem_singleton] at hz
        rw [hz]
        exact hc
    obtain ⟨ls', w', e2, a2, l2, h2⟩ := text_loop (x := x) ds (ls ++ [c]) (n + 1) w1 ha2 (by simp; omega) h1 (by omega)
    refine ⟨ls', w', ?_, a2, by rw [l2]; simp; omega, h2.mono (by simp; omega)⟩
    rw [compGo_cons trivial]
    obtain ⟨r, s, q, rfl, _⟩ := hw
    have hs : (ls.map sg).length < sizeLine := by rw [List.length_map, sizeLine_eq]; omega
    have e3 : (ls ++ [c]).map sg = ls.map sg ++ [sg c] := by simp
    rw [e3] at e2
    have et : txtE [.ol [.int r, .int s, .int q], .sh x, .sh d] = .ok (.val (.sh (sg c))) [w1, .sh x, .sh d] := by simp [txtE, e1, ec]
    have ex : (Tg.nm 2).asg d [.ol [.int r, .int s, .int q], .sh x, .gone] = some [.ol [.int r, .int s, .int q], .sh x, .sh d] := rfl
    rw [ex]
    show (match bYes [.ol [.int r, .int s, .int q], .sh x, .sh d] with
      | .ok true env2 => (match txtE env2 with
        | .ok o env3 => (match sres o env3 with
          | some y => if (ls.map sg).length < sizeLine then compGo (fun _ => True) (.nm 2) bYes txtE [2] ds (ls.map sg ++ [y]) (clr [2] env3) else .stuck
          | none => .stuck)
        | .err x env3 => .err x (clr [2] env3)
        | .stuck => .stuck)
      | .ok false env2 => compGo (fun _ => True) (.nm 2) bYes txtE [2] ds (ls.map sg) (clr [2] env2)
      | _ => .stuck) = _
    have by1 : bYes [.ol [.int r, .int s, .int q], .sh x, .sh d] = .ok true [.ol [.int r, .int s, .int q], .sh x, .sh d] := rfl
    rw [by1]
    simp only [et, sres_sh]
    rw [if_pos hs]
    exact e2
theorem txts_sg : ∀ ls : List Nat, txts (ls.map sg) = some (ls.map fun c => S [c])
  | [] => rfl
  | c :: ls => by
    show (txts (ls.map sg)).map (fun ys => S [c] :: ys) = _
    rw [txts_sg ls]
    rfl
theorem joinL_one : ∀ ls : List Nat, TL.joinL [] (ls.map fun c => [c]) = ls
  | [] => rfl
  | [c] => rfl
  | c :: d :: ls => by
    show [c] ++ ([] ++ TL.joinL [] ((d :: ls).map fun c => [c])) = _
    rw [joinL_one (d :: ls)]
    rfl
theorem join_sg (ls : List Nat) : Txt.join ("" : Str) (ls.map fun c => S [c]) = S ls := by
  have e := SX.join_S [] (ls.map fun c => [c])
  rw [joinL_one, List.map_map] at e
  exact e
theorem sum_one : ∀ ls : List Nat, ((ls.map fun c => S [c]).map (·.length)).sum = ls.length
  | [] => rfl
  | c :: ls => by
    rw [List.map_cons, List.map_cons, List.sum_cons, sum_one ls, List.length_cons]
    show 1 + ls.length = _
    omega
theorem pJoin_sg {ls : List Nat} (h : ls.length ≤ 100) : pJoin [.str "", .lst (ls.map sg)] = some (.sh (.str (S ls))) := by
  show (txts (ls.map sg)).bind (fun ys => if (ys.map (·.length)).sum + ys.length * ("" : Str).length ≤ 16777216 then some (W.sh (.str (Txt.join "" ys))) else none) = _
  rw [txts_sg]
  show (if _ then _ else _) = _
  have z : ("" : Str).length = 0 := rfl
  rw [sum_one, z, join_sg, if_pos (by omega)]
theorem text {n : Int} {w : W} (h : Hd n w) (hn : n < 2 ^ 39) : ∃ l w', m__law_text [w] = .ok (.sh (.str (S l))) [w'] ∧ Hd (n + 20) w' ∧ Abc l ∧ l.length ≤ 12 := by
  obtain ⟨v, w1, e1, h1, v0, v1⟩ := pick (k := 8) h (by omega) (by omega) (by omega)
  -- behind the size
  have rest : ∀ (k : Int) (w2 : W), 0 ≤ k → k < 13 → Hd (n + 2) w2 → ∃ l w', B__law_text_1 [w2, .sh (.int k), .gone] = .ok (.val (.ol (l.map sg))) [w', .sh (.int k), .gone] ∧ Hd (n + 20) w' ∧ Abc l ∧ l.length ≤ 12 := fun k w2 k0 k1 h2 => by
    have lr : (rngD 0 k.toNat).length = k.toNat := by simp [rngD]
    obtain ⟨l, w', e, a, hl, hh⟩ := text_loop (x := .int k) (rngD 0 k.toNat) [] (n + 2) w2 (fun c hc => by cases hc) (by rw [lr]; simp; omega) h2 (by rw [lr]; omega)
    refine ⟨l, w', ?_, hh.mono (by rw [lr]; omega), a, by rw [hl, lr]; simp; omega⟩
    unfold B__law_text_1 eLcR
    have c1 : -(2 ^ 62) ≤ k ∧ k < 2 ^ 62 := ⟨by omega, by omega⟩
    obtain ⟨r, s, q, rfl, _⟩ := h2
    simp only [eV_ap, List.getElem?_cons_succ, List.getElem?_cons_zero, bind_ok, res_slot, Option.bind, fz_sh, if_pos c1]
    exact e
  by_cases h7 : v = 7
  · obtain ⟨k, w2, e2, h2, k0, k1⟩ := pick (k := 13) h1 (by omega) (by omega) (by omega)
    obtain ⟨l, w', e3, h3, a, hl⟩ := rest k w2 k0 k1 (h2.mono (by omega))
    refine ⟨l, w', ?_, h3, a, hl⟩
    subst h7
    obtain ⟨r, s, q, rfl, _⟩ := h
    obtain ⟨r1, s1, q1, rfl, _⟩ := h1
    obtain ⟨r2, s2, q2, rfl, _⟩ := h2
    simp [m__law_text, fnM_ap, List.replicate, e1, e2, e3, pJoin_sg (show l.length ≤ 100 by omega)]
  · obtain ⟨l, w', e3, h3, a, hl⟩ := rest v w1 v0 (by omega) (h1.mono (by omega))
    refine ⟨l, w', ?_, h3, a, hl⟩
    obtain ⟨r, s, q, rfl, _⟩ := h
    obtain ⟨r1, s1, q1, rfl, _⟩ := h1
    simp [m__law_text, fnM_ap, List.replicate, e1, e3, h7, pJoin_sg (show l.length ≤ 100 by omega)]
end Gk62
set_option maxRecDepth 100000
set_option maxHeartbeats 2000000
namespace Gk62
open PySem PySem.Spec PyProof.Rows L2 Mi
/-! filters -/
inductive Fl where
  | non | say (b : Bool) | leaf (w : Nat) (t : List Nat) | amg (ts : List (List Nat)) | neg (f : Fl) | grp (c : Bool) (fs : List Fl)
def leafW : Nat → Str
  | 0 => "is" | 1 => "below" | 2 => "above" | _ => "begins"
def grpW : Bool → Str
  | true => "and" | false => "or"
mutual
def dD : Fl → D
  | .non => .tup [.str "none"]
  | .say b => .tup [.str "say", .bl b]
  | .leaf w t => .tup [.str (leafW w), .str (S t)]
  | .amg ts => .tup [.str "among", .tup (ts.map fun t => .str (S t))]
  | .neg f => .tup [.str "not", dD f]
  | .grp c fs => .tup [.str (grpW c), .tup (dDs fs)]
def dDs : List Fl → List D
  | [] => []
  | f :: fs => dD f :: dDs fs
end
theorem dDs_map : ∀ fs : List Fl, dDs fs = fs.map dD
  | [] => by rw [dDs]; rfl
  | f :: fs => by rw [dDs, dDs_map fs]; rfl
/-- the word of a text -/
def tw (t : List Nat) : Str := if S t = "" then "-" else S t
/-- the word of a number -/
def nstr (n : Nat) : Str := Str.ofString (toString (n : Int))
mutual
def wds : Fl → List Str
  | .non => ["none"]
  | .say b => ["say", if b = true then "yes" else "no"]
  | .leaf w t => [leafW w, tw t]
  | .amg ts => ([("among" : Str), nstr ts.length] : List Str) ++ ts.map tw
  | .neg f => ([("not" : Str)] : List Str) ++ wds f
  | .grp c fs => [grpW c, nstr fs.length] ++ wdss fs
def wdss : List Fl → List Str
  | [] => []
  | f :: fs => wds f ++ wdss fs
end
theorem wdss_flat : ∀ fs : List Fl, wdss fs = (fs.map wds).flatten
  | [] => by rw [wdss]; rfl
  | f :: fs => by rw [wdss, wdss_flat fs]; rfl
/-- of at most n levels, texts of at most mt letters, at most mg parts -/
def Okf (mt mg : Nat) : Nat → Fl → Prop
  | 0, _ => False
  | _ + 1, .non => True
  | _ + 1, .say _ => True
  | _ + 1, .leaf w t => w < 4 ∧ Abc t ∧ t.length ≤ mt
  | _ + 1, .amg ts => ts.length ≤ mg ∧ ∀ t ∈ ts, Abc t ∧ t.length ≤ mt
  | n + 1, .neg f => Okf mt mg n f
  | n + 1, .grp _ fs => fs.length ≤ mg ∧ ∀ f ∈ fs, Okf mt mg n f
theorem Okf.mono {mt mg : Nat} : ∀ {n : Nat} {f : Fl}, Okf mt mg n f → ∀ {k : Nat}, n ≤ k → Okf mt mg k f
  | 0, f, h, k, _ => by cases f <;> exact absurd h (by simp [Okf])
  | n + 1, f, h, k, hk => by
    obtain ⟨k, rfl⟩ : ∃ j, k = j + 1 := ⟨k - 1, by omega⟩
    cases f with
    | non => trivial
    | say b => trivial
    | leaf w t => exact h
    | amg ts => exact h
    | neg f => exact Okf.mono (n := n) (f := f) h (by omega)
    | grp c fs => exact ⟨h.1, fun f hf => Okf.mono (h.2 f hf) (by omega)⟩
theorem leaf_cases {w : Nat} (h : w < 4) : w = 0 ∨ w = 1 ∨ w = 2 ∨ w = 3 := by omega
end Gk62
set_option maxRecDepth 100000
set_option maxHeartbeats 4000000
namespace Gk62
open PySem PySem.Spec PyProof.Rows L2 Mi
/-! words changed at random: any words, of bounded lengths -/
def enc (ws : List Str) : List D := ws.map .str
theorem enc_len (ws : List Str) : (enc ws).length = ws.length := List.length_map ..
theorem enc_app (a b : List Str) : enc (a ++ b) = enc a ++ enc b := List.map_append ..
theorem enc_get {ws : List Str} {i : Nat} {w : Str} (h : ws[i]? = some w) : (enc ws)[i]? = some (.str w) := by
  unfold enc
  rw [List.getElem?_map, h]
  rfl
/-- rows of words, texts, of bounded lengths -/
def Wb (M L : Nat) (ws : List Str) : Prop := ws.length ≤ L ∧ ∀ w ∈ ws, w.length ≤ M
theorem ix_str {z : Str} {i : Int} (hz : z.length ≤ 10000) (h0 : 0 ≤ i) (h1 : i < z.length) : ∃ c, pIx (.str z) (.int i) = some (.sh (.str ⟨#[c]⟩)) := by
  obtain ⟨k, rfl⟩ : ∃ k : Nat, i = k := ⟨i.toNat, by omega⟩
  have hk : k < z.cps.toList.length := by
    have : z.length = z.cps.toList.length := by simp [Str.length]
    omega
  refine ⟨z.cps.toList[k], ?_⟩
  show (if z.length ≤ sizeLine then (atI z.cps.toList (k : Int)).map (fun c => W.sh (.str ⟨#[c]⟩)) else none) = _
  rw [if_pos (by rw [sizeLine_eq]; omega), atI_nat (List.getElem?_eq_getElem hk)]
  rfl
theorem cutD_map {α β : Type} (f : α → β) (xs : List α) (lo hi : Option Int) : cutD (xs.map f) lo hi = (cutD xs lo hi).map f := by
  unfold Mi.cutD
  simp
theorem cutD_len {α : Type} (xs : List α) (lo hi : Option Int) : (cutD xs lo hi).length ≤ xs.length := by
  unfold Mi.cutD
  simp
  omega
theorem cutD_mem {α : Type} {xs : List α} {lo hi : Option Int} {x : α} (h : x ∈ cutD xs lo hi) : x ∈ xs := List.mem_of_mem_drop (List.mem_of_mem_take h)
theorem Wb.cut {M L : Nat} {ws : List Str} (h : Wb M L ws) (lo hi : Option Int) : Wb M L (cutD ws lo hi) := ⟨Nat.le_trans (cutD_len _ _ _) h.1, fun w hw => h.2 w (cutD_mem hw)⟩
theorem Wb.app {M L K : Nat} {ws us : List Str} (h : Wb M L ws) (g : Wb M K us) : Wb M (L + K) (ws ++ us) := ⟨by rw [List.length_append]; have := h.1; have := g.1; omega, fun w hw => (List.mem_append.mp hw).elim (h.2 w) (g.2 w)⟩
theorem Wb.mono {M L M' L' : Nat} {ws : List Str} (h : Wb M L ws) (a : M ≤ M') (b : L ≤ L') : Wb M' L' ws := ⟨by have := h.1; omega, fun w hw => by have := h.2 w hw; omega⟩
theorem Wb.one {M : Nat} {w : Str} (h : w.length ≤ M) : Wb M 1 [w] := ⟨by simp, fun x hx => by rw [List.mem_singleton] at hx; rw [hx]; exact h⟩
theorem Wb.rev {M L : Nat} {ws : List Str} (h : Wb M L ws) : Wb M L ws.reverse := ⟨by rw [List.length_reverse]; exact h.1, fun w hw => h.2 w (List.mem_reverse.mp hw)⟩
theorem sl_lst (ws : List Str) (lo hi : Option Int) : pSl (.lst (enc ws)) (oI lo) (oI hi) = some (.ol (enc (cutD ws lo hi))) := by
  show (oI' (oI lo)).bind (fun a => (oI' (oI hi)).map fun b => W.ol (cutD (enc ws) a b)) = _
  rw [oI_oI, oI_oI]
  show some (W.ol (cutD (enc ws) lo hi)) = _
  unfold enc
  rw [cutD_map]
theorem sl_li (ws : List Str) (i : Int) : pSl (.lst (enc ws)) .non (.int i) = some (.ol (enc (cutD ws none (some i)))) := sl_lst ws none (some i)
theorem sl_il (ws : List Str) (i : Int) : pSl (.lst (enc ws)) (.int i) .non = some (.ol (enc (cutD ws (some i) none))) := sl_lst ws (some i) none
theorem sl_ii (ws : List Str) (i j : Int) : pSl (.lst (enc ws)) (.int i) (.int j) = some (.ol (enc (cutD ws (some i) (some j)))) := sl_lst ws (some i) (some j)
theorem sl_str {z : Str} (hz : z.length ≤ 1000000) (lo hi : Option Int) : ∃ y, pSl (.str z) (oI lo) (oI hi) = some (.sh (.str y)) ∧ y.length ≤ z.length := by
  refine ⟨Txt.slice z lo hi, ?_, Txt.slice_le _ _ _⟩
  show (oI' (oI lo)).bind (fun a => (oI' (oI hi)).bind fun b => if z.length ≤ sizeLine then some (W.sh (.str (Txt.slice z a b))) else none) = _
  rw [oI_oI, oI_oI]
  show (if z.length ≤ sizeLine then some (W.sh (.str (Txt.slice z lo hi))) else none) = _
  rw [if_pos (by rw [sizeLine_eq]; omega)]
theorem add_enc {a b : List Str} (h : a.length + b.length ≤ 1000000) : pAdd (.lst (enc a)) (.lst (enc b)) = some (.ol (enc (a ++ b))) := by
  show (if (enc a).length + (enc b).length ≤ sizeLine then some (W.ol (enc a ++ enc b)) else none) = _
  rw [if_pos (by rw [enc_len, enc_len, sizeLine_eq]; omega), enc_app]
theorem cat_len (a b : Str) : (a ++ b).length = a.length + b.length := by
  show (a.cps ++ b.cps).size = _
  simp [Str.length]
theorem add_str2 {a b : Str} (h : a.length + b.length ≤ 1000000) : pAdd (.str a) (.str b) = some (.sh (.str (a ++ b))) := by
  show (if a.length + b.length ≤ sizeLine then some (W.sh (.str (a ++ b))) else none) = _
  rw [if_pos (by rw [sizeLine_eq]; omega)]
def signsA : Str := " !\"#$&'()*+,-./0123456789:;<=>?@ABCDEFGHIJKLMNOPQRSTUVWXYZ[\\]^_"
def signsB : Str := "`abcdefghijklmnopqrstuvwxyz{|}~\n"
theorem signs_len : (signsA ++ signsB).length ≤ 200 ∧ 1 ≤ (signsA ++ signsB).length := by decide +kernel
noncomputable abbrev eSg : EM := eP2 pIx (eV 1) (eCallI m__law_pick [true] (aCons (eV 0) (aCons (ePrim pLen (aCons (eV 1) aNil)) aNil)))
theorem sg_loop {z : Str} (hz : z.length ≤ 200) (h1 : 1 ≤ z.length) : ∀ (ds : List D) (cs : List Str) (n : Int) (w : W), (∀ c ∈ cs, c.length = 1) → cs.length + ds.length ≤ 100 → Hd n w → n + ds.length < 2 ^ 40 →
    ∃ (cs' : List Str) (w' : W), compGo (fun _ => True) (.nm 2) bYes eSg [2] ds (enc cs) [w, .sh (.str z), .gone] = .ok (.val (.ol (enc cs'))) [w', .sh (.str z), .gone] ∧ (∀ c ∈ cs', c.length = 1) ∧ cs'.length = cs.length + ds.length ∧ Hd (n + ds.length) w'
  | [], cs, n, w, hc, hl, hw, hn => ⟨cs, w, compGo_nil trivial, hc, rfl, by simpa using hw⟩
  | d :: ds, cs, n, w, hc, hl, hw, hn => by
    simp only [List.length_cons] at hl hn
    obtain ⟨v, w1, e1, hd1, v0, v1⟩ := pick (k := (z.length : Int)) hw (by omega) (by omega) (by omega)
    obtain ⟨c, ec⟩ := ix_str (z := z) (by omega) v0 v1
    obtain ⟨cs', w', e2, a2, l2, h2⟩ := sg_loop hz h1 ds (cs ++ [⟨#[c]⟩]) (n + 1) w1 (fun x hx => by
      rcases List.mem_append.mp hx with hx | hx
      · exact hc x hx
      · rw [List.mem_singleton] at hx
        rw [hx]
        rfl) (by simp; omega) hd1 (by omega)
    refine ⟨cs', w', ?_, a2, by rw [l2]; simp; omega, h2.mono (by simp; omega)⟩
    have el : pLen [.str z] = some (.sh (.int (z.length : Int))) := len_s (by rw [sizeLine_eq]; omega)
    obtain ⟨r, s, q, rfl, _⟩ := hw
    have et : eSg [.ol [.int r, .int s, .int q], .sh (.str z), .sh d] = .ok (.val (.sh (.str ⟨#[c]⟩))) [w1, .sh (.str z), .sh d] := by simp [eSg, el, e1, ec]
    rw [compGo_cons trivial, asg_nm]
    show (match eSg [.ol [.int r, .int s, .int q], .sh (.str z), .sh d] with
      | .ok o env3 => (match sres o env3 with
        | some y => if (enc cs).length < sizeLine then compGo (fun _ => True) (.nm 2) bYes eSg [2] ds (enc cs ++ [y]) (clr [2] env3) else .stuck
        | none => .stuck)
      | .err x env3 => .err x (clr [2] env3)
      | .stuck => .stuck) = _
    rw [et]
    simp only [sres_sh]
    rw [if_pos (by rw [enc_len, sizeLine_eq]; omega)]
    have e3 : enc cs ++ [D.str ⟨#[c]⟩] = enc (cs ++ [⟨#[c]⟩]) := (enc_app cs [⟨#[c]⟩]).symm
    rw [e3]
    exact e2
theorem txts_enc : ∀ ys : List Str, txts (enc ys) = some ys
  | [] => rfl
  | y :: ys => by
    show (txts (enc ys)).map (fun zs => y :: zs) = _
    rw [txts_enc ys]
    rfl
theorem joinL_nil : ∀ ls : List (List Nat), (TL.joinL [] ls).length = (ls.map (·.length)).sum
  | [] => rfl
  | [l] => by simp [TL.joinL]
  | l :: m :: r => by
    have := joinL_nil (m :: r)
    rw [TL.joinL]
    simp only [List.length_append, List.length_nil, List.map_cons, List.sum_cons] at this ⊢
    omega
theorem S_cps' (x : Str) : S x.cps.toList = x := by simp [S, SX.S]
theorem join0_len (ws : List Str) : (Txt.join ("" : Str) ws).length = (ws.map (·.length)).sum := by
  have e0 : ws = (ws.map fun w => w.cps.toList).map S := by
    rw [List.map_map]
    conv => lhs; rw [← List.map_id ws]
    exact List.map_congr_left fun w _ => (S_cps' w).symm
  have e1 : Txt.join ("" : Str) ws = S (TL.joinL [] (ws.map fun w => w.cps.toList)) := by
    conv => lhs; rw [e0]
    exact SX.join_S [] _
  rw [e1, SX.S_len, joinL_nil, List.map_map]
  congr 1
theorem sum_ones : ∀ {cs : List Str}, (∀ c ∈ cs, c.length = 1) → (cs.map (·.length)).sum = cs.length
  | [], _ => rfl
  | c :: cs, h => by
    rw [List.map_cons, List.sum_cons, h c List.mem_cons_self, sum_ones fun x hx => h x (List.mem_cons_of_mem _ hx), List.length_cons]
    omega
theorem strange {n : Int} {w : W} (h : Hd n w) (hn : n < 2 ^ 39) : ∃ x w', m__law_strange [w] = .ok (.sh (.str x)) [w'] ∧ Hd (n + 20) w' ∧ x.length ≤ 8 := by
  obtain ⟨sl1, sl2⟩ := signs_len
  obtain ⟨v, w1, e1, hd1, v0, v1⟩ := pick (k := 8) h (by omega) (by omega) (by omega)
  obtain ⟨cs, w', e2, a2, l2, h2⟩ := sg_loop sl1 sl2 (rngD 0 (1 + v).toNat) [] (n + 1) w1 (fun c hc => by cases hc) (by rw [rngD_len]; simp; omega) hd1 (by rw [rngD_len]; omega)
  rw [rngD_len] at l2 h2
  have en : enc [] = [] := rfl
  rw [en] at e2
  have sm := sum_ones a2
  have eb : B__law_strange_1 [w, .sh (.str (signsA ++ signsB)), .gone] = .ok (.val (.ol (enc cs))) [w', .sh (.str (signsA ++ signsB)), .gone] := by
    unfold B__law_strange_1
    obtain ⟨r, s, q, rfl, _⟩ := h
    have z := eLcR_eqI (e := eP2 pAdd (eC (.int 1)) (eCallI m__law_pick [true] (aCons (eV 0) (aCons (eC (.int 8)) aNil)))) (m := eSg) (t := .nm 2) (vs := [2]) (z := 1 + v) (o := .val (.sh (.int (1 + v)))) (env := [.ol [.int r, .int s, .int q], .sh (.str (signsA ++ signsB)), .gone]) (env1 := [w1, .sh (.str (signsA ++ signsB)), .gone]) (by simp [e1]) rfl (by omega) (by omega)
    exact z.trans e2
  have pj : pJoin [.str "", .lst (enc cs)] = some (.sh (.str (Txt.join "" cs))) := by
    show (txts (enc cs)).bind (fun ys => if (ys.map (·.length)).sum + ys.length * ("" : Str).length ≤ 16777216 then some (W.sh (.str (Txt.join "" ys))) else none) = _
    rw [txts_enc]
    show (if _ then _ else _) = _
    have z0 : ("" : Str).length = 0 := rfl
    rw [if_pos (by rw [z0]; simp at l2; omega)]
  have ad : pAdd (.str signsA) (.str signsB) = some (.sh (.str (signsA ++ signsB))) := by
    refine add_str2 ?_
    have := cat_len signsA signsB
    omega
  refine ⟨Txt.join "" cs, w', ?_, h2.mono (by omega), by rw [join0_len, sm]; simp at l2; omega⟩
  obtain ⟨r, s, q, rfl, _⟩ := h
  have ad' : pAdd (.str " !\"#$&'()*+,-./0123456789:;<=>?@ABCDEFGHIJKLMNOPQRSTUVWXYZ[\\]^_") (.str "`abcdefghijklmnopqrstuvwxyz{|}~\n") = some (.sh (.str (signsA ++ signsB))) := ad
  simp [m__law_strange, fnM_ap, List.replicate, ad', eb, pj]
end Gk62
set_option maxRecDepth 100000
set_option maxHeartbeats 4000000
namespace Gk62
open PySem PySem.Spec PyProof.Rows L2 Mi
theorem st_to {z : Str} (hz : z.length ≤ 100000) (i : Int) : ∃ y, pSl (.str z) .non (.int i) = some (.sh (.str y)) ∧ y.length ≤ z.length := sl_str (by omega) none (some i)
theorem st_from {z : Str} (hz : z.length ≤ 100000) (i : Int) : ∃ y, pSl (.str z) (.int i) .non = some (.sh (.str y)) ∧ y.length ≤ z.length := sl_str (by omega) (some i) none
theorem st_mid {z : Str} (hz : z.length ≤ 100000) (i j : Int) : ∃ y, pSl (.str z) (.int i) (.int j) = some (.sh (.str y)) ∧ y.length ≤ z.length := sl_str (by omega) (some i) (some j)
theorem st_to2 {z : Str} (hz : z.length ≤ 100000) {i : Int} (h : 0 ≤ i) : ∃ y, pSl (.str z) .non (.int i) = some (.sh (.str y)) ∧ y.length ≤ i.toNat ∧ y.length ≤ z.length := by
  refine ⟨Txt.slice z none (some i), ?_, ?_, Txt.slice_le _ _ _⟩
  · show (if z.length ≤ sizeLine then some (W.sh (.str (Txt.slice z none (some i)))) else none) = _
    rw [if_pos (by rw [sizeLine_eq]; omega)]
  · have e := SX.slice_to (a := z.cps.toList) h
    have e0 : SX.S z.cps.toList = z := S_cps' z
    rw [e0] at e
    rw [e, SX.S_len, List.length_take]
    omega
theorem st_from2 {z : Str} (hz : z.length ≤ 100000) {i : Int} (h : 0 ≤ i) : ∃ y, pSl (.str z) (.int i) .non = some (.sh (.str y)) ∧ y.length ≤ z.length - i.toNat := by
  refine ⟨Txt.slice z (some i) none, ?_, ?_⟩
  · show (if z.length ≤ sizeLine then some (W.sh (.str (Txt.slice z (some i) none))) else none) = _
    rw [if_pos (by rw [sizeLine_eq]; omega)]
  · have e := SX.slice_from (a := z.cps.toList) h
    have e0 : SX.S z.cps.toList = z := S_cps' z
    rw [e0] at e
    rw [e, SX.S_len, List.length_drop]
    simp [Str.length]
theorem bent {n : Int} {w : W} {y : Str} (h : Hd n w) (hn : n < 2 ^ 38) (hy : y.length ≤ 10000) : ∃ x w', m__law_bent_word [w, .sh (.str y)] = .ok (.sh (.str x)) [w'] ∧ Hd (n + 40) w' ∧ x.length ≤ 2 * y.length + 8 := by
  obtain ⟨v, w1, e1, hd1, v0, v1⟩ := pick (k := 4) h (by omega) (by omega) (by omega)
  obtain ⟨u, w2, e2, hd2, u0, u1⟩ := pick (k := (y.length : Int) + 1) hd1 (by omega) (by omega) (by omega)
  obtain ⟨x, w3, e3, hd3, lx⟩ := strange hd2 (by omega)
  have el : pLen [.str y] = some (.sh (.int (y.length : Int))) := len_s (by rw [sizeLine_eq]; omega)
  obtain ⟨a1, s1, t1, t1'⟩ := st_to2 (z := y) (by omega) u0
  obtain ⟨a2, s2, t2⟩ := st_from2 (z := y) (by omega) (show 0 ≤ u + v by omega)
  obtain ⟨a3, s3, t3⟩ := st_from2 (z := y) (by omega) (show 0 ≤ u + 1 by omega)
  obtain ⟨a4, s4, t4⟩ := st_mid (z := y) (by omega) u (u + 1)
  obtain ⟨a5, s5, t5⟩ := st_from2 (z := y) (by omega) u0
  obtain ⟨a6, s6, t6⟩ := st_to (z := x) (by omega) 1
  have c1 := cat_len a1 a6
  have c2 := cat_len (a1 ++ a6) a2
  have c3 := cat_len a1 a3
  have c4 := cat_len a1 a4
  have c5 := cat_len (a1 ++ a4) a5
  have p1 : pAdd (.str a1) (.str a6) = some (.sh (.str (a1 ++ a6))) := add_str2 (by omega)
  have p2 : pAdd (.str (a1 ++ a6)) (.str a2) = some (.sh (.str (a1 ++ a6 ++ a2))) := add_str2 (by omega)
  have p3 : pAdd (.str a1) (.str a3) = some (.sh (.str (a1 ++ a3))) := add_str2 (by omega)
  have p4 : pAdd (.str a1) (.str a4) = some (.sh (.str (a1 ++ a4))) := add_str2 (by omega)
  have p5 : pAdd (.str (a1 ++ a4)) (.str a5) = some (.sh (.str (a1 ++ a4 ++ a5))) := add_str2 (by omega)
  obtain ⟨r, s, q, rfl, _⟩ := h
  obtain ⟨r1, s1', q1, rfl, _⟩ := hd1
  obtain ⟨r2, s2', q2, rfl, _⟩ := id hd2
  by_cases c : v < 2
  · exact ⟨a1 ++ a6 ++ a2, w3, by simp [m__law_bent_word, fnM_ap, List.replicate, e1, el, e2, c, s1, e3, s6, s2, p1, p2], hd3.mono (by omega), by omega⟩
  · by_cases d : v = 2
    · exact ⟨a1 ++ a3, _, by simp [m__law_bent_word, fnM_ap, List.replicate, e1, el, e2, c, d, s1, s3, p3], hd2.mono (by omega), by omega⟩
    · exact ⟨a1 ++ a4 ++ a5, _, by simp [m__law_bent_word, fnM_ap, List.replicate, e1, el, e2, c, d, s1, s4, s5, p4, p5], hd2.mono (by omega), by omega⟩
theorem Wb.of {M K L : Nat} {ws : List Str} (h : Wb M K ws) (l : ws.length ≤ L) : Wb M L ws := ⟨l, h.2⟩
theorem sIx_pos {n d : Nat} {i : Int} (h : 0 ≤ i) : HT.sIx n d (some i) = min i.toNat n := by
  show (if i < 0 then (i + (n : Int)).toNat else min i.toNat n) = _
  rw [if_neg (by omega)]
theorem cut_to {ws : List Str} {u : Int} (h : 0 ≤ u) : (cutD ws none (some u)).length ≤ u.toNat := by
  unfold Mi.cutD
  rw [sIx_pos h, List.length_take]
  show min (min u.toNat ws.length - 0) _ ≤ _
  omega
theorem cut_from {ws : List Str} {i : Int} (h : 0 ≤ i) : (cutD ws (some i) none).length ≤ ws.length - i.toNat := by
  unfold Mi.cutD
  rw [sIx_pos h, List.length_take, List.length_drop]
  omega
theorem cut_mid {ws : List Str} {u : Int} (h : 0 ≤ u) (k : Nat) : (cutD ws (some u) (some (u + k))).length ≤ k := by
  unfold Mi.cutD
  rw [sIx_pos h, sIx_pos (show 0 ≤ u + (k : Int) by omega), List.length_take, List.length_drop]
  omega
theorem cut_mid2 {ws : List Str} {u : Int} (h : 0 ≤ u) (j : Option Int) : (cutD ws (some u) j).length ≤ ws.length - u.toNat := by
  unfold Mi.cutD
  rw [sIx_pos h, List.length_take, List.length_drop]
  omega
theorem changed {n : Int} {w : W} {ws odd : List Str} {M L : Nat} (h : Hd n w) (hn : n < 2 ^ 37) (hw : Wb M L ws) (ho : Wb M 200 odd) (h1 : odd ≠ []) (hM : 8 ≤ M) (hM2 : M ≤ 10000) (hL : L ≤ 10000) :
    ∃ ws' w', m__law_changed [w, .sh (.lst (enc ws)), .ol (enc odd)] = .ok (.ol (enc ws')) [w'] ∧ Hd (n + 100) w' ∧ Wb (2 * M + 8) (L + 1) ws' := by
  obtain ⟨v, w1, e1, hd1, v0, v1⟩ := pick (k := 9) h (by omega) (by omega) (by omega)
  obtain ⟨u, w2, e2, hd2, u0, u1⟩ := pick (k := (ws.length : Int) + 1) hd1 (by omega) (by omega) (by have := hw.1; omega)
  have l0 := hw.1
  have lo : 0 < odd.length := List.length_pos_iff.mpr h1
  have lo2 := ho.1
  obtain ⟨t, w3, e3, hd3, t0, t1⟩ := pick (k := 6) hd2 (by omega) (by omega) (by omega)
  obtain ⟨x, w4, e4, hd4, lx⟩ := strange hd3 (by omega)
  obtain ⟨j, w5, e5, hd5, j0, j1⟩ := pick (k := (odd.length : Int)) hd3 (by omega) (by omega) (by omega)
  have ej : ∃ y, atI (enc odd) j = some (.str y) ∧ y.length ≤ M := by
    obtain ⟨k, rfl⟩ : ∃ k : Nat, j = k := ⟨j.toNat, by omega⟩
    have hk : k < odd.length := by omega
    exact ⟨odd[k], atI_nat (enc_get (List.getElem?_eq_getElem hk)), ho.2 _ (List.getElem_mem hk)⟩
  obtain ⟨y, ey, ly⟩ := ej
  have le := enc_len ws
  have le2 := enc_len odd
  have q1 := sl_li ws u
  have b1 := hw.cut none (some u)
  have q2 : ∀ i, pSl (.lst (enc ws)) (.int i) .non = some (.ol (enc (cutD ws (some i) none))) := sl_il ws
  have b2 : ∀ i, Wb M L (cutD ws (some i) none) := fun i => hw.cut (some i) none
  have q3 := sl_ii ws u (u + 1)
  have b3 := hw.cut (some u) (some (u + 1))
  have q4 := sl_ii ws u (u + 2)
  have b4 := hw.cut (some u) (some (u + 2))
  -- the pieces' lengths
  have l1 := cut_to (ws := ws) u0
  have l2 : ∀ {i : Int}, 0 ≤ i → (cutD ws (some i) none).length ≤ ws.length - i.toNat := fun h => cut_from h
  have l3 : (cutD ws (some u) (some (u + 1))).length ≤ 1 := cut_mid u0 1
  have l4 : (cutD ws (some u) (some (u + 2))).length ≤ 2 := cut_mid u0 2
  have l5 := cut_mid2 (ws := ws) u0 (some (u + 2))
  have put : ∀ (z : Str) (i : Int), z.length ≤ M → u ≤ i → pAdd (.lst (enc (cutD ws none (some u)))) (.lst [.str z]) = some (.ol (enc (cutD ws none (some u) ++ [z]))) ∧
      pAdd (.lst (enc (cutD ws none (some u) ++ [z]))) (.lst (enc (cutD ws (some i) none))) = some (.ol (enc (cutD ws none (some u) ++ [z] ++ cutD ws (some i) none))) ∧ Wb M (L + 1) (cutD ws none (some u) ++ [z] ++ cutD ws (some i) none) := fun z i hz hi => by
    have c2 := (b2 i).1
    have c1 := b1.1
    refine ⟨add_enc (a := cutD ws none (some u)) (b := [z]) (by simp only [List.length_singleton]; omega), add_enc (by rw [List.length_append, List.length_singleton]; omega), ?_⟩
    have c3 := l2 (i := i) (by omega)
    exact ((b1.app (.one hz)).app (b2 i)).of (by rw [List.length_append, List.length_append, List.length_singleton]; omega)
  have two : ∀ (a b : List Str), Wb M L a → Wb M L b → pAdd (.lst (enc a)) (.lst (enc b)) = some (.ol (enc (a ++ b))) := fun a b ha hb => add_enc (by have := ha.1; have := hb.1; omega)
  obtain ⟨r, s, q, rfl, _⟩ := h
  obtain ⟨r1, s1', q1', rfl, _⟩ := hd1
  obtain ⟨r2, s2', q2', rfl, _⟩ := id hd2
  by_cases c : v < 3 ∨ (6 < v ∧ u = ws.length)
  · have hc : ∀ b : W, (∃ ws' w', B__law_changed_1 [.ol [.int r2, .int s2', .int q2'], .sh (.lst (enc ws)), .ol (enc odd), .sh (.int v), .sh (.int u), .gone] = .ok (.rt (.ol (enc ws'))) [w', .sh (.lst (enc ws)), .ol (enc odd), .sh (.int v), .sh (.int u), b] ∧ Hd (n + 100) w' ∧ Wb (2 * M + 8) (L + 1) ws') →
        ∃ ws' w', m__law_changed [.ol [.int r, .int s, .int q], .sh (.lst (enc ws)), .ol (enc odd)] = .ok (.ol (enc ws')) [w'] ∧ Hd (n + 100) w' ∧ Wb (2 * M + 8) (L + 1) ws' := fun b ⟨ws', w', eb, hh, hb⟩ => by
      refine ⟨ws', w', ?_, hh, hb⟩
      rcases c with c | ⟨c, c'⟩
      · simp [m__law_changed, fnM_ap, List.replicate, e1, le, e2, c, eb]
      · have c3 : ¬ v < 3 := by omega
        subst c'
        simp [m__law_changed, fnM_ap, List.replicate, e1, le, e2, c, c3, eb]
    obtain ⟨r3, s3, q3', rfl, _⟩ := id hd3
    by_cases c2 : t = 0
    · subst c2
      obtain ⟨z1, z2, z3⟩ := put x (u + (if v = 2 then 1 else 0)) (by omega) (by split <;> omega)
      refine hc (.ol [.str x]) ⟨_, w4, ?_, hd4.mono (by omega), z3.mono (by omega) (by omega)⟩
      by_cases c4 : v = 2
      · subst c4
        simp only [if_true] at z1 z2
        simp [B__law_changed_1, e3, e4, q1, q2, z1, z2, pInt]
      · simp only [if_neg c4, Int.add_zero] at z1 z2
        simp [B__law_changed_1, e3, e4, q1, q2, z1, z2, pInt, c4]
    · obtain ⟨z1, z2, z3⟩ := put y (u + (if v = 2 then 1 else 0)) ly (by split <;> omega)
      refine hc (.ol [.str y]) ⟨_, w5, ?_, hd5.mono (by omega), z3.mono (by omega) (by omega)⟩
      by_cases c4 : v = 2
      · subst c4
        simp only [if_true] at z1 z2
        simp [B__law_changed_1, e3, c2, le2, e5, ey, q1, q2, z1, z2, pInt]
      · simp only [if_neg c4, Int.add_zero] at z1 z2
        simp [B__law_changed_1, e3, c2, le2, e5, ey, q1, q2, z1, z2, pInt, c4]
  · have c1 : ¬ v < 3 := fun z => c (.inl z)
    have k1 : ¬ (6 < v ∧ u = (ws.length : Int)) := fun z => c (.inr z)
    have m2 : ∀ {a : List Str} {K : Nat}, Wb M K a → a.length ≤ L + 1 → Wb (2 * M + 8) (L + 1) a := fun h l => (h.of l).mono (by omega) (Nat.le_refl _)
    have f0 := l2 (i := u) (by omega)
    have f1 := l2 (i := u + 1) (by omega)
    have f2 := l2 (i := u + 2) (by omega)
    have hd2' : Hd (n + 100) (.ol [.int r2, .int s2', .int q2']) := hd2.mono (by omega)
    by_cases c3 : v = 3
    · subst c3
      refine ⟨_, _, ?_, hd2', m2 (b1.app (b2 (u + 1))) (by rw [List.length_append]; omega)⟩
      simp [m__law_changed, fnM_ap, List.replicate, e1, le, e2, q1, q2, two _ _ b1 (b2 (u + 1))]
    · by_cases c4 : v = 4
      · subst c4
        have z := add_enc (a := cutD ws none (some u) ++ cutD ws (some u) (some (u + 1))) (b := cutD ws (some u) none) (by rw [List.length_append]; have := b1.1; have := b3.1; have := (b2 u).1; omega)
        exact ⟨cutD ws none (some u) ++ cutD ws (some u) (some (u + 1)) ++ cutD ws (some u) none, _, by simp [m__law_changed, fnM_ap, List.replicate, e1, le, e2, q1, q2, q3, two _ _ b1 b3, z], hd2', m2 ((b1.app b3).app (b2 u)) (by rw [List.length_append, List.length_append]; omega)⟩
      · by_cases c5 : v = 5
        · subst c5
          have z0 : pRev (.lst (enc (cutD ws (some u) (some (u + 2))))) = some (.ol (enc (cutD ws (some u) (some (u + 2))).reverse)) := by
            show some (W.ol (enc _).reverse) = _
            unfold enc
            rw [List.map_reverse]
          have z := add_enc (a := cutD ws none (some u) ++ (cutD ws (some u) (some (u + 2))).reverse) (b := cutD ws (some (u + 2)) none) (by rw [List.length_append, List.length_reverse]; have := b1.1; have := b4.1; have := (b2 (u + 2)).1; omega)
          exact ⟨cutD ws none (some u) ++ (cutD ws (some u) (some (u + 2))).reverse ++ cutD ws (some (u + 2)) none, _, by simp [m__law_changed, fnM_ap, List.replicate, e1, le, e2, q1, q2, q4, z0, two _ _ b1 b4.rev, z], hd2', m2 ((b1.app b4.rev).app (b2 (u + 2))) (by rw [List.length_append, List.length_append, List.length_reverse]; omega)⟩
        · by_cases c6 : v = 6
          · subst c6
            exact ⟨_, _, by simp [m__law_changed, fnM_ap, List.replicate, e1, le, e2, q1], hd2', b1.mono (by omega) (by omega)⟩
          · have c7 : 6 < v := by omega
            have c8 : ¬ u = (ws.length : Int) := fun z => k1 ⟨c7, z⟩
            have ej : ∃ g, atI (enc ws) u = some (.str g) ∧ g.length ≤ M := by
              obtain ⟨k, rfl⟩ : ∃ k : Nat, u = k := ⟨u.toNat, by omega⟩
              have hk : k < ws.length := by omega
              exact ⟨ws[k], atI_nat (enc_get (List.getElem?_eq_getElem hk)), hw.2 _ (List.getElem_mem hk)⟩
            obtain ⟨g, eg, lg⟩ := ej
            obtain ⟨b, w6, e6, hd6, lb⟩ := bent hd2 (by omega) (show g.length ≤ 10000 by omega)
            have z1 := add_enc (a := cutD ws none (some u)) (b := [b]) (by have := b1.1; simp only [List.length_singleton]; omega)
            have z2 := add_enc (a := cutD ws none (some u) ++ [b]) (b := cutD ws (some (u + 1)) none) (by rw [List.length_append, List.length_singleton]; have := b1.1; have := (b2 (u + 1)).1; omega)
            have z1' : pAdd (.lst (enc (cutD ws none (some u)))) (.lst [.str b]) = some (.ol (enc (cutD ws none (some u) ++ [b]))) := z1
            refine ⟨_, w6, ?_, hd6.mono (by omega), (((b1.mono (by omega) (Nat.le_refl _)).app (.one (w := b) (M := 2 * M + 8) (by omega))).app ((b2 (u + 1)).mono (by omega) (Nat.le_refl _))).of (by rw [List.length_append, List.length_append, List.length_singleton]; omega)⟩
            simp [m__law_changed, fnM_ap, List.replicate, e1, le, e2, c1, c3, c4, c5, c6, c7, c8, eg, e6, q1, q2, z1', z2]
end Gk62
set_option maxRecDepth 100000
set_option maxHeartbeats 4000000
namespace Gk62
open PySem PySem.Spec PyProof.Rows L2 Mi
/-! any words: parted, read, refused -/
theorem spl_ne (s : List Nat) : ∀ (l : List Nat) (k : Nat) (acc : List Nat), TL.spl s k acc l ≠ []
  | [], k, acc => by cases k <;> simp [TL.spl]
  | c :: r, 0, acc => by
    rw [TL.spl]
    split
    · simp
    · exact spl_ne s r 0 _
  | c :: r, k + 1, acc => by
    rw [TL.spl]
    exact spl_ne s r k acc
theorem spl_le (s : List Nat) : ∀ (l : List Nat) (k : Nat) (acc : List Nat), ∀ p ∈ TL.spl s k acc l, p.length ≤ acc.length + l.length
  | [], k, acc, p, h => by
    have h2 : p ∈ [acc] := by cases k <;> simpa [TL.spl] using h
    rw [List.mem_singleton] at h2
    rw [h2]
    simp
  | c :: r, 0, acc, p, h => by
    rw [TL.spl] at h
    split at h
    · rcases List.mem_cons.mp h with h | h
      · rw [h]
        omega
      · have := spl_le s r _ [] p h
        simp at this ⊢
        omega
    · have := spl_le s r 0 _ p h
      simp at this ⊢
      omega
  | c :: r, k + 1, acc, p, h => by
    rw [TL.spl] at h
    have := spl_le s r k acc p h
    simp at this ⊢
    omega
theorem split_facts (x : Str) : Txt.split x " " ≠ [] ∧ ∀ w ∈ Txt.split x " ", w.length ≤ x.length := by
  have e := SX.split_S (a := x.cps.toList) (b := [32]) (by simp) (by decide)
  have e0 : SX.S x.cps.toList = x := S_cps' x
  rw [e0] at e
  have e2 : Txt.split x " " = (TL.spl [32] 0 [] x.cps.toList).map S := e
  rw [e2]
  refine ⟨fun z => spl_ne [32] _ 0 [] (List.map_eq_nil_iff.mp z), fun w hw => ?_⟩
  obtain ⟨p, hp, rfl⟩ := List.mem_map.mp hw
  have := spl_le [32] _ 0 [] p hp
  rw [SX.S_len]
  simp [Str.length] at this ⊢
  exact this
def abcOnly (w : Str) : Bool := decide (Txt.stripChars w "abc" = "")
def isTW (w : Str) : Bool := decide (w = "-") || (!decide (w = "") && (decide (w.length < 41) && abcOnly w))
theorem is_text_any {w : Str} (h : w.length ≤ 1000000) : m_is_text [.sh (.str w)] = .ok (.sh (.bl (abcOnly w))) [] := by
  have p : pStrip [.str w, .str "abc"] = some (.sh (.str (Txt.stripChars w "abc"))) := by
    show (if w.length ≤ sizeLine then some (W.sh (.str (Txt.stripChars w "abc"))) else none) = _
    rw [if_pos (by rw [sizeLine_eq]; omega)]
  simp [m_is_text, fnM_ap, p, abcOnly]
theorem law_text_word {w : Str} (h : w.length ≤ 1000000) : m__law_is_text_word [.sh (.str w)] = .ok (.sh (.bl (isTW w))) [] := by
  have p : pStrip [.str w, .str "abc"] = some (.sh (.str (Txt.stripChars w "abc"))) := by
    show (if w.length ≤ sizeLine then some (W.sh (.str (Txt.stripChars w "abc"))) else none) = _
    rw [if_pos (by rw [sizeLine_eq]; omega)]
  have el : pLen [.str w] = some (.sh (.int (w.length : Int))) := len_s (by rw [sizeLine_eq]; omega)
  unfold isTW abcOnly
  by_cases a : w = "-"
  · simp [m__law_is_text_word, fnM_ap, a]
  · by_cases b : w = ""
    · simp [m__law_is_text_word, fnM_ap, a, b]
    · by_cases c : w.length < 41
      · have c' : (w.length : Int) < 41 := by omega
        simp [m__law_is_text_word, fnM_ap, a, b, el, c, c', p]
      · have c' : ¬ (w.length : Int) < 41 := by omega
        simp [m__law_is_text_word, fnM_ap, a, b, el, c, c', p]
theorem take_end {ws : List D} {p : Nat} (h : p = ws.length) : m_WordReader_take [rd ws p] = .err ⟨16, some (p : Int)⟩ [rd ws p] := by
  subst h
  simp [m_WordReader_take, fnM_ap]
theorem ended_no {ws : List D} {p : Nat} {d : D} (h : p < ws.length) : m_WordReader_ended [rd ws p, .sh d] = .err ⟨16, some (p : Int)⟩ [rd ws p] := by
  have h2 : (p : Int) < (ws.length : Int) := by omega
  simp [m_WordReader_ended, fnM_ap, h2]
theorem take_text_any {ws : List D} {p : Nat} {w : Str} (hz : w.length ≤ 1000000) (hw : ws[p]? = some (.str w)) : m_take_text [rd ws p] = if isTW w = true then .ok (.sh (.str (if w = "-" then "" else w))) [rd ws ((p : Int) + 1)] else .err ⟨16, some (p : Int)⟩ [rd ws ((p : Int) + 1)] := by
  have el : pLen [.str w] = some (.sh (.int (w.length : Int))) := len_s (by rw [sizeLine_eq]; omega)
  have it := is_text_any hz
  have e : ((p : Int) + 1 - 1) = (p : Int) := by omega
  unfold isTW
  by_cases a : w = "-"
  · simp [m_take_text, fnM_ap, List.replicate, take_s hw, a]
  · by_cases b : w = ""
    · simp [m_take_text, fnM_ap, List.replicate, take_s hw, a, b, e]
    · by_cases c : w.length < 41
      · have c' : ¬ (40 : Int) < (w.length : Int) := by omega
        cases q : abcOnly w
        · rw [q] at it
          simp [m_take_text, fnM_ap, List.replicate, take_s hw, a, b, el, c, c', it, e]
        · rw [q] at it
          simp [m_take_text, fnM_ap, List.replicate, take_s hw, a, b, el, c, c', it]
      · have c' : (40 : Int) < (w.length : Int) := by omega
        simp [m_take_text, fnM_ap, List.replicate, take_s hw, a, b, el, c, c', e]
end Gk62
set_option maxRecDepth 100000
set_option maxHeartbeats 4000000
namespace Gk62
open PySem PySem.Spec PyProof.Rows L2 Mi
/-! a text of which nothing is left without its letters -/
theorem tw_pre {p : Nat → Bool} : ∀ l : List Nat, ∃ r, l = l.takeWhile p ++ r ∧ (∀ c ∈ l.takeWhile p, p c = true) ∧ ∀ c r', r = c :: r' → p c = false
  | [] => ⟨[], rfl, fun c h => absurd h List.not_mem_nil, fun c r' h => (nomatch h)⟩
  | c :: l => by
    cases q : p c with
    | false =>
      rw [List.takeWhile_cons, q]
      refine ⟨c :: l, rfl, fun d h => absurd h List.not_mem_nil, fun d r' h => ?_⟩
      cases h
      exact q
    | true =>
      obtain ⟨r, h1, h2, h3⟩ := tw_pre (p := p) l
      rw [List.takeWhile_cons, q]
      refine ⟨r, ?_, fun d hd => ?_, h3⟩
      · show c :: l = c :: (l.takeWhile p ++ r)
        rw [← h1]
      · rcases List.mem_cons.mp hd with e | e
        · rw [e]
          exact q
        · exact h2 d e
theorem tw_rev {p : Nat → Bool} {c : Nat} {r : List Nat} (h : p c = false) : ((c :: r).reverse.takeWhile p).length ≤ r.length := by
  obtain ⟨s, h1, h2, _⟩ := tw_pre (p := p) (c :: r).reverse
  by_cases hs : s = []
  · subst hs
    rw [List.append_nil] at h1
    have hc : c ∈ (c :: r).reverse.takeWhile p := by
      rw [← h1]
      simp
    have := h2 c hc
    rw [h] at this
    cases this
  · have l1 := congrArg List.length h1
    rw [List.length_append, List.length_reverse, List.length_cons] at l1
    have := List.length_pos_iff.mpr hs
    omega
theorem abc_of {w : Str} (h : abcOnly w = true) : Abc w.cps.toList := by
  have h0 : Txt.stripChars w "abc" = ("" : Str) := of_decide_eq_true h
  let p : Nat → Bool := ("abc" : Str).cps.contains
  have pc : ∀ c, p c = true → c = 97 ∨ c = 98 ∨ c = 99 := fun c hc => by
    have e : ("abc" : Str).cps = #[97, 98, 99] := by decide +kernel
    have hc2 : (#[97, 98, 99] : Array Nat).contains c = true := by rw [← e]; exact hc
    simpa using hc2
  obtain ⟨r, h1, h2, h3⟩ := tw_pre (p := p) w.cps.toList
  have len : w.length = w.cps.toList.length := by simp [Str.length]
  cases r with
  | nil =>
    rw [List.append_nil] at h1
    intro c hc
    rw [h1] at hc
    exact pc c (h2 c hc)
  | cons c r =>
    exfalso
    have q := h3 c r rfl
    have lo : stripLo p true w = (w.cps.toList.takeWhile p).length := if_pos rfl
    have ll := congrArg List.length h1
    rw [List.length_append, List.length_cons] at ll
    have dr : w.cps.toList.drop (stripLo p true w) = c :: r := by
      rw [lo]
      conv => lhs; rw [h1]
      exact List.drop_left' (by rw [← h1])
    have hi : stripHi p true w (stripLo p true w) = w.length - ((c :: r).reverse.takeWhile p).length := by
      unfold stripHi
      rw [if_pos rfl, dr]
    have tl := tw_rev (r := r) q
    have h4 : Txt.stripBy p true true w = ("" : Str) := h0
    unfold Txt.stripBy at h4
    split at h4
    · have z : w.length = 0 := by rw [h4]; rfl
      omega
    · have z : (stripped p true true w).length = 0 := by rw [h4]; rfl
      unfold stripped PySem.Builtin.Str.strSub at z
      simp only [Str.length, Array.size_extract] at z
      rw [lo] at hi z
      rw [hi] at z
      simp only [Str.length] at len z hi
      omega
theorem abc_S {w : Str} (h : abcOnly w = true) : ∃ l, w = S l ∧ Abc l := ⟨w.cps.toList, (S_cps' w).symm, abc_of h⟩
theorem abc_yes {l : List Nat} (h : Abc l) : abcOnly (S l) = true := decide_eq_true (strip_abc h)
/-- nothing of it is '-' -/
theorem strip_dash {l : List Nat} (h : Abc l) : Txt.stripChars (S l) ("-" : Str) = S l := by
  have p0 : ∀ c ∈ l, ("-" : Str).cps.contains c = false := fun c hc => by
    rcases h c hc with rfl | rfl | rfl <;> decide +kernel
  have e1 : (S l).cps.toList = l := by simp [S, SX.S]
  have tw0 : ∀ m : List Nat, (∀ c ∈ m, ("-" : Str).cps.contains c = false) → m.takeWhile ("-" : Str).cps.contains = [] := fun m hm => by
    cases m with
    | nil => rfl
    | cons c r => rw [List.takeWhile_cons, hm c List.mem_cons_self]; rfl
  have lo : stripLo (("-" : Str).cps.contains) true (S l) = 0 := by
    unfold stripLo
    rw [if_pos rfl, e1, tw0 l p0]
    rfl
  have hi : stripHi (("-" : Str).cps.contains) true (S l) 0 = (S l).length := by
    unfold stripHi
    rw [if_pos rfl, e1, List.drop_zero, tw0 l.reverse fun c hc => p0 c (List.mem_reverse.mp hc)]
    rfl
  unfold Txt.stripChars Txt.stripBy
  rw [if_pos]
  unfold stripSame
  rw [lo, hi]
  simp
end Gk62
set_option maxRecDepth 100000
set_option maxHeartbeats 4000000
namespace Gk62
open PySem PySem.Spec PyProof.Rows L2 Mi
/-! words put together -/
theorem joinK_len : ∀ (ls : List (List Nat)), (TL.joinL [32] ls).length ≤ (ls.map (·.length)).sum + ls.length
  | [] => by simp [TL.joinL]
  | [l] => by simp [TL.joinL]
  | l :: m :: r => by
    have := joinK_len (m :: r)
    rw [TL.joinL]
    simp only [List.length_append, List.length_cons, List.length_nil, List.map_cons, List.sum_cons] at this ⊢
    omega
theorem joinK_eq (ws : List Str) : Txt.join (" " : Str) ws = S (TL.joinL [32] (ws.map fun w => w.cps.toList)) := by
  have e0 : ws = (ws.map fun w => w.cps.toList).map S := by
    rw [List.map_map]
    conv => lhs; rw [← List.map_id ws]
    exact List.map_congr_left fun w _ => (S_cps' w).symm
  conv => lhs; rw [e0]
  exact SX.join_S [32] _
theorem sum_le {M : Nat} : ∀ {ws : List Str}, (∀ w ∈ ws, w.length ≤ M) → (ws.map (·.length)).sum ≤ M * ws.length
  | [], _ => by simp
  | w :: ws, h => by
    have h1 := sum_le fun x hx => h x (List.mem_cons_of_mem _ hx)
    have h2 := h w List.mem_cons_self
    simp only [List.map_cons, List.sum_cons, List.length_cons, Nat.mul_add, Nat.mul_one]
    omega
theorem joinK_le {M L : Nat} {ws : List Str} (h : Wb M L ws) : (Txt.join (" " : Str) ws).length ≤ M * L + L := by
  rw [joinK_eq, SX.S_len]
  have h1 := joinK_len (ws.map fun w => w.cps.toList)
  have h2 := sum_le h.2
  have h4 : M * ws.length ≤ M * L := Nat.mul_le_mul_left _ h.1
  have h5 := h.1
  rw [List.map_map, List.length_map] at h1
  have h3 : (List.map ((fun l : List Nat => l.length) ∘ fun w : Str => w.cps.toList) ws).sum = (ws.map (·.length)).sum := by congr 1
  omega
theorem joinK {M L : Nat} {ws : List Str} (h : Wb M L ws) (hb : M * L + L ≤ 10000000) : pJoin [.str " ", .lst (enc ws)] = some (.sh (.str (Txt.join " " ws))) := by
  have h2 := sum_le h.2
  have h4 : M * ws.length ≤ M * L := Nat.mul_le_mul_left _ h.1
  have h5 := h.1
  show (txts (enc ws)).bind (fun ys => if (ys.map (·.length)).sum + ys.length * (" " : Str).length ≤ 16777216 then some (W.sh (.str (Txt.join " " ys))) else none) = _
  rw [txts_enc]
  show (if _ then _ else _) = _
  have z : (" " : Str).length = 1 := rfl
  rw [if_pos (by rw [z]; omega)]
theorem splitK {x : Str} (h : x.length ≤ 10000000) : pSplit [.str x, .str " "] = some (.ol (enc (Txt.split x " "))) := by
  show (if ((" " : Str).length == 0) = false ∧ x.length + 2 ≤ sizeLine then some (W.ol ((Txt.split x " ").map D.str)) else none) = _
  rw [if_pos ⟨by decide, by rw [sizeLine_eq]; omega⟩]
  rfl
theorem txts_eq : ∀ {ds : List D} {l : List Str}, txts ds = some l → ds = enc l
  | [], l, h => by cases h; rfl
  | d :: ds, l, h => by
    cases d <;> first | (cases h; done) | skip
    rename_i y
    have h1 : (txts ds).map (fun ys => y :: ys) = some l := h
    cases e : txts ds with
    | none =>
      rw [e] at h1
      cases h1
    | some ys =>
      rw [e] at h1
      cases h1
      rw [txts_eq e]
      rfl
/-- a def without arguments that returns words -/
def chkW (M L : Nat) : FOut → Bool
  | .ok (.ol ds) [] => match txts ds with
    | some l => decide (l.length ≤ L) && ((l.all fun w => decide (w.length ≤ M)) && !l.isEmpty)
    | none => false
  | _ => false
theorem chkW_ok {M L : Nat} {f : FOut} (h : chkW M L f = true) : ∃ l, f = .ok (.ol (enc l)) [] ∧ Wb M L l ∧ l ≠ [] := by
  unfold chkW at h
  split at h
  · rename_i ds
    cases e : txts ds with
    | none =>
      rw [e] at h
      cases h
    | some l =>
      rw [e] at h
      simp only [Bool.and_eq_true, decide_eq_true_eq, Bool.not_eq_true'] at h
      refine ⟨l, by rw [txts_eq e], ⟨h.1, fun w hw => of_decide_eq_true (List.all_eq_true.mp h.2.1 w hw)⟩, fun z => ?_⟩
      rw [z] at h
      exact absurd h.2.2 (by simp)
  · cases h
end Gk62
set_option maxRecDepth 100000
set_option maxHeartbeats 4000000
namespace Gk62
open PySem PySem.Spec PyProof.Rows L2 Mi
/-! reading a filter from its words -/
theorem num_all : ((List.range 1000).all fun n => okB (m_is_number_word [.sh (.str (nstr n)), .sh (.int 3)]) (.bl true) && (PySem.intText? (nstr n) == some (n : Int)) && decide ((nstr n).length ≤ 3)) = true := by
  simp only [m_is_number_word, B_is_number_word_1, sForS_T]
  decide +kernel
theorem num_facts {n : Nat} (h : n ≤ 999) : m_is_number_word [.sh (.str (nstr n)), .sh (.int 3)] = .ok (.sh (.bl true)) [] ∧ PySem.intText? (nstr n) = some (n : Int) ∧ (nstr n).length ≤ 3 := by
  have e := List.all_eq_true.mp num_all n (List.mem_range.mpr (by omega))
  simp only [Bool.and_eq_true, decide_eq_true_eq, beq_iff_eq] at e
  exact ⟨okB_ok e.1.1, e.1.2, e.2⟩
theorem pInt_n {n : Nat} (h : n ≤ 999) : pInt [.str (nstr n)] = some (.sh (.int (n : Int))) := by
  obtain ⟨_, h2, h3⟩ := num_facts h
  show (if (nstr n).length ≤ 640 then (PySem.intText? (nstr n)).map (fun i => W.sh (.int i)) else none) = _
  rw [if_pos (by omega), h2]
  rfl
theorem take_number_n {ws : List D} {p n : Nat} (h : n ≤ 999) (hw : ws[p]? = some (.str (nstr n))) : m_take_number [rd ws p, .sh (.int 3), .sh (.int 999)] = .ok (.sh (.int (n : Int))) [rd ws ((p : Int) + 1)] := by
  obtain ⟨h1, _, _⟩ := num_facts h
  have e : ¬ (999 : Int) < (n : Int) := by omega
  simp [m_take_number, fnM_ap, List.replicate, take_s hw, h1, pInt_n h, e]
theorem take_tw {t : List Nat} {ws : List D} {p : Nat} (h : Abc t) (hz : t.length ≤ 40) (hw : ws[p]? = some (.str (tw t))) : m_take_text [rd ws p] = .ok (.sh (.str (S t))) [rd ws ((p : Int) + 1)] := by
  by_cases e : t = []
  · subst e
    have e2 : tw [] = "-" := by decide +kernel
    rw [e2] at hw
    exact take_text_dash hw
  · have ne : ¬ S t = ("" : Str) := fun z => e (SX.S_inj (show S t = S [] from z))
    have e2 : tw t = S t := if_neg ne
    rw [e2] at hw
    exact take_text_abc h e hz hw
theorem drop_cons {α : Type} {ws r : List α} {p : Nat} {a : α} (h : ws.drop p = a :: r) : ws[p]? = some a ∧ ws.drop (p + 1) = r := by
  constructor
  · have e := List.getElem?_drop (xs := ws) (i := p) (j := 0)
    rw [h] at e
    simpa using e.symm
  · rw [← List.drop_drop, h]
    rfl
noncomputable abbrev eTt : EM := eCallI m_take_text [true] (aCons (eV 0) aNil)
theorem texts_loop {ws rest : List D} {v w : W} : ∀ (ts : List (List Nat)) (ds acc : List D) (p : Nat), ds.length = ts.length → (∀ t ∈ ts, Abc t ∧ t.length ≤ 40) → ws.drop p = (ts.map tw).map .str ++ rest → acc.length + ts.length ≤ 2000000 →
    compGo (fun _ => True) (.nm 3) bYes eTt [3] ds acc [rd ws p, v, w, .gone] = .ok (.val (.ol (acc ++ ts.map fun t => .str (S t)))) [rd ws ((p + ts.length : Nat) : Int), v, w, .gone]
  | [], ds, acc, p, hd, _, _, _ => by
    have e : ds = [] := List.eq_nil_of_length_eq_zero hd
    subst e
    rw [compGo_nil trivial]
    simp
  | t :: ts, ds, acc, p, hd, ht, hw, hl => by
    cases ds with
    | nil => simp at hd
    | cons d ds =>
      simp only [List.length_cons] at hd hl
      obtain ⟨h1, h2⟩ := drop_cons (show ws.drop p = .str (tw t) :: ((ts.map tw).map .str ++ rest) from hw)
      obtain ⟨a1, a2⟩ := ht t List.mem_cons_self
      have e1 := take_tw a1 a2 h1
      have ih := texts_loop (v := v) (w := w) ts ds (acc ++ [.str (S t)]) (p + 1) (by omega) (fun x hx => ht x (List.mem_cons_of_mem _ hx)) h2 (by simp; omega)
      have et : eTt [rd ws p, v, w, .sh d] = .ok (.val (.sh (.str (S t)))) [rd ws ((p + 1 : Nat) : Int), v, w, .sh d] := by
        simp [eTt, e1]
      rw [compGo_cons trivial, asg_nm]
      show (match eTt [rd ws p, v, w, .sh d] with
        | .ok o env3 => (match sres o env3 with
          | some y => if acc.length < sizeLine then compGo (fun _ => True) (.nm 3) bYes eTt [3] ds (acc ++ [y]) (clr [3] env3) else .stuck
          | none => .stuck)
        | .err x env3 => .err x (clr [3] env3)
        | .stuck => .stuck) = _
      rw [et]
      simp only [sres_sh]
      rw [if_pos (by rw [sizeLine_eq]; omega)]
      show compGo (fun _ => True) (.nm 3) bYes eTt [3] ds (acc ++ [.str (S t)]) [rd ws ((p + 1 : Nat) : Int), v, w, .gone] = _
      rw [ih]
      simp
      omega
noncomputable abbrev eTf (fu : Nat) : EM := eCallI (m_take_filter fu) [true] (aCons (eV 0) (aCons (eP2 pAdd (eV 1) (eC (.int 1))) aNil))
theorem filters_loop {ws rest : List D} {fu : Nat} {lev : Int} {w : W} : ∀ (fs : List Fl) (ds acc : List D) (p : Nat), ds.length = fs.length →
    (∀ f ∈ fs, ∀ (p : Nat) (rest : List D), ws.drop p = (wds f).map .str ++ rest → m_take_filter fu [rd ws p, .sh (.int (lev + 1))] = .ok (.sh (dD f)) [rd ws ((p + (wds f).length : Nat) : Int)]) →
    ws.drop p = (wdss fs).map .str ++ rest → acc.length + fs.length ≤ 2000000 →
    compGo (fun _ => True) (.nm 3) bYes (eTf fu) [3] ds acc [rd ws p, .sh (.int lev), w, .gone] = .ok (.val (.ol (acc ++ dDs fs))) [rd ws ((p + (wdss fs).length : Nat) : Int), .sh (.int lev), w, .gone]
  | [], ds, acc, p, hd, _, _, _ => by
    have e : ds = [] := List.eq_nil_of_length_eq_zero hd
    subst e
    rw [compGo_nil trivial]
    simp [wdss, dDs]
  | f :: fs, ds, acc, p, hd, ht, hw, hl => by
    cases ds with
    | nil => simp at hd
    | cons d ds =>
      simp only [List.length_cons] at hd hl
      rw [wdss, List.map_append, List.append_assoc] at hw
      have e1 := ht f List.mem_cons_self p _ hw
      have h2 : ws.drop (p + (wds f).length) = (wdss fs).map .str ++ rest := by
        rw [← List.drop_drop, hw, List.drop_left' (by simp)]
      have ih := filters_loop (w := w) fs ds (acc ++ [dD f]) (p + (wds f).length) (by omega) (fun x hx => ht x (List.mem_cons_of_mem _ hx)) h2 (by simp; omega)
      have et : eTf fu [rd ws p, .sh (.int lev), w, .sh d] = .ok (.val (.sh (dD f))) [rd ws ((p + (wds f).length : Nat) : Int), .sh (.int lev), w, .sh d] := by
        simp [eTf, e1]
      rw [compGo_cons trivial, asg_nm]
      show (match eTf fu [rd ws p, .sh (.int lev), w, .sh d] with
        | .ok o env3 => (match sres o env3 with
          | some y => if acc.length < sizeLine then compGo (fun _ => True) (.nm 3) bYes (eTf fu) [3] ds (acc ++ [y]) (clr [3] env3) else .stuck
          | none => .stuck)
        | .err x env3 => .err x (clr [3] env3)
        | .stuck => .stuck) = _
      rw [et]
      simp only [sres_sh]
      rw [if_pos (by rw [sizeLine_eq]; omega)]
      show compGo (fun _ => True) (.nm 3) bYes (eTf fu) [3] ds (acc ++ [dD f]) [rd ws ((p + (wds f).length : Nat) : Int), .sh (.int lev), w, .gone] = _
      rw [ih, wdss, dDs]
      simp
      omega
end Gk62
set_option maxRecDepth 100000
set_option maxHeartbeats 4000000
namespace Gk62
open PySem PySem.Spec PyProof.Rows L2 Mi
/-- the words of a filter are read as it -/
theorem take_ok {mt mg : Nat} (h1 : mt ≤ 40) (h2 : mg ≤ 999) : ∀ (n fu : Nat) (f : Fl) (lev : Int) (p : Nat) (ws rest : List D), Okf mt mg n f → n ≤ fu → lev + n ≤ 21 → ws.drop p = (wds f).map .str ++ rest →
    m_take_filter fu [rd ws p, .sh (.int lev)] = .ok (.sh (dD f)) [rd ws ((p + (wds f).length : Nat) : Int)]
  | 0, fu, f, lev, p, ws, rest, h, _, _, _ => by cases f <;> exact absurd h (by simp [Okf])
  | n + 1, fu, f, lev, p, ws, rest, h, hf, hl, hw => by
    obtain ⟨k, rfl⟩ : ∃ j, fu = j + 1 := ⟨fu - 1, by omega⟩
    have hlev : ¬ (20 : Int) < lev := by omega
    have ep : ((p : Int) + 1) = ((p + 1 : Nat) : Int) := by omega
    cases f with
    | non =>
      rw [wds] at hw ⊢
      obtain ⟨w1, _⟩ := drop_cons (show ws.drop p = .str "none" :: rest from hw)
      simp [m_take_filter, fnM_ap, List.replicate, dD, take_s w1, hlev]
    | say b =>
      rw [wds] at hw ⊢
      obtain ⟨w1, hw2⟩ := drop_cons (show ws.drop p = .str "say" :: (.str (if b = true then "yes" else "no") :: rest) from hw)
      obtain ⟨w2, _⟩ := drop_cons hw2
      have t2 := take_s w2
      rw [← ep] at t2
      have et : m_take_answer [rd ws ((p : Int) + 1)] = .ok (.sh (.bl b)) [rd ws ((p : Int) + 1 + 1)] := by
        cases b <;> simp only [if_true, Bool.false_eq_true, if_false] at t2 <;> simp [m_take_answer, fnM_ap, List.replicate, t2]
      simp [m_take_filter, fnM_ap, List.replicate, dD, take_s w1, hlev, et]
      omega
    | leaf w t =>
      obtain ⟨hw4, ha, hz⟩ := h
      rw [wds] at hw ⊢
      obtain ⟨w1, hw2⟩ := drop_cons (show ws.drop p = .str (leafW w) :: (.str (tw t) :: rest) from hw)
      obtain ⟨w2, _⟩ := drop_cons hw2
      have et := take_tw (p := p + 1) ha (by omega) w2
      have e3 : ((p + 1 : Nat) : Int) + 1 = (p : Int) + 2 := by omega
      rw [← ep] at et
      rcases leaf_cases hw4 with rfl | rfl | rfl | rfl <;> simp only [leafW] at w1 <;> simp [m_take_filter, fnM_ap, List.replicate, dD, take_s w1, hlev, et, leafW] <;> omega
    | amg ts =>
      obtain ⟨hz, ha⟩ := h
      rw [wds] at hw ⊢
      obtain ⟨w1, hw2⟩ := drop_cons (show ws.drop p = .str "among" :: (.str (nstr ts.length) :: ((ts.map tw).map .str ++ rest)) by rw [hw]; simp)
      obtain ⟨w2, hw3⟩ := drop_cons hw2
      have et := take_number_n (p := p + 1) (n := ts.length) (by omega) w2
      have el := texts_loop (v := .sh (.int lev)) (w := .sh (.str "among")) ts (rngD 0 ts.length) [] (p + 1 + 1) (rngD_len _) (fun t ht => ⟨(ha t ht).1, by have := (ha t ht).2; omega⟩) hw3 (by simp; omega)
      have ec : B_take_filter_1 (m_take_filter k) [rd ws ((p : Int) + 1), .sh (.int lev), .sh (.str "among"), .gone] =
          .ok (.val (.ol (ts.map fun t => .str (S t)))) [rd ws ((p + 1 + 1 + ts.length : Nat) : Int), .sh (.int lev), .sh (.str "among"), .gone] := by
        unfold B_take_filter_1
        rw [eLcR_eq (env1 := [rd ws ((p + 1 + 1 : Nat) : Int), .sh (.int lev), .sh (.str "among"), .gone]) (o := .val (.sh (.int (ts.length : Int)))) (n := ts.length) (by rw [← ep] at et; simp [et]) rfl (by omega)]
        exact el
      simp [m_take_filter, fnM_ap, List.replicate, dD, take_s w1, hlev]
      rw [ec]
      simp [pTuple]
      omega
    | neg f =>
      rw [wds] at hw ⊢
      obtain ⟨w1, hw2⟩ := drop_cons (show ws.drop p = .str "not" :: ((wds f).map .str ++ rest) by rw [hw]; simp)
      have ih := take_ok h1 h2 n k f (lev + 1) (p + 1) ws rest h (by omega) (by omega) hw2
      rw [← ep] at ih
      simp [m_take_filter, fnM_ap, List.replicate, dD, take_s w1, hlev, ih]
      omega
    | grp c fs =>
      obtain ⟨hz, ha⟩ := h
      rw [wds] at hw ⊢
      obtain ⟨w1, hw2⟩ := drop_cons (show ws.drop p = .str (grpW c) :: (.str (nstr fs.length) :: ((wdss fs).map .str ++ rest)) by rw [hw]; simp)
      obtain ⟨w2, hw3⟩ := drop_cons hw2
      have et := take_number_n (p := p + 1) (n := fs.length) (by omega) w2
      have el := filters_loop (fu := k) (lev := lev) (w := .sh (.str (grpW c))) fs (rngD 0 fs.length) [] (p + 1 + 1) (rngD_len _)
        (fun f hf' p' rest' hp => take_ok h1 h2 n k f (lev + 1) p' ws rest' (ha f hf') (by omega) (by omega) hp) hw3 (by simp; omega)
      have ec : B_take_filter_2 (m_take_filter k) [rd ws ((p : Int) + 1), .sh (.int lev), .sh (.str (grpW c)), .gone] =
          .ok (.val (.ol (dDs fs))) [rd ws ((p + 1 + 1 + (wdss fs).length : Nat) : Int), .sh (.int lev), .sh (.str (grpW c)), .gone] := by
        unfold B_take_filter_2
        rw [eLcR_eq (env1 := [rd ws ((p + 1 + 1 : Nat) : Int), .sh (.int lev), .sh (.str (grpW c)), .gone]) (o := .val (.sh (.int (fs.length : Int)))) (n := fs.length) (by rw [← ep] at et; simp [et]) rfl (by omega)]
        exact el
      cases c <;> (simp only [grpW] at ec w1 ⊢; simp [m_take_filter, fnM_ap, List.replicate, dD, take_s w1, hlev, grpW]; rw [ec]; simp [pTuple]; omega)
end Gk62
set_option maxRecDepth 100000
set_option maxHeartbeats 4000000
namespace Gk62
open PySem PySem.Spec PyProof.Rows L2 Mi
theorem str_n {n : Nat} (h : n ≤ 1000000) : pStr [.int (n : Int)] = some (.sh (.str (nstr n))) := by
  have z : ((n : Int).natAbs).log2 < 1920 := by
    have e : (n : Int).natAbs = n := Int.natAbs_natCast n
    rw [e]
    have h2 : n < 2 ^ 1919 := Nat.lt_of_le_of_lt h (by decide)
    by_cases h0 : n = 0
    · subst h0
      decide
    · exact Nat.lt_succ_of_lt ((Nat.log2_lt h0).mpr h2)
  show (if _ then some (W.sh (.str (toString (n : Int)))) else none) = _
  rw [if_pos z]
  rfl
theorem add_ll {a b : List D} (h : a.length + b.length ≤ 2000000) : pAdd (.lst a) (.lst b) = some (.ol (a ++ b)) := by
  show (if _ then _ else _) = _
  rw [if_pos (by rw [sizeLine_eq]; omega)]
def gTw : D → D
  | .str x => .str (if x = "" then "-" else x)
  | d => d
theorem tw_map : ∀ ts : List (List Nat), (ts.map fun t => D.str (S t)).map gTw = (ts.map tw).map D.str
  | [] => rfl
  | t :: ts => by
    simp only [List.map_cons, tw_map ts]
    rfl
end Gk62
set_option maxRecDepth 100000
set_option maxHeartbeats 4000000
namespace Gk62
open PySem PySem.Spec PyProof.Rows L2 Mi
theorem law_word_t (t : List Nat) : m__law_word [.sh (.str (S t))] = .ok (.sh (.str (tw t))) [] := by
  unfold tw
  by_cases e : S t = "" <;> simp [m__law_word, fnM_ap, e]
noncomputable abbrev bL (fu : Nat) : SM := sSet 2 (eP2 pAdd (eV 2) (eCall (m__law_words fu) (aCons (eV 3) aNil)))
theorem lwords_loop {fu : Nat} {v w g : W} : ∀ (fs : List Fl) (acc : List Str) (p : W), (∀ f ∈ fs, m__law_words fu [.sh (dD f)] = .ok (.ol ((wds f).map .str)) []) → acc.length + (wdss fs).length ≤ 2000000 →
    ∃ p', forT (.nm 3) (bL fu) (dDs fs) [v, w, .ol (acc.map .str), p, g] = .ok .nx [v, w, .ol ((acc ++ wdss fs).map .str), p', g]
  | [], acc, p, _, _ => ⟨p, by rw [dDs, wdss, List.append_nil, forT]⟩
  | f :: fs, acc, p, h, hl => by
    rw [wdss, List.length_append] at hl
    obtain ⟨p', e⟩ := lwords_loop (v := v) (w := w) (g := g) fs (acc ++ wds f) (.sh (dD f)) (fun x hx => h x (List.mem_cons_of_mem _ hx)) (by rw [List.length_append]; omega)
    refine ⟨p', ?_⟩
    have hz : pAdd (.lst (acc.map .str)) (.lst ((wds f).map .str)) = some (.ol (acc.map .str ++ (wds f).map .str)) := add_ll (by simp; omega)
    have eb : bL fu [v, w, .ol (acc.map .str), .sh (dD f), g] = .ok .nx [v, w, .ol ((acc ++ wds f).map .str), .sh (dD f), g] := by
      simp [bL, h f List.mem_cons_self, hz]
    rw [dDs, forT, asg_nm]
    show (bL fu [v, w, .ol (acc.map .str), .sh (dD f), g]).bind _ = _
    rw [eb, bind_ok, e, wdss, List.append_assoc]
theorem lwords_ok {mt mg : Nat} (hg : mg ≤ 1000000) : ∀ (n fu : Nat) (f : Fl), Okf mt mg n f → n ≤ fu → (wds f).length ≤ 1000000 → m__law_words fu [.sh (dD f)] = .ok (.ol ((wds f).map .str)) []
  | 0, fu, f, h, _, _ => by cases f <;> exact absurd h (by simp [Okf])
  | n + 1, fu, f, h, hf, hl => by
    obtain ⟨k, rfl⟩ : ∃ j, fu = j + 1 := ⟨fu - 1, by omega⟩
    cases f with
    | non => simp [m__law_words, fnM_ap, dD, wds, List.replicate, at1_0]
    | say b => cases b <;> simp [m__law_words, fnM_ap, dD, wds, List.replicate, at2_0, at2_1]
    | leaf w t =>
      obtain ⟨hw, ha, hl⟩ := h
      rcases leaf_cases hw with rfl | rfl | rfl | rfl <;> simp [m__law_words, fnM_ap, dD, wds, List.replicate, at2_0, at2_1, leafW, law_word_t]
    | amg ts =>
      obtain ⟨hz, ha⟩ := h
      have hl2 : ts.length ≤ 1000000 := by omega
      have em : ∀ w, B__law_words_3 (m__law_words k) [.sh (.tup [.str "among", .tup (ts.map fun t => .str (S t))]), w, .gone, .gone, .gone] =
          .ok (.val (.ol ((ts.map tw).map .str))) [.sh (.tup [.str "among", .tup (ts.map fun t => .str (S t))]), w, .gone, .gone, .gone] := fun w => by
        rw [← tw_map ts]
        refine eLc_map (w := .sh (.tup (ts.map fun t => .str (S t)))) (by simp [at2_1]) rfl rfl rfl (fun d hd => ?_) (by rw [List.length_map, sizeLine_eq]; omega)
        obtain ⟨t, ht, rfl⟩ := List.mem_map.mp hd
        exact ⟨.val (.sh (.str (tw t))), by simp [law_word_t], rfl⟩
      have e2 : pAdd (.lst [.str "among", .str (nstr ts.length)]) (.lst ((ts.map tw).map .str)) = some (.ol ([.str "among", .str (nstr ts.length)] ++ (ts.map tw).map .str)) := add_ll (by simp; omega)
      have e3 := str_n hl2
      simp only [m__law_words, fnM_ap]
      simp [dD, wds, List.replicate, at2_0, at2_1, e3, -List.map_map]
      simp [em, e2, -List.map_map]
    | neg f =>
      have hl2 : (wds f).length ≤ 1000000 := by rw [wds, List.length_append] at hl; omega
      have ih := lwords_ok hg n k f h (by omega) hl2
      have e2 : pAdd (.lst [.str "not"]) (.lst ((wds f).map .str)) = some (.ol ([.str "not"] ++ (wds f).map .str)) := add_ll (by simp; omega)
      simp [m__law_words, fnM_ap, dD, wds, List.replicate, at2_0, at2_1, ih, e2]
    | grp c fs =>
      obtain ⟨hz, ha⟩ := h
      rw [wds, List.length_append] at hl
      have hl3 : ∀ f ∈ fs, (wds f).length ≤ 1000000 := fun f hf => by
        have e : (wds f).length ≤ (wdss fs).length := by
          rw [wdss_flat]
          exact (List.sublist_flatten_of_mem (List.mem_map.mpr ⟨f, hf, rfl⟩)).length_le
        omega
      have ih : ∀ f ∈ fs, m__law_words k [.sh (dD f)] = .ok (.ol ((wds f).map .str)) [] := fun f hf => lwords_ok hg n k f (ha f hf) (by omega) (hl3 f hf)
      have e3 := str_n (n := fs.length) (by omega)
      have dl : (dDs fs).length = fs.length := by rw [dDs_map, List.length_map]
      obtain ⟨p', el⟩ := lwords_loop (v := .sh (dD (.grp c fs))) (w := .sh (.str (grpW c))) (g := .gone) fs [grpW c, nstr fs.length] .gone ih (by simp; omega)
      have ed : dD (.grp c fs) = .tup [.str (grpW c), .tup (dDs fs)] := by rw [dD]
      rw [ed] at el ⊢
      rw [wds]
      simp only [List.map_cons, List.map_nil] at el
      cases c <;> (simp only [grpW] at el ⊢; simp [m__law_words, B__law_words_2, B__law_words_1, fnM_ap, List.replicate, at2_0, at2_1, e3, dl, sFor_T, el, seqD])
end Gk62
set_option maxRecDepth 100000
set_option maxHeartbeats 4000000
namespace Gk62
open PySem PySem.Spec PyProof.Rows L2 Mi
/-! texts drawn near those of a pool -/
theorem toPs_strs (ys : List Str) : toPs (ys.map .str) = some (ys.map .str) := by
  induction ys with
  | nil => rw [List.map_nil, toPs]; rfl
  | cons y ys ih =>
    rw [List.map_cons, toPs, toP, ih]
    rfl
theorem canAll_strs : ∀ ts : List (List Nat), (∀ t ∈ ts, Abc t ∧ t.length ≤ 12) → PyData.canLayAll0 ((ts.map S).map .str) = true
  | [], _ => rfl
  | t :: ts, h => by
    obtain ⟨a, l⟩ := h t List.mem_cons_self
    have e : PyData.canLay0 (.str (S t)) = true := by
      show PyData.strOk (S t) = true
      unfold PyData.strOk
      rw [Array.all_eq_true']
      intro c hc
      have hc2 : c ∈ t := by simpa [S, SX.S] using hc
      have := a c hc2
      simp
      omega
    rw [List.map_cons, List.map_cons, PyData.canLayAll0, e, canAll_strs ts fun x hx => h x (List.mem_cons_of_mem _ hx)]
    rfl
theorem depthAll_strs (ys : List Str) : PyData.depthAll (ys.map .str) ≤ 1 := by
  induction ys with
  | nil => simp [PyData.depthAll]
  | cons y ys ih =>
    have e : PyData.depth (.str y) ≤ 1 := by simp [PyData.depth]
    simp only [List.map_cons, PyData.depthAll]
    omega
theorem eq_pool_nil (ts : List (List Nat)) (h : ∀ t ∈ ts, Abc t ∧ t.length ≤ 12) : pEq (.lst ((ts.map S).map .str)) (.lst []) = some (.sh (.bl ts.isEmpty)) := by
  rw [eq_nilL (toPs_str (ts.map S))]
  cases ts <;> rfl
def encT (ts : List (List Nat)) : List D := ts.map fun t => .str (S t)
theorem encT_str (ts : List (List Nat)) : encT ts = (ts.map S).map .str := by simp [encT]
theorem add_SS {a b : List Nat} (h : a.length + b.length ≤ 10000) : pAdd (.str (S a)) (.str (S b)) = some (.sh (.str (S (a ++ b)))) := by
  show (if (S a).length + (S b).length ≤ sizeLine then some (W.sh (.str (S a ++ S b))) else none) = _
  rw [SX.S_len, SX.S_len, if_pos (by rw [sizeLine_eq]; omega)]
  exact congrArg (fun z => some (W.sh (D.str z))) (SX.S_cat a b)
theorem sl_to {a : List Nat} {i : Int} (h : 0 ≤ i) (hz : a.length ≤ 10000) : pSl (.str (S a)) .non (.int i) = some (.sh (.str (S (a.take i.toNat)))) := by
  show (if (S a).length ≤ sizeLine then some (W.sh (.str (Txt.slice (S a) none (some i)))) else none) = _
  rw [SX.S_len, if_pos (by rw [sizeLine_eq]; omega)]
  exact congrArg (fun z => some (W.sh (D.str z))) (SX.slice_to h)
theorem sl_but {a : List Nat} (hz : a.length ≤ 10000) : pSl (.str (S a)) .non (.int (-1)) = some (.sh (.str (S (a.take (a.length - 1))))) := by
  show (if (S a).length ≤ sizeLine then some (W.sh (.str (Txt.slice (S a) none (some (-1))))) else none) = _
  rw [SX.S_len, if_pos (by rw [sizeLine_eq]; omega)]
  by_cases h : a = []
  · subst h
    rfl
  · exact congrArg (fun z => some (W.sh (D.str z))) (SX.slice_butlast h)
theorem Abc.take {l : List Nat} (h : Abc l) (n : Nat) : Abc (l.take n) := fun c hc => h c (List.mem_of_mem_take hc)
theorem Abc.app {l m : List Nat} (h : Abc l) (g : Abc m) : Abc (l ++ m) := fun c hc => (List.mem_append.mp hc).elim (h c) (g c)
theorem Abc.one {c : Nat} (h : c = 97 ∨ c = 98 ∨ c = 99) : Abc [c] := fun d hd => by rw [List.mem_singleton] at hd; rw [hd]; exact h
abbrev PoolOk (ts : List (List Nat)) : Prop := ∀ t ∈ ts, Abc t ∧ t.length ≤ 12
theorem near {n : Int} {w : W} {ts : List (List Nat)} (h : Hd n w) (hn : n < 2 ^ 38) (hp : PoolOk ts) (hl : ts.length ≤ 900) :
    ∃ t w', m__law_near [w, .ol (encT ts)] = .ok (.sh (.str (S t))) [w', .ol (encT (ts ++ [t]))] ∧ Hd (n + 30) w' ∧ Abc t ∧ t.length ≤ 12 := by
  obtain ⟨v, w1, e1, h1, v0, v1⟩ := pick (k := 6) h (by omega) (by omega) (by omega)
  have hz : (encT ts).length < sizeLine := by rw [encT, List.length_map, sizeLine_eq]; omega
  have ea : ∀ t : List Nat, encT ts ++ [D.str (S t)] = encT (ts ++ [t]) := fun t => by simp [encT]
  have eq0 : pEq (.lst (encT ts)) (.lst []) = some (.sh (.bl ts.isEmpty)) := by
    rw [encT_str, eq_pool_nil ts hp]
  by_cases c0 : v = 0 ∨ ts = []
  · obtain ⟨t, w2, e2, h2, a2, l2⟩ := text h1 (by omega)
    refine ⟨t, w2, ?_, h2.mono (by omega), a2, l2⟩
    obtain ⟨r, s, q, rfl, _⟩ := h
    obtain ⟨r1, s1, q1, rfl, _⟩ := h1
    obtain ⟨r2, s2, q2, rfl, _⟩ := h2
    rcases c0 with c0 | c0
    · subst c0
      simp [m__law_near, B__law_near_1, fnM_ap, List.replicate, e1, e2, hz, ea]
    · subst c0
      by_cases z : v = 0 <;> simp [m__law_near, B__law_near_1, fnM_ap, List.replicate, e1, e2, z, eq0] <;> simp [encT, sizeLine_eq]
  · have cv : ¬ v = 0 := fun z => c0 (.inl z)
    have ct : ts ≠ [] := fun z => c0 (.inr z)
    have em : ts.isEmpty = false := by cases ts with | nil => exact absurd rfl ct | cons _ _ => rfl
    have lp : 0 < ts.length := List.length_pos_iff.mpr ct
    obtain ⟨u, w2, e2, h2, u0, u1⟩ := pick (k := (ts.length : Int)) h1 (by omega) (by omega) (by omega)
    obtain ⟨j, rfl⟩ : ∃ j : Nat, u = (j : Int) := ⟨u.toNat, by omega⟩
    have hj : j < ts.length := by omega
    have e3 : atI (encT ts) (j : Int) = some (.str (S ts[j])) := atI_nat (by unfold encT; rw [List.getElem?_map, List.getElem?_eq_getElem hj]; rfl)
    obtain ⟨at1, lt1⟩ := hp ts[j] (List.getElem_mem hj)
    generalize ts[j] = b at e3 at1 lt1
    have el : pLen [.lst (encT ts)] = some (.sh (.int (ts.length : Int))) := by rw [len_l, encT, List.length_map]
    obtain ⟨x, w3, e4, h3, x0, x1⟩ := pick (k := 3) h2 (by omega) (by omega) (by omega)
    obtain ⟨c, hc, ec⟩ := ix_abc x0 x1
    have s11 := sl_to (a := b) (i := 11) (by omega) (by omega)
    have sb := sl_but (a := b) (by omega)
    have z11 : (b.take (11 : Int).toNat).length ≤ 11 := by simp; omega
    have zb : (b.take (b.length - 1)).length ≤ 11 := by simp; omega
    have ad1 : pAdd (.str (S (b.take (11 : Int).toNat))) (.str "a") = some (.sh (.str (S (b.take (11 : Int).toNat ++ [97])))) := add_SS (b := [97]) (by simp only [List.length_singleton]; omega)
    have ad2 : pAdd (.str (S (b.take (11 : Int).toNat))) (.str (S [c])) = some (.sh (.str (S (b.take (11 : Int).toNat ++ [c])))) := add_SS (by simp only [List.length_singleton]; omega)
    have ad3 : pAdd (.str (S (b.take (b.length - 1)))) (.str (S [c])) = some (.sh (.str (S (b.take (b.length - 1) ++ [c])))) := add_SS (by simp only [List.length_singleton]; omega)
    have cases6 : v = 1 ∨ v = 2 ∨ v = 3 ∨ v = 4 ∨ v = 5 := by omega
    have ld : (encT ts).length = ts.length := by simp [encT]
    have hz2 : ts.length < sizeLine := by rw [sizeLine_eq]; omega
    obtain ⟨r, s, q, rfl, _⟩ := h
    obtain ⟨r1, s1, q1, rfl, _⟩ := h1
    obtain ⟨r2, s2, q2, rfl, _⟩ := id h2
    obtain ⟨r3, s3, q3, rfl, _⟩ := id h3
    rcases cases6 with rfl | rfl | rfl | rfl | rfl
    · exact ⟨b, _, by simp [m__law_near, B__law_near_1, fnM_ap, List.replicate, e1, eq0, em, el, e2, e3, hz2, ea, ld], h2.mono (by omega), at1, lt1⟩
    · exact ⟨b.take (11 : Int).toNat ++ [97], _, by simp [m__law_near, B__law_near_1, fnM_ap, List.replicate, e1, eq0, em, el, e2, e3, s11, ad1, hz2, ea, ld, -Int.reduceToNat], h2.mono (by omega), (at1.take _).app (.one (.inl rfl)), by simp only [List.length_append, List.length_singleton]; omega⟩
    · exact ⟨b.take (b.length - 1), _, by simp [m__law_near, B__law_near_1, fnM_ap, List.replicate, e1, eq0, em, el, e2, e3, sb, hz2, ea, ld], h2.mono (by omega), at1.take _, by omega⟩
    · exact ⟨b.take (11 : Int).toNat ++ [c], _, by simp [m__law_near, B__law_near_1, fnM_ap, List.replicate, e1, eq0, em, el, e2, e3, s11, e4, ec, ad2, hz2, ea, ld, -Int.reduceToNat], h3.mono (by omega), (at1.take _).app (.one hc), by simp only [List.length_append, List.length_singleton]; omega⟩
    · exact ⟨b.take (b.length - 1) ++ [c], _, by simp [m__law_near, B__law_near_1, fnM_ap, List.replicate, e1, eq0, em, el, e2, e3, sb, e4, ec, ad3, hz2, ea, ld], h3.mono (by omega), (at1.take _).app (.one hc), by simp only [List.length_append, List.length_singleton]; omega⟩
end Gk62
set_option maxRecDepth 100000
set_option maxHeartbeats 4000000
namespace Gk62
open PySem PySem.Spec PyProof.Rows L2 Mi
/-! filters drawn -/
mutual
/-- how many filters, how many texts -/
def nd : Fl → Nat
  | .non => 1 | .say _ => 1 | .leaf _ _ => 1 | .amg _ => 1
  | .neg f => 1 + nd f
  | .grp _ fs => 1 + nds fs
def nds : List Fl → Nat
  | [] => 0
  | f :: fs => nd f + nds fs
end
mutual
def tx : Fl → Nat
  | .non => 0 | .say _ => 0 | .leaf _ _ => 1 | .amg ts => ts.length
  | .neg f => tx f
  | .grp _ fs => txs fs
def txs : List Fl → Nat
  | [] => 0
  | f :: fs => tx f + txs fs
end
theorem nds_app : ∀ a b : List Fl, nds (a ++ b) = nds a + nds b
  | [], b => by simp [nds]
  | f :: a, b => by rw [List.cons_append, nds, nds_app a b, nds]; omega
theorem txs_app : ∀ a b : List Fl, txs (a ++ b) = txs a + txs b
  | [], b => by simp [txs]
  | f :: a, b => by rw [List.cons_append, txs, txs_app a b, txs]; omega
theorem dDs_app (a b : List Fl) : dDs (a ++ b) = dDs a ++ dDs b := by rw [dDs_map, dDs_map, dDs_map, List.map_append]
/-- at most so many draws -/
def qn : Nat → Int
  | 0 => 0
  | l + 1 => 4000 + 12 * qn l
theorem qn_pos : ∀ l, 0 ≤ qn l
  | 0 => by rw [qn]; omega
  | l + 1 => by
    have := qn_pos l
    rw [qn]
    omega
abbrev rm (a b : Int) : W := .ol [.int a, .int b]
/-- what a draw of a filter comes to -/
def QOk (m : FM) (L : Nat) : Prop := ∀ (n : Int) (w : W) (ts : List (List Nat)) (r0 r1 : Int), Hd n w → n + qn L < 2 ^ 37 → PoolOk ts → ts.length + r1 ≤ 100 → 1 ≤ r0 → 0 ≤ r1 → r0 ≤ 100 →
  ∃ (f : Fl) (w' : W) (ts' : List (List Nat)) (r0' r1' : Int), m [w, .ol (encT ts), rm r0 r1, .sh (.int (L : Int))] = .ok (.sh (dD f)) [w', .ol (encT ts'), rm r0' r1'] ∧ Hd (n + qn L) w' ∧ PoolOk ts' ∧ ts'.length + r1' ≤ ts.length + r1 ∧ Okf 12 100 L f ∧ 0 ≤ r0' ∧ 0 ≤ r1' ∧ (nd f : Int) + r0' ≤ r0 ∧ (tx f : Int) + r1' ≤ r1
noncomputable abbrev eNr : EM := eCallI m__law_near [true, true] (aCons (eV 0) (aCons (eV 1) aNil))
theorem near_loop {x r l v s p : W} : ∀ (ds acc : List D) (n : Int) (w : W) (ts : List (List Nat)), Hd n w → n + 30 * ds.length < 2 ^ 38 → PoolOk ts → ts.length + ds.length ≤ 200 → acc.length + ds.length ≤ 1000 →
    ∃ (us : List (List Nat)) (w' : W) (ts' : List (List Nat)), compGo (fun _ => True) (.nm 7) bYes eNr [7] ds acc [w, .ol (encT ts), r, l, v, s, p, .gone] = .ok (.val (.ol (acc ++ us.map fun t => .str (S t)))) [w', .ol (encT ts'), r, l, v, s, p, .gone] ∧ Hd (n + 30 * ds.length) w' ∧ PoolOk ts' ∧ ts'.length = ts.length + ds.length ∧ us.length = ds.length ∧ ∀ t ∈ us, Abc t ∧ t.length ≤ 12
  | [], acc, n, w, ts, h, _, hp, _, _ => ⟨[], w, ts, by rw [compGo_nil trivial]; simp, by simpa using h, hp, rfl, rfl, fun t ht => by cases ht⟩
  | d :: ds, acc, n, w, ts, h, hn, hp, hl, ha => by
    simp only [List.length_cons] at hn hl ha
    obtain ⟨t, w1, e1, h1, a1, l1⟩ := near h (by omega) hp (by omega)
    have hp1 : PoolOk (ts ++ [t]) := fun u hu => by
      rcases List.mem_append.mp hu with z | z
      · exact hp u z
      · rw [List.mem_singleton] at z
        rw [z]
        exact ⟨a1, l1⟩
    obtain ⟨us, w', ts', e2, h2, hp2, l2, l3, ha2⟩ := near_loop (x := x) (r := r) (l := l) (v := v) (s := s) (p := p) ds (acc ++ [.str (S t)]) (n + 30) w1 (ts ++ [t]) h1 (by omega) hp1 (by simp; omega) (by simp; omega)
    refine ⟨t :: us, w', ts', ?_, h2.mono (by simp; omega), hp2, by rw [l2]; simp; omega, by simp [l3], fun u hu => ?_⟩
    · obtain ⟨r0, s0, q0, rfl, _⟩ := h
      have et : eNr [.ol [.int r0, .int s0, .int q0], .ol (encT ts), r, l, v, s, p, .sh d] = .ok (.val (.sh (.str (S t)))) [w1, .ol (encT (ts ++ [t])), r, l, v, s, p, .sh d] := by
        simp [eNr, e1]
      rw [compGo_cons trivial, asg_nm]
      show (match eNr [.ol [.int r0, .int s0, .int q0], .ol (encT ts), r, l, v, s, p, .sh d] with
        | .ok o env3 => (match sres o env3 with
          | some y => if acc.length < sizeLine then compGo (fun _ => True) (.nm 7) bYes eNr [7] ds (acc ++ [y]) (clr [7] env3) else .stuck
          | none => .stuck)
        | .err x env3 => .err x (clr [7] env3)
        | .stuck => .stuck) = _
      rw [et]
      simp only [sres_sh]
      rw [if_pos (by rw [sizeLine_eq]; omega)]
      show compGo (fun _ => True) (.nm 7) bYes eNr [7] ds (acc ++ [.str (S t)]) [w1, .ol (encT (ts ++ [t])), r, l, v, s, p, .gone] = _
      rw [e2]
      simp
    · rcases List.mem_cons.mp hu with z | z
      · rw [z]
        exact ⟨a1, l1⟩
      · exact ha2 u z
noncomputable abbrev bQ (fu : Nat) : SM := sIf (bE (eP2 pGt (eP2 pIx (eV 2) (eC (.int 0))) (eC (.int 0))))
  (sApp 6 (eCallI (m__law_query fu) [true, true, true] (aCons (eV 0) (aCons (eV 1) (aCons (eV 2) (aCons (eP2 pSub (eV 3) (eC (.int 1))) aNil))))))
  sNx
theorem query_loop {fu L : Nat} (hq : QOk (m__law_query fu) L) {v s : W} : ∀ (ds : List D) (fs : List Fl) (n : Int) (w : W) (ts : List (List Nat)) (r0 r1 : Int) (x : W), Hd n w → n + qn L * ds.length < 2 ^ 37 → PoolOk ts → ts.length + r1 ≤ 100 → 0 ≤ r0 → 0 ≤ r1 → r0 ≤ 100 → fs.length + ds.length ≤ 100 → (∀ f ∈ fs, Okf 12 100 L f) →
    ∃ (fs' : List Fl) (w' : W) (ts' : List (List Nat)) (r0' r1' : Int) (x' : W), forT (.nm 7) (bQ fu) ds [w, .ol (encT ts), rm r0 r1, .sh (.int ((L : Int) + 1)), v, s, .ol (dDs fs), x] = .ok .nx [w', .ol (encT ts'), rm r0' r1', .sh (.int ((L : Int) + 1)), v, s, .ol (dDs fs'), x'] ∧
      Hd (n + qn L * ds.length) w' ∧ PoolOk ts' ∧ ts'.length + r1' ≤ ts.length + r1 ∧ 0 ≤ r0' ∧ 0 ≤ r1' ∧ (nds fs' : Int) + r0' ≤ nds fs + r0 ∧ (txs fs' : Int) + r1' ≤ txs fs + r1 ∧ fs'.length ≤ fs.length + ds.length ∧ ∀ f ∈ fs', Okf 12 100 L f
  | [], fs, n, w, ts, r0, r1, x, h, _, hp, _, h0, h1, _, _, hf => ⟨fs, w, ts, r0, r1, x, rfl, by simpa using h, hp, by omega, h0, h1, by omega, by omega, by simp, hf⟩
  | d :: ds, fs, n, w, ts, r0, r1, x, h, hn, hp, hl, h0, h1, h2, hs, hf => by
    simp only [List.length_cons] at hn hs
    have hq0 := qn_pos L
    have em : qn L * ((ds.length + 1 : Nat) : Int) = qn L * ds.length + qn L := by rw [Int.natCast_add, Int.mul_add]; simp
    rw [em] at hn
    have hm : 0 ≤ qn L * (ds.length : Int) := Int.mul_nonneg hq0 (by omega)
    by_cases c : 0 < r0
    · obtain ⟨f, w1, ts1, r01, r11, e1, hd1, hp1, hl1, hk, a0, a1, b0, b1⟩ := hq n w ts r0 r1 h (by omega) hp hl (by omega) h1 h2
      obtain ⟨fs', w', ts', r0', r1', x', e2, hd2, hp2, hl2, a2, a3, b2, b3, ln, hk2⟩ := query_loop hq (v := v) (s := s) ds (fs ++ [f]) (n + qn L) w1 ts1 r01 r11 (.sh d) hd1 (by omega) hp1 (by omega) a0 a1 (by omega) (by simp; omega) (fun g hg => by
        rcases List.mem_append.mp hg with z | z
        · exact hf g z
        · rw [List.mem_singleton] at z
          rw [z]
          exact hk)
      rw [nds_app, nds, nds] at b2
      rw [txs_app, txs, txs] at b3
      refine ⟨fs', w', ts', r0', r1', x', ?_, hd2.mono (by simp only [List.length_cons]; rw [em]; omega), hp2, by omega, a2, a3, by omega, by omega, by simp at ln ⊢; omega, hk2⟩
      have hz : (dDs fs).length < sizeLine := by rw [dDs_map, List.length_map, sizeLine_eq]; omega
      have ed : dDs fs ++ [dD f] = dDs (fs ++ [f]) := by rw [dDs_app, dDs, dDs]
      have el : (L : Int) + 1 - 1 = L := by omega
      have eb : bQ fu [w, .ol (encT ts), rm r0 r1, .sh (.int ((L : Int) + 1)), v, s, .ol (dDs fs), .sh d] = .ok .nx [w1, .ol (encT ts1), rm r01 r11, .sh (.int ((L : Int) + 1)), v, s, .ol (dDs (fs ++ [f])), .sh d] := by
        obtain ⟨q0, q1, q2, rfl, _⟩ := h
        simp [bQ, at2_0, c, el, e1, hz, ed]
      rw [forT, asg_nm]
      show (bQ fu [w, .ol (encT ts), rm r0 r1, .sh (.int ((L : Int) + 1)), v, s, .ol (dDs fs), .sh d]).bind _ = _
      rw [eb, bind_ok]
      exact e2
    · obtain ⟨fs', w', ts', r0', r1', x', e2, hd2, hp2, hl2, a2, a3, b2, b3, ln, hk2⟩ := query_loop hq (v := v) (s := s) ds fs n w ts r0 r1 (.sh d) h (by omega) hp hl h0 h1 h2 (by omega) hf
      refine ⟨fs', w', ts', r0', r1', x', ?_, hd2.mono (by simp only [List.length_cons]; rw [em]; omega), hp2, hl2, a2, a3, b2, b3, by simp at ln ⊢; omega, hk2⟩
      have eb : bQ fu [w, .ol (encT ts), rm r0 r1, .sh (.int ((L : Int) + 1)), v, s, .ol (dDs fs), .sh d] = .ok .nx [w, .ol (encT ts), rm r0 r1, .sh (.int ((L : Int) + 1)), v, s, .ol (dDs fs), .sh d] := by
        simp [bQ, at2_0, c]
      rw [forT, asg_nm]
      show (bQ fu [w, .ol (encT ts), rm r0 r1, .sh (.int ((L : Int) + 1)), v, s, .ol (dDs fs), .sh d]).bind _ = _
      rw [eb, bind_ok]
      exact e2
end Gk62
set_option maxRecDepth 100000
set_option maxHeartbeats 4000000
namespace Gk62
open PySem PySem.Spec PyProof.Rows L2 Mi
theorem and_or {v : Int} (h : 0 ≤ v) : ∃ c : Bool, atI [D.str "and", .str "or"] (v % 2) = some (.str (grpW c)) := by
  have h1 : v % 2 = 0 ∨ v % 2 = 1 := by omega
  rcases h1 with e | e <;> rw [e]
  · exact ⟨true, rfl⟩
  · exact ⟨false, rfl⟩
theorem four {v : Int} (h : 0 ≤ v) : ∃ c : Nat, c < 4 ∧ atI [D.str "is", .str "below", .str "above", .str "begins"] (v % 4) = some (.str (leafW c)) := by
  have h1 : v % 4 = 0 ∨ v % 4 = 1 ∨ v % 4 = 2 ∨ v % 4 = 3 := by omega
  rcases h1 with e | e | e | e <;> rw [e]
  · exact ⟨0, by omega, rfl⟩
  · exact ⟨1, by omega, rfl⟩
  · exact ⟨2, by omega, rfl⟩
  · exact ⟨3, by omega, rfl⟩
theorem ix20 : ixN 2 0 = some 0 := by decide
theorem ix21 : ixN 2 1 = some 1 := by decide
theorem mod2 {v : Int} : gMod v 2 = some (v % 2) := mod_p (by omega)
theorem mod4 {v : Int} : gMod v 4 = some (v % 4) := mod_p (by omega)
theorem qn_step (l : Nat) : 4000 ≤ qn (l + 1) ∧ qn l + 100 ≤ qn (l + 1) ∧ 12 * qn l + 300 ≤ qn (l + 1) := by
  have := qn_pos l
  rw [qn]
  omega
theorem query_step (l k : Nat) (ih : 1 ≤ l → QOk (m__law_query k) l) : QOk (m__law_query (k + 1)) (l + 1) := by
  intro n w ts r0 r1 h hn hp hl h0 h1 h2
  obtain ⟨qs, qs1, qs2⟩ := qn_step l
  obtain ⟨v, w1, e1, hd1, v0, v1⟩ := pick (k := 14) h (by omega) (by omega) (by omega)
  have L1 : ((l + 1 : Nat) : Int) = (l : Int) + 1 := by omega
  rw [L1]
  by_cases C : 6 < v ∧ 1 ≤ l ∧ 1 < r0
  · obtain ⟨c1, c2, c3⟩ := C
    have g2 : (1 : Int) < (l : Int) + 1 := by omega
    have g3 : (0 : Int) < r0 - 1 := by omega
    have hq := ih c2
    have el : (l : Int) + 1 - 1 = l := by omega
    have top : ∀ {f : Fl} {w' : W} {ts' : List (List Nat)} {a b : Int} {y4 y5 y6 y7 y8 : W}, B__law_query_2 (m__law_query k) [w1, .ol (encT ts), rm (r0 - 1) r1, .sh (.int ((l : Int) + 1)), .sh (.int v), .gone, .gone, .gone] = .ok (.rt (.sh (dD f))) [w', .ol (encT ts'), rm a b, y4, y5, y6, y7, y8] →
        m__law_query (k + 1) [w, .ol (encT ts), rm r0 r1, .sh (.int ((l : Int) + 1))] = .ok (.sh (dD f)) [w', .ol (encT ts'), rm a b] := fun {f w' ts' a b y4 y5 y6 y7 y8} e => by
      obtain ⟨q0, q1, q2, rfl, _⟩ := h
      obtain ⟨p0, p1, p2, rfl, _⟩ := hd1
      simp only [rm] at e
      simp [m__law_query, fnM_ap, List.replicate, at2_0, at2_1, ix20, e1, c1, c2, c3, g2, g3, e]
    by_cases c4 : v < 9
    · obtain ⟨f, w', ts', r0', r1', e2, hd2, hp2, hl2, hk, a0, a1, b0, b1⟩ := hq (n + 1) w1 ts (r0 - 1) r1 hd1 (by omega) hp hl (by omega) h1 (by omega)
      refine ⟨.neg f, w', ts', r0', r1', top (y4 := .sh (.int ((l : Int) + 1))) (y5 := .sh (.int v)) (y6 := .gone) (y7 := .gone) (y8 := .gone) ?_, hd2.mono (by omega), hp2, hl2, hk, a0, a1, by rw [nd]; omega, by rw [tx]; omega⟩
      obtain ⟨p0, p1, p2, rfl, _⟩ := hd1
      simp [B__law_query_2, c4, el, e2, dD]
    · obtain ⟨c, ec⟩ := and_or v0
      obtain ⟨s, w2, e2, hd2, s0, s1⟩ := pick (k := 5) hd1 (by omega) (by omega) (by omega)
      have size : ∃ (z : Int) (w3 : W), 0 ≤ z ∧ z ≤ 11 ∧ Hd (n + 3) w3 ∧ ((s = 4 ∧ ∃ u : Int, m__law_pick [w2, .sh (.int 8)] = .ok (.sh (.int u)) [w3] ∧ 4 + u = z) ∨ (¬ s = 4 ∧ s = z ∧ w3 = w2)) := by
        by_cases c5 : s = 4
        · obtain ⟨u, w3, e3, hd3, u0, u1⟩ := pick (k := 8) hd2 (by omega) (by omega) (by omega)
          exact ⟨4 + u, w3, by omega, by omega, hd3.mono (by omega), .inl ⟨c5, u, e3, by omega⟩⟩
        · exact ⟨s, w2, by omega, by omega, hd2.mono (by omega), .inr ⟨c5, by omega, rfl⟩⟩
      obtain ⟨z, w3, z0, hz, hd3, es⟩ := size
      have hmz : qn l * (z.toNat : Int) ≤ qn l * 11 := Int.mul_le_mul_of_nonneg_left (by omega) (qn_pos l)
      have hmz0 : 0 ≤ qn l * (z.toNat : Int) := Int.mul_nonneg (qn_pos l) (by omega)
      obtain ⟨fs', w', ts', r0', r1', x', e4, hd4, hp4, hl4, a0, a1, b0, b1, ln, hk⟩ := query_loop hq (v := .sh (.int v)) (s := .sh (.int z)) (rngD 0 z.toNat) [] (n + 3) w3 ts (r0 - 1) r1 .gone hd3
        (by rw [rngD_len]; omega) hp hl (by omega) h1 (by omega) (by rw [rngD_len]; simp; omega) (fun f hf => by cases hf)
      rw [rngD_len] at hd4 ln
      simp only [nds, txs] at b0 b1
      simp only [dDs] at e4
      have e6 : B__law_query_1 (m__law_query k) [w3, .ol (encT ts), rm (r0 - 1) r1, .sh (.int ((l : Int) + 1)), .sh (.int v), .sh (.int z), .ol [], .gone] = .ok .nx [w', .ol (encT ts'), rm r0' r1', .sh (.int ((l : Int) + 1)), .sh (.int v), .sh (.int z), .ol (dDs fs'), x'] := by
        obtain ⟨y3, y4, y5, rfl, _⟩ := hd3
        have z6 := sForR1_eqI (m := eV 5) (t := .nm 7) (body := bQ k) (z := z) (o := .slot 5) (env := [.ol [.int y3, .int y4, .int y5], .ol (encT ts), rm (r0 - 1) r1, .sh (.int ((l : Int) + 1)), .sh (.int v), .sh (.int z), .ol [], .gone]) (env1 := [.ol [.int y3, .int y4, .int y5], .ol (encT ts), rm (r0 - 1) r1, .sh (.int ((l : Int) + 1)), .sh (.int v), .sh (.int z), .ol [], .gone]) rfl rfl z0 (by omega)
        exact z6.trans e4
      simp only [rm] at e6
      have pt : pTuple [.lst (dDs fs')] = some (.sh (.tup (dDs fs'))) := rfl
      refine ⟨.grp c fs', w', ts', r0', r1', top (y4 := .sh (.int ((l : Int) + 1))) (y5 := .sh (.int v)) (y6 := .sh (.int z)) (y7 := .ol (dDs fs')) (y8 := x') ?_, hd4.mono (by omega), hp4, hl4, ⟨by simp at ln; omega, hk⟩, a0, a1, by rw [nd]; omega, by rw [tx]; omega⟩
      obtain ⟨p0, p1, p2, rfl, _⟩ := hd1
      obtain ⟨p3, p4, p5, rfl, _⟩ := hd2
      rcases es with ⟨c5, u, e3, e5⟩ | ⟨c5, e5, e7⟩
      · subst c5
        simp [B__law_query_2, c4, e2, e3, e5, e6, mod2, ec, pt, dD]
      · cases e7
        subst e5
        simp [B__law_query_2, c4, e2, c5, e6, mod2, ec, pt, dD]
  · have hc : ¬ (6 < v ∧ 1 < (l : Int) + 1 ∧ 0 < r0 - 1) := fun ⟨z1, z2, z3⟩ => C ⟨z1, by omega, by omega⟩
    obtain ⟨b, w2, e2, hd2, b0, b1⟩ := pick (k := 2) hd1 (by omega) (by omega) (by omega)
    obtain ⟨z, w3, e3, hd3, z0, z1⟩ := pick (k := r1 + 1) hd1 (by omega) (by omega) (by omega)
    obtain ⟨us, w4, ts4, e4, hd4, hp4, l4, l5, a5⟩ := near_loop (x := .gone) (r := rm (r0 - 1) (r1 - z)) (l := .sh (.int ((l : Int) + 1))) (v := .sh (.int v)) (s := .sh (.int z)) (p := .gone) (rngD 0 z.toNat) [] (n + 2) w3 ts (hd3.mono (by omega)) (by rw [rngD_len]; omega) hp (by rw [rngD_len]; omega) (by rw [rngD_len]; simp; omega)
    rw [rngD_len] at hd4 l4 l5
    obtain ⟨t, w5, e5, hd5, a6, l6⟩ := near hd1 (by omega) hp (by omega)
    obtain ⟨c, hc4, ec⟩ := four v0
    obtain ⟨q0, q1, q2, rfl, _⟩ := h
    obtain ⟨p0, p1, p2, rfl, _⟩ := id hd1
    by_cases c1 : v = 1
    · subst c1
      refine ⟨.say (decide (b = 1)), w2, ts, r0 - 1, r1, ?_, hd2.mono (by omega), hp, by omega, trivial, by omega, h1, by rw [nd]; omega, by rw [tx]; omega⟩
      simp [m__law_query, fnM_ap, List.replicate, at2_0, at2_1, ix20, e1, e2, dD]
    · by_cases c2 : v = 2
      · subst c2
        refine ⟨.amg us, w4, ts4, r0 - 1, r1 - z, ?_, hd4.mono (by omega), hp4, by omega, ⟨by omega, a5⟩, by omega, by omega, by rw [nd]; omega, by rw [tx]; omega⟩
        have em : B__law_query_4 (m__law_query k) [.ol [.int p0, .int p1, .int p2], .ol (encT ts), rm (r0 - 1) r1, .sh (.int ((l : Int) + 1)), .sh (.int 2), .gone, .gone, .gone] = .ok (.rt (.sh (dD (.amg us)))) [w4, .ol (encT ts4), rm (r0 - 1) (r1 - z), .sh (.int ((l : Int) + 1)), .sh (.int 2), .sh (.int z), .gone, .gone] := by
          obtain ⟨y0, y1, y2, rfl, _⟩ := hd3
          have em : B__law_query_3 (m__law_query k) [.ol [.int y0, .int y1, .int y2], .ol (encT ts), rm (r0 - 1) (r1 - z), .sh (.int ((l : Int) + 1)), .sh (.int 2), .sh (.int z), .gone, .gone] = .ok (.val (.ol (us.map fun t => .str (S t)))) [w4, .ol (encT ts4), rm (r0 - 1) (r1 - z), .sh (.int ((l : Int) + 1)), .sh (.int 2), .sh (.int z), .gone, .gone] := by
            have z6 := eLcR_eqI (e := eV 5) (m := eNr) (t := .nm 7) (vs := [7]) (z := z) (o := .slot 5) (env := [.ol [.int y0, .int y1, .int y2], .ol (encT ts), rm (r0 - 1) (r1 - z), .sh (.int ((l : Int) + 1)), .sh (.int 2), .sh (.int z), .gone, .gone]) (env1 := [.ol [.int y0, .int y1, .int y2], .ol (encT ts), rm (r0 - 1) (r1 - z), .sh (.int ((l : Int) + 1)), .sh (.int 2), .sh (.int z), .gone, .gone]) rfl rfl z0 (by omega)
            exact z6.trans e4
          have pt : pTuple [.lst (us.map fun t => .str (S t))] = some (.sh (.tup (us.map fun t => .str (S t)))) := rfl
          simp only [rm] at em
          simp [B__law_query_4, at2_0, at2_1, ix21, e3, em, dD, pt]
        simp only [rm] at em
        simp [m__law_query, fnM_ap, List.replicate, at2_0, at2_1, ix20, ix21, e1, em]
      · by_cases c3 : v = 0 ∨ r1 = 0
        · refine ⟨.non, _, ts, r0 - 1, r1, ?_, hd1.mono (by omega), hp, by omega, trivial, by omega, h1, by rw [nd]; omega, by rw [tx]; omega⟩
          rcases c3 with c3 | c3
          · subst c3
            simp [m__law_query, fnM_ap, List.replicate, at2_0, at2_1, ix20, e1, dD]
          · subst c3
            by_cases c4 : 6 < v
            · have g : ¬ (1 < (l : Int) + 1 ∧ 0 < r0 - 1) := fun z => hc ⟨c4, z⟩
              by_cases g2 : (0 : Int) < (l : Int)
              · have g3 : ¬ 1 < r0 := fun z => g ⟨by omega, by omega⟩
                simp [m__law_query, fnM_ap, List.replicate, at2_0, at2_1, ix20, e1, dD, c1, c2, c4, g2, g3]
              · have g2' : l = 0 := by omega
                subst g2'
                simp [m__law_query, fnM_ap, List.replicate, at2_0, at2_1, ix20, e1, dD, c1, c2, c4]
            · simp [m__law_query, fnM_ap, List.replicate, at2_0, at2_1, ix20, e1, dD, c1, c2, c4]
        · have c5 : ¬ v = 0 := fun z => c3 (.inl z)
          have c6 : ¬ r1 = 0 := fun z => c3 (.inr z)
          refine ⟨.leaf c t, w5, ts ++ [t], r0 - 1, r1 - 1, ?_, hd5.mono (by omega), fun u hu => ?_, by simp; omega, ⟨hc4, a6, l6⟩, by omega, by omega, by rw [nd]; omega, by rw [tx]; omega⟩
          · by_cases c4 : 6 < v
            · have g : ¬ (1 < (l : Int) + 1 ∧ 0 < r0 - 1) := fun z => hc ⟨c4, z⟩
              by_cases g2 : (0 : Int) < (l : Int)
              · have g3 : ¬ 1 < r0 := fun z => g ⟨by omega, by omega⟩
                simp [m__law_query, fnM_ap, List.replicate, at2_0, at2_1, ix20, ix21, e1, dD, c1, c2, c4, g2, g3, c5, c6, mod4, ec, e5]
              · have g2' : l = 0 := by omega
                subst g2'
                simp [m__law_query, fnM_ap, List.replicate, at2_0, at2_1, ix20, ix21, e1, dD, c1, c2, c4, c5, c6, mod4, ec, e5]
            · simp [m__law_query, fnM_ap, List.replicate, at2_0, at2_1, ix20, ix21, e1, dD, c1, c2, c4, c5, c6, mod4, ec, e5]
          · rcases List.mem_append.mp hu with z | z
            · exact hp u z
            · rw [List.mem_singleton] at z
              rw [z]
              exact ⟨a6, l6⟩
theorem query_ok : ∀ (L fu : Nat), 1 ≤ L → L ≤ fu → QOk (m__law_query fu) L
  | 0, fu, h, _ => by omega
  | l + 1, 0, _, hf => by omega
  | l + 1, k + 1, _, hf => query_step l k fun h => query_ok l k h (by omega)
end Gk62
set_option maxRecDepth 100000
set_option maxHeartbeats 4000000
namespace Gk62
open PySem PySem.Spec PyProof.Rows L2 Mi
/-! the words of a filter, put together and parted; its repr -/
theorem S_cps (x : Str) : S x.cps.toList = x := by simp [S, SX.S]
theorem split_join {ws : List Str} (h : ws ≠ []) (hs : ∀ w ∈ ws, 32 ∉ w.cps.toList) : Txt.split (Txt.join " " ws) " " = ws := by
  have e0 : ws = (ws.map fun w => w.cps.toList).map S := by
    rw [List.map_map]
    conv => lhs; rw [← List.map_id ws]
    exact List.map_congr_left fun w _ => (S_cps w).symm
  have e1 : Txt.join (" " : Str) ws = S (TL.joinL [32] (ws.map fun w => w.cps.toList)) := by
    conv => lhs; rw [e0]
    exact SX.join_S [32] _
  rw [e1]
  have e2 := SX.split_S (a := TL.joinL [32] (ws.map fun w => w.cps.toList)) (b := [32]) (by simp) (by decide)
  have e3 : TL.spl [32] 0 [] (TL.joinL [32] (ws.map fun w => w.cps.toList)) = ws.map fun w => w.cps.toList := SX.spl_join (c := 32) (sep := []) (by simpa using h) fun p hp => by
    obtain ⟨w, hw, rfl⟩ := List.mem_map.mp hp
    exact hs w hw
  rw [e3, ← e0] at e2
  exact e2
theorem txts_map : ∀ ys : List Str, txts (ys.map .str) = some ys
  | [] => rfl
  | y :: ys => by
    show (txts (ys.map .str)).map (fun zs => y :: zs) = _
    rw [txts_map ys]
    rfl
theorem pJoin_ws {ws : List Str} (h : (ws.map (·.length)).sum + ws.length ≤ 16777216) : pJoin [.str " ", .lst (ws.map .str)] = some (.sh (.str (Txt.join " " ws))) := by
  show (txts (ws.map .str)).bind (fun ys => if (ys.map (·.length)).sum + ys.length * (" " : Str).length ≤ 16777216 then some (W.sh (.str (Txt.join " " ys))) else none) = _
  rw [txts_map]
  show (if _ then _ else _) = _
  have z : (" " : Str).length = 1 := rfl
  rw [if_pos (by rw [z]; omega)]
/-- a word: without a blank, of at most 40 signs -/
def Wd (w : Str) : Prop := (32 ∉ w.cps.toList ∧ w.length ≤ 40) ∧ ∀ c ∈ w.cps.toList, c < 200
theorem wd_lit {w : Str} (h0 : ((!w.cps.toList.contains 32 && decide (w.length ≤ 40)) && w.cps.toList.all fun c => decide (c < 200)) = true) : Wd w := by
  rw [Bool.and_eq_true, Bool.and_eq_true] at h0
  obtain ⟨h, h3⟩ := h0
  refine ⟨⟨fun hc => ?_, of_decide_eq_true h.2⟩, fun c hc => of_decide_eq_true (List.all_eq_true.mp h3 c hc)⟩
  have z := List.contains_iff_mem.mpr hc
  have h1 := h.1
  rw [z] at h1
  cases h1
theorem wd_num_all : ((List.range 1000).all fun n => (!(nstr n).cps.toList.contains 32 && decide ((nstr n).length ≤ 40)) && (nstr n).cps.toList.all fun c => decide (c < 200)) = true := by decide +kernel
theorem wd_num {n : Nat} (h : n ≤ 999) : Wd (nstr n) := wd_lit (List.all_eq_true.mp wd_num_all n (List.mem_range.mpr (by omega)))
theorem wd_abc {l : List Nat} (h : Abc l) (hz : l.length ≤ 40) : Wd (S l) := ⟨⟨fun hc => by
  have hc2 : 32 ∈ l := by simpa [S, SX.S] using hc
  have := h 32 hc2
  omega, by rw [SX.S_len]; exact hz⟩, fun c hc => by
  have hc2 : c ∈ l := by simpa [S, SX.S] using hc
  have := h c hc2
  omega⟩
theorem wd_tw {t : List Nat} (h : Abc t) (hz : t.length ≤ 40) : Wd (tw t) := by
  unfold tw
  split
  · exact wd_lit (by decide +kernel)
  · exact wd_abc h hz
theorem wd_leaf (w : Nat) : Wd (leafW w) := by
  unfold leafW
  split <;> exact wd_lit (by decide +kernel)
theorem wd_grp (c : Bool) : Wd (grpW c) := by cases c <;> exact wd_lit (by decide +kernel)
theorem wds_wd {mt mg : Nat} (h1 : mt ≤ 40) (h2 : mg ≤ 999) : ∀ (n : Nat) (f : Fl), Okf mt mg n f → ∀ w ∈ wds f, Wd w
  | 0, f, h => by cases f <;> exact absurd h (by simp [Okf])
  | n + 1, f, h => by
    intro w hw
    cases f with
    | non =>
      simp [wds] at hw
      subst hw
      exact wd_lit (by decide +kernel)
    | say b =>
      cases b <;> simp [wds] at hw <;> rcases hw with rfl | rfl <;> exact wd_lit (by decide +kernel)
    | leaf k t =>
      obtain ⟨_, ha, hz⟩ := h
      simp [wds] at hw
      rcases hw with rfl | rfl
      · exact wd_leaf k
      · exact wd_tw ha (by omega)
    | amg ts =>
      obtain ⟨hz, ha⟩ := h
      simp only [wds, List.mem_append, List.mem_cons, List.not_mem_nil, or_false, List.mem_map] at hw
      rcases hw with (rfl | rfl) | ⟨t, ht, rfl⟩
      · exact wd_lit (by decide +kernel)
      · exact wd_num (by omega)
      · exact wd_tw (ha t ht).1 (by have := (ha t ht).2; omega)
    | neg f =>
      simp only [wds, List.mem_append, List.mem_cons, List.not_mem_nil, or_false] at hw
      rcases hw with rfl | hw
      · exact wd_lit (by decide +kernel)
      · exact wds_wd h1 h2 n f h w hw
    | grp c fs =>
      obtain ⟨hz, ha⟩ := h
      simp only [wds, wdss_flat, List.mem_append, List.mem_cons, List.not_mem_nil, or_false, List.mem_flatten, List.mem_map] at hw
      rcases hw with (rfl | rfl) | ⟨l, ⟨f, hf, rfl⟩, hw⟩
      · exact wd_grp c
      · exact wd_num (by omega)
      · exact wds_wd h1 h2 n f (ha f hf) w hw
theorem sum_wd : ∀ {ws : List Str}, (∀ w ∈ ws, Wd w) → (ws.map (·.length)).sum ≤ 40 * ws.length
  | [], _ => by simp
  | w :: ws, h => by
    have := sum_wd fun x hx => h x (List.mem_cons_of_mem _ hx)
    have := (h w List.mem_cons_self).1.2
    simp only [List.map_cons, List.sum_cons, List.length_cons]
    omega
mutual
theorem wds_len : ∀ f : Fl, 1 ≤ (wds f).length ∧ (wds f).length ≤ 2 * nd f + tx f
  | .non => by simp [wds, nd, tx]
  | .say b => by simp [wds, nd, tx]
  | .leaf w t => by simp [wds, nd, tx]
  | .amg ts => by simp [wds, nd, tx]; omega
  | .neg f => by
    have := wds_len f
    simp [wds, nd, tx]
    omega
  | .grp c fs => by
    have := wdss_len fs
    simp [wds, nd, tx]
    omega
theorem wdss_len : ∀ fs : List Fl, (wdss fs).length ≤ 2 * nds fs + txs fs
  | [] => by simp [wdss, nds, txs]
  | f :: fs => by
    have := wds_len f
    have := wdss_len fs
    simp [wdss, nds, txs]
    omega
end
theorem mem_joinL {c : Nat} : ∀ {ls : List (List Nat)}, c ∈ TL.joinL [32] ls → c = 32 ∨ ∃ l ∈ ls, c ∈ l
  | [], h => by cases h
  | [l], h => .inr ⟨l, List.mem_cons_self, h⟩
  | l :: m :: r, h => by
    rw [TL.joinL] at h
    rcases List.mem_append.mp h with h | h
    · exact .inr ⟨l, List.mem_cons_self, h⟩
    · rcases List.mem_cons.mp (show c ∈ 32 :: TL.joinL [32] (m :: r) from h) with h | h
      · exact .inl h
      · rcases mem_joinL h with z | ⟨x, hx, hc⟩
        · exact .inl z
        · exact .inr ⟨x, List.mem_cons_of_mem _ hx, hc⟩
theorem joinL_len : ∀ (ls : List (List Nat)), (TL.joinL [32] ls).length ≤ (ls.map (·.length)).sum + ls.length
  | [] => by simp [TL.joinL]
  | [l] => by simp [TL.joinL]
  | l :: m :: r => by
    have := joinL_len (m :: r)
    rw [TL.joinL]
    simp only [List.length_append, List.length_cons, List.length_nil, List.map_cons, List.sum_cons] at this ⊢
    omega
theorem join_eq (ws : List Str) : Txt.join (" " : Str) ws = S (TL.joinL [32] (ws.map fun w => w.cps.toList)) := by
  have e0 : ws = (ws.map fun w => w.cps.toList).map S := by
    rw [List.map_map]
    conv => lhs; rw [← List.map_id ws]
    exact List.map_congr_left fun w _ => (S_cps w).symm
  conv => lhs; rw [e0]
  exact SX.join_S [32] _
theorem join_small {ws : List Str} (h : ∀ w ∈ ws, Wd w) : ∀ c ∈ (Txt.join (" " : Str) ws).cps.toList, c < 200 := fun c hc => by
  rw [join_eq] at hc
  have hc2 : c ∈ TL.joinL [32] (ws.map fun w => w.cps.toList) := by simpa [S, SX.S] using hc
  rcases mem_joinL hc2 with z | ⟨l, hl, hc⟩
  · omega
  · obtain ⟨w, hw, rfl⟩ := List.mem_map.mp hl
    exact (h w hw).2 c hc
theorem join_len {ws : List Str} (h : ∀ w ∈ ws, Wd w) : (Txt.join (" " : Str) ws).length ≤ 41 * ws.length := by
  rw [join_eq, SX.S_len]
  have h1 := joinL_len (ws.map fun w => w.cps.toList)
  have h2 := sum_wd h
  rw [List.map_map, List.length_map] at h1
  have h3 : (List.map ((fun l : List Nat => l.length) ∘ fun w : Str => w.cps.toList) ws).sum = (ws.map (·.length)).sum := by
    congr 1
  omega
/-- what repr asks -/
def Rp (d : D) (dep wt : Nat) : Prop := ∃ p, toP d = some p ∧ p.showable = true ∧ p.leavesShort 13 = true ∧ p.depth ≤ dep ∧ p.weight + 1 ≤ wt
def Rps (ds : List D) (dep wt : Nat) : Prop := ∃ ps, toPs ds = some ps ∧ PyData.showableAll ps = true ∧ PyData.leavesShortAll 13 ps = true ∧ PyData.depthAll ps ≤ dep ∧ PyData.weightAll ps ≤ wt
theorem Rps.nil {dep wt : Nat} : Rps [] dep wt := ⟨[], by rw [toPs], rfl, rfl, by simp [PyData.depthAll], by simp [PyData.weightAll]⟩
theorem Rps.cons {d : D} {ds : List D} {dep a b c : Nat} (h : Rp d dep a) (t : Rps ds dep b) (l : a + b ≤ c) : Rps (d :: ds) dep c := by
  obtain ⟨p, e, s, v, dp, wt⟩ := h
  obtain ⟨ps, e', s', v', dp', wt'⟩ := t
  refine ⟨p :: ps, by rw [toPs, e, e']; rfl, by simp [PyData.showableAll, s, s'], by simp [PyData.leavesShortAll, v, v'], by simp [PyData.depthAll]; omega, by simp [PyData.weightAll]; omega⟩
theorem Rps.tup {ds : List D} {dep wt : Nat} (h : Rps ds dep wt) : Rp (.tup ds) (dep + 1) (wt + 1) := by
  obtain ⟨ps, e, s, v, dp, wt⟩ := h
  exact ⟨.tuple ps, by rw [toP, e]; rfl, by simpa [PyData.showable] using s, by simpa [PyData.leavesShort] using v, by simp [PyData.depth]; omega, by simp [PyData.weight]; omega⟩
theorem Rps.lst {ds : List D} {dep wt : Nat} (h : Rps ds dep wt) : Rp (.lst ds) (dep + 1) (wt + 1) := by
  obtain ⟨ps, e, s, v, dp, wt⟩ := h
  exact ⟨.list ps, by rw [toP, e]; rfl, by simpa [PyData.showable] using s, by simpa [PyData.leavesShort] using v, by simp [PyData.depth]; omega, by simp [PyData.weight]; omega⟩
theorem Rp.mono {d : D} {a b c e : Nat} (h : Rp d a b) (l : a ≤ c) (l2 : b ≤ e) : Rp d c e := by
  obtain ⟨p, x, s, v, dp, wt⟩ := h
  exact ⟨p, x, s, v, by omega, by omega⟩
theorem Rps.mono {d : List D} {a b c e : Nat} (h : Rps d a b) (l : a ≤ c) (l2 : b ≤ e) : Rps d c e := by
  obtain ⟨p, x, s, v, dp, wt⟩ := h
  exact ⟨p, x, s, v, by omega, by omega⟩
theorem rp_str {x : Str} {dep n : Nat} (h : (x.cps.toList.all fun c => decide (c < 16 ^ 8)) = true) (hl : x.length + 1 ≤ n) : Rp (.str x) dep n :=
  ⟨.str x, by rw [toP], rfl, h, by simp [PyData.depth], by
    show x.cps.size + 1 ≤ n
    exact hl⟩
theorem rp_S {t : List Nat} {dep n : Nat} (h : Abc t) (hl : t.length + 1 ≤ n) : Rp (.str (S t)) dep n := rp_str (List.all_eq_true.mpr fun c hc => by
    have hc' : c ∈ t := by simpa [S, SX.S] using hc
    have := h c hc'
    simp
    omega) (by rw [SX.S_len]; exact hl)
theorem rp_bl {b : Bool} {dep n : Nat} (hl : 1 ≤ n) : Rp (.bl b) dep n := ⟨.bool b, by rw [toP], rfl, rfl, by simp [PyData.depth], by simp [PyData.weight]; omega⟩
theorem rp_non {dep n : Nat} (hl : 1 ≤ n) : Rp .non dep n := ⟨.none, by rw [toP], rfl, rfl, by simp [PyData.depth], by simp [PyData.weight]; omega⟩
theorem rp_ok {d : D} {dep wt : Nat} (h : Rp d dep wt) (h1 : dep ≤ 60) (h2 : wt ≤ 1000000) : ∃ s, pRepr [d] = some (.sh (.str s)) := by
  obtain ⟨p, e, a, b, dp, wt⟩ := h
  have z : p.shown.length ≤ sizeLine := by
    have := PyData.shown_le 13 (by omega) p b
    rw [sizeLine_eq]
    omega
  refine ⟨p.shown, ?_⟩
  show (toP d).bind _ = _
  rw [e]
  exact if_pos ⟨a, by omega, z⟩
theorem leaf_rp (w : Nat) {dep : Nat} : Rp (.str (leafW w)) dep 7 := by
  unfold leafW
  split <;> exact rp_str (by decide +kernel) (by decide +kernel)
theorem grp_rp (c : Bool) {dep : Nat} : Rp (.str (grpW c)) dep 4 := by cases c <;> exact rp_str (by decide +kernel) (by decide +kernel)
theorem txt_rps {mt dep : Nat} : ∀ ts : List (List Nat), (∀ t ∈ ts, Abc t ∧ t.length ≤ mt) → Rps (ts.map fun t => .str (S t)) dep ((mt + 1) * ts.length)
  | [], _ => .nil
  | t :: ts, h => by
    obtain ⟨a, l⟩ := h t List.mem_cons_self
    refine .cons (rp_S a (Nat.le_refl _)) (txt_rps ts fun x hx => h x (List.mem_cons_of_mem _ hx)) ?_
    rw [List.length_cons, Nat.mul_add]
    omega
theorem fl_rps {mt dep : Nat} : ∀ fs : List Fl, (∀ f ∈ fs, Rp (dD f) dep (30 * nd f + (mt + 1) * tx f)) → Rps (dDs fs) dep (30 * nds fs + (mt + 1) * txs fs)
  | [], _ => by rw [dDs]; exact .nil
  | f :: fs, h => by
    rw [dDs]
    refine .cons (h f List.mem_cons_self) (fl_rps fs fun x hx => h x (List.mem_cons_of_mem _ hx)) ?_
    rw [nds, txs, Nat.mul_add, Nat.mul_add]
    omega
theorem fl_rp {mt mg : Nat} : ∀ (n : Nat) (f : Fl), Okf mt mg n f → Rp (dD f) (2 * n) (30 * nd f + (mt + 1) * tx f)
  | 0, f, h => by cases f <;> exact absurd h (by simp [Okf])
  | n + 1, f, h => by
    cases f with
    | non =>
      rw [dD, nd, tx]
      exact (Rps.tup (dep := 0) (.cons (b := 0) (rp_str (n := 5) (by decide +kernel) (by decide +kernel)) .nil (Nat.le_refl _))).mono (by omega) (by omega)
    | say b =>
      rw [dD, nd, tx]
      exact (Rps.tup (dep := 0) (.cons (rp_str (n := 4) (by decide +kernel) (by decide +kernel)) (.cons (b := 0) (rp_bl (n := 1) (by omega)) .nil (Nat.le_refl _)) (Nat.le_refl _))).mono (by omega) (by omega)
    | leaf w t =>
      obtain ⟨_, ha, hz⟩ := h
      rw [dD, nd, tx]
      exact (Rps.tup (dep := 0) (.cons (leaf_rp w) (.cons (b := 0) (rp_S ha (Nat.le_refl _)) .nil (Nat.le_refl _)) (Nat.le_refl _))).mono (by omega) (by omega)
    | amg ts =>
      obtain ⟨hz, ha⟩ := h
      rw [dD, nd, tx]
      exact (Rps.tup (dep := 1) (.cons (rp_str (n := 6) (by decide +kernel) (by decide +kernel)) (.cons (b := 0) (Rps.tup (dep := 0) (txt_rps ts ha)) .nil (Nat.le_refl _)) (Nat.le_refl _))).mono (by omega) (by omega)
    | neg f =>
      have ih := fl_rp n f h
      rw [dD, nd, tx, Nat.mul_add]
      exact (Rps.tup (dep := 2 * n) (.cons (rp_str (n := 4) (by decide +kernel) (by decide +kernel)) (.cons (b := 0) ih .nil (Nat.le_refl _)) (Nat.le_refl _))).mono (by omega) (by omega)
    | grp c fs =>
      obtain ⟨hz, ha⟩ := h
      have ih := fl_rps (mt := mt) (dep := 2 * n) fs fun f hf => fl_rp n f (ha f hf)
      rw [dD, nd, tx, Nat.mul_add]
      exact (Rps.tup (dep := 2 * n + 1) (.cons (grp_rp c) (.cons (b := 0) (Rps.tup ih) .nil (Nat.le_refl _)) (Nat.le_refl _))).mono (by omega) (by omega)
end Gk62
set_option maxRecDepth 100000
set_option maxHeartbeats 4000000
namespace Gk62
open PySem PySem.Spec PyProof.Rows L2 Mi
/-! any words as a filter: what reading comes to, in plain words -/
inductive Rs (α : Type) where
  | ok (a : α) (r : List Str)
  | bad (r : List Str)
def Rs.map {α β : Type} (f : α → β) : Rs α → Rs β
  | .ok a r => .ok (f a) r
  | .bad r => .bad r
def Rs.bind {α β : Type} (x : Rs α) (f : α → List Str → Rs β) : Rs β := match x with
  | .ok a r => f a r
  | .bad r => .bad r
@[simp] theorem Rs.map_ok {α β : Type} {f : α → β} {a : α} {r : List Str} : (Rs.ok a r).map f = .ok (f a) r := rfl
@[simp] theorem Rs.map_bad {α β : Type} {f : α → β} {r : List Str} : (Rs.bad r).map f = .bad r := rfl
@[simp] theorem Rs.bind_ok {α β : Type} {f : α → List Str → Rs β} {a : α} {r : List Str} : (Rs.ok a r).bind f = f a r := rfl
@[simp] theorem Rs.bind_bad {α β : Type} {f : α → List Str → Rs β} {r : List Str} : (Rs.bad r).bind f = .bad r := rfl
def numV (w : Str) : Option Nat := (List.range 1000).find? fun n => decide (nstr n = w)
theorem numV_some {w : Str} {n : Nat} (h : numV w = some n) : n ≤ 999 ∧ w = nstr n := by
  have h1 := List.find?_some h
  have h2 := List.mem_range.mp (List.mem_of_find?_eq_some h)
  exact ⟨by omega, (of_decide_eq_true h1).symm⟩
theorem numV_none {w : Str} (h : numV w = none) {n : Nat} (hn : n ≤ 999) : w ≠ nstr n := fun e => by
  have h1 := List.find?_eq_none.mp h n (List.mem_range.mpr (by omega))
  exact h1 (decide_eq_true e.symm)
def pN : List Str → Rs Nat
  | [] => .bad []
  | w :: r => match numV w with
    | some n => .ok n r
    | none => .bad (w :: r)
def pT : List Str → Rs (List Nat)
  | [] => .bad []
  | w :: r => if isTW w = true then .ok (if w = "-" then [] else w.cps.toList) r else .bad (w :: r)
def pA : List Str → Rs Bool
  | [] => .bad []
  | w :: r => if w = "yes" then .ok true r else if w = "no" then .ok false r else .bad (w :: r)
def pR {α : Type} (p : List Str → Rs α) : Nat → List Str → Rs (List α)
  | 0, ws => .ok [] ws
  | n + 1, ws => (p ws).bind fun a r => (pR p n r).map (a :: ·)
def pF : Nat → List Str → Rs Fl
  | 0, ws => .bad ws
  | _ + 1, [] => .bad []
  | k + 1, w :: r =>
    if w = "is" then (pT r).map (.leaf 0)
    else if w = "below" then (pT r).map (.leaf 1)
    else if w = "above" then (pT r).map (.leaf 2)
    else if w = "begins" then (pT r).map (.leaf 3)
    else if w = "none" then .ok .non r
    else if w = "say" then (pA r).map .say
    else if w = "not" then (pF k r).map .neg
    else if w = "among" then (pN r).bind fun n r1 => (pR pT n r1).map .amg
    else if w = "and" then (pN r).bind fun n r1 => (pR (pF k) n r1).map (.grp true)
    else if w = "or" then (pN r).bind fun n r1 => (pR (pF k) n r1).map (.grp false)
    else .bad (w :: r)
/-! what is read, written -/
theorem tw_of {w : Str} (h : isTW w = true) : Abc (if w = "-" then [] else w.cps.toList) ∧ (if w = "-" then [] else w.cps.toList).length ≤ 40 ∧ tw (if w = "-" then [] else w.cps.toList) = w := by
  by_cases e : w = "-"
  · subst e
    refine ⟨fun c hc => ?_, by simp, by decide +kernel⟩
    rw [if_pos rfl] at hc
    cases hc
  · rw [if_neg e]
    unfold isTW at h
    simp only [e, decide_false, Bool.false_or, Bool.and_eq_true, Bool.not_eq_true', decide_eq_false_iff_not, decide_eq_true_eq] at h
    obtain ⟨h1, h2, h3⟩ := h
    refine ⟨abc_of h3, ?_, ?_⟩
    · simp [Str.length] at h2
      simp
      omega
    · unfold tw
      rw [S_cps', if_neg h1]
theorem pT_ok {ws r : List Str} {t : List Nat} (h : pT ws = .ok t r) : ws = tw t :: r ∧ Abc t ∧ t.length ≤ 40 := by
  cases ws with
  | nil => cases h
  | cons w ws =>
    rw [pT] at h
    by_cases e : isTW w = true
    · rw [if_pos e] at h
      cases h
      obtain ⟨h1, h2, h3⟩ := tw_of e
      exact ⟨by rw [h3], h1, h2⟩
    · rw [if_neg e] at h
      cases h
theorem pN_ok {ws r : List Str} {n : Nat} (h : pN ws = .ok n r) : ws = nstr n :: r ∧ n ≤ 999 := by
  cases ws with
  | nil => cases h
  | cons w ws =>
    rw [pN] at h
    cases e : numV w with
    | none =>
      rw [e] at h
      cases h
    | some k =>
      rw [e] at h
      cases h
      obtain ⟨h1, h2⟩ := numV_some e
      exact ⟨by rw [h2], h1⟩
theorem pA_ok {ws r : List Str} {b : Bool} (h : pA ws = .ok b r) : ws = (if b = true then ("yes" : Str) else "no") :: r := by
  cases ws with
  | nil => cases h
  | cons w ws =>
    rw [pA] at h
    by_cases e : w = "yes"
    · rw [if_pos e] at h
      cases h
      rw [e]
      rfl
    · rw [if_neg e] at h
      by_cases e2 : w = "no"
      · rw [if_pos e2] at h
        cases h
        rw [e2]
        rfl
      · rw [if_neg e2] at h
        cases h
theorem Rs.map_inv {α β : Type} {f : α → β} {x : Rs α} {b : β} {r : List Str} (h : x.map f = .ok b r) : ∃ a, x = .ok a r ∧ b = f a := by
  cases x with
  | ok a r' =>
    cases h
    exact ⟨a, rfl, rfl⟩
  | bad r' => cases h
theorem Rs.bind_inv {α β : Type} {f : α → List Str → Rs β} {x : Rs α} {b : β} {r : List Str} (h : x.bind f = .ok b r) : ∃ a r', x = .ok a r' ∧ f a r' = .ok b r := by
  cases x with
  | ok a r' => exact ⟨a, r', rfl, h⟩
  | bad r' => cases h
theorem pTs_ok : ∀ {n : Nat} {ws r : List Str} {ts : List (List Nat)}, pR pT n ws = .ok ts r → ws = ts.map tw ++ r ∧ ts.length = n ∧ ∀ t ∈ ts, Abc t ∧ t.length ≤ 40
  | 0, ws, r, ts, h => by
    cases h
    exact ⟨rfl, rfl, fun t ht => by cases ht⟩
  | n + 1, ws, r, ts, h => by
    obtain ⟨t, r1, h1, h2⟩ := Rs.bind_inv h
    obtain ⟨us, h3, rfl⟩ := Rs.map_inv h2
    obtain ⟨a1, a2, a3⟩ := pT_ok h1
    obtain ⟨b1, b2, b3⟩ := pTs_ok h3
    refine ⟨by rw [a1, b1]; rfl, by rw [List.length_cons, b2], fun u hu => ?_⟩
    rcases List.mem_cons.mp hu with z | z
    · rw [z]
      exact ⟨a2, a3⟩
    · exact b3 u z
theorem pFs_ok {p : List Str → Rs Fl} {P : Fl → Prop} (hp : ∀ {ws r : List Str} {f : Fl}, p ws = .ok f r → ws = wds f ++ r ∧ P f) : ∀ {n : Nat} {ws r : List Str} {fs : List Fl}, pR p n ws = .ok fs r → ws = wdss fs ++ r ∧ fs.length = n ∧ ∀ f ∈ fs, P f
  | 0, ws, r, ts, h => by
    cases h
    exact ⟨by rw [wdss]; rfl, rfl, fun t ht => by cases ht⟩
  | n + 1, ws, r, ts, h => by
    obtain ⟨t, r1, h1, h2⟩ := Rs.bind_inv h
    obtain ⟨us, h3, rfl⟩ := Rs.map_inv h2
    obtain ⟨a1, a2⟩ := hp h1
    obtain ⟨b1, b2, b3⟩ := pFs_ok hp h3
    refine ⟨by rw [a1, b1, wdss, List.append_assoc], by rw [List.length_cons, b2], fun u hu => ?_⟩
    rcases List.mem_cons.mp hu with z | z
    · rw [z]
      exact a2
    · exact b3 u z
theorem pF_ok : ∀ {k : Nat} {ws r : List Str} {f : Fl}, pF k ws = .ok f r → ws = wds f ++ r ∧ Okf 40 999 k f
  | 0, ws, r, f, h => by cases h
  | k + 1, [], r, f, h => by cases h
  | k + 1, w :: ws, r, f, h => by
    have ih := @pF_ok k
    rw [pF] at h
    repeat' split at h
    all_goals first
      | (rename_i e
         obtain ⟨t, h1, rfl⟩ := Rs.map_inv h
         obtain ⟨a1, a2, a3⟩ := pT_ok h1
         subst e
         exact ⟨by rw [wds, a1]; rfl, by omega, a2, a3⟩)
      | (rename_i e
         cases h
         subst e
         exact ⟨by rw [wds]; rfl, trivial⟩)
      | (rename_i e
         obtain ⟨t, h1, rfl⟩ := Rs.map_inv h
         have a1 := pA_ok h1
         subst e
         exact ⟨by rw [wds, a1]; rfl, trivial⟩)
      | (rename_i e
         obtain ⟨t, h1, rfl⟩ := Rs.map_inv h
         obtain ⟨a1, a2⟩ := ih h1
         subst e
         exact ⟨by rw [wds, a1]; rfl, a2⟩)
      | (rename_i e
         obtain ⟨n, r1, h1, h2⟩ := Rs.bind_inv h
         obtain ⟨ts, h3, rfl⟩ := Rs.map_inv h2
         obtain ⟨a1, a2⟩ := pN_ok h1
         obtain ⟨b1, b2, b3⟩ := pTs_ok h3
         subst e b2
         exact ⟨by rw [wds, a1, b1]; rfl, a2, b3⟩)
      | (rename_i e
         obtain ⟨n, r1, h1, h2⟩ := Rs.bind_inv h
         obtain ⟨ts, h3, rfl⟩ := Rs.map_inv h2
         obtain ⟨a1, a2⟩ := pN_ok h1
         obtain ⟨b1, b2, b3⟩ := pFs_ok ih h3
         subst e b2
         exact ⟨by rw [wds, a1, b1]; rfl, a2, b3⟩)
      | cases h
/-! the law's walk along the words -/
inductive Kd where
  | fil (lv : Int) | txt | say | amg | many (lv : Int)
def stepK : Kd → Str → Option (List Kd)
  | .fil lv, w => if 20 < lv then none
    else if w = "is" then some [.txt] else if w = "below" then some [.txt] else if w = "above" then some [.txt] else if w = "begins" then some [.txt]
    else if w = "none" then some [] else if w = "say" then some [.say] else if w = "not" then some [.fil (lv + 1)] else if w = "among" then some [.amg]
    else if w = "and" then some [.many (lv + 1)] else if w = "or" then some [.many (lv + 1)] else none
  | .txt, w => if isTW w = true then some [] else none
  | .say, w => if w = "yes" then some [] else if w = "no" then some [] else none
  | .amg, w => (numV w).map fun n => List.replicate n .txt
  | .many lv, w => (numV w).map fun n => List.replicate n (.fil lv)
def runK : List Kd → List Str → Option (List Str)
  | [], [] => none
  | [], w :: r => some (w :: r)
  | _ :: _, [] => some []
  | x :: s, w :: r => match stepK x w with
    | none => some (w :: r)
    | some new => runK (new ++ s) r
/-- behind what p reads -/
def finK {α : Type} (s : List Kd) (x : Rs α) : Option (List Str) := match x with
  | .ok _ r => runK s r
  | .bad r => some r
theorem fin_map {α β : Type} {s : List Kd} {x : Rs α} {f : α → β} : finK s (x.map f) = finK s x := by cases x <;> rfl
theorem fin_bind {α β γ : Type} {s : List Kd} {x : Rs α} {f : α → List Str → Rs β} {g : α → β → γ} : finK s (x.bind fun a r => (f a r).map (g a)) = finK s (x.bind f) := by
  cases x with
  | ok a r => exact fin_map
  | bad r => rfl
/-- what is wanted is read by p -/
def Reads {α : Type} (x : Kd) (p : List Str → Rs α) : Prop := ∀ (s : List Kd) (ws : List Str), runK (x :: s) ws = finK s (p ws)
theorem reads_txt : Reads .txt pT := fun s ws => by
  cases ws with
  | nil => rfl
  | cons w r =>
    rw [runK, stepK, pT]
    by_cases e : isTW w = true
    · simp only [if_pos e]
      rfl
    · simp only [if_neg e]
      rfl
theorem reads_say : Reads .say pA := fun s ws => by
  cases ws with
  | nil => rfl
  | cons w r =>
    rw [runK, stepK, pA]
    by_cases e : w = "yes"
    · simp only [if_pos e]
      rfl
    · by_cases e2 : w = "no"
      · simp only [if_neg e, if_pos e2]
        rfl
      · simp only [if_neg e, if_neg e2]
        rfl
theorem reads_rep {α : Type} {x : Kd} {p : List Str → Rs α} (h : Reads x p) : ∀ (n : Nat) (s : List Kd) (ws : List Str), runK (List.replicate n x ++ s) ws = finK s (pR p n ws)
  | 0, s, ws => rfl
  | n + 1, s, ws => by
    rw [List.replicate_succ, List.cons_append, h, pR]
    cases p ws with
    | bad r => rfl
    | ok a r =>
      show runK (List.replicate n x ++ s) r = finK s ((pR p n r).map _)
      rw [reads_rep h n s r, fin_map]
theorem reads_num {α : Type} {x y : Kd} {p : List Str → Rs α} (h : Reads x p) (hy : ∀ w, stepK y w = (numV w).map fun n => List.replicate n x) (s : List Kd) (ws : List Str) : runK (y :: s) ws = finK s ((pN ws).bind fun n r1 => pR p n r1) := by
  cases ws with
  | nil => rfl
  | cons w r =>
    rw [runK, hy, pN]
    cases numV w with
    | none => rfl
    | some n => exact reads_rep h n s r
theorem reads_fil : ∀ (k : Nat) (lv : Int), lv + k = 21 → Reads (.fil lv) (pF k)
  | 0, lv, h, s, ws => by
    have h20 : 20 < lv := by omega
    cases ws with
    | nil => rfl
    | cons w r =>
      rw [runK, stepK, if_pos h20, pF]
      rfl
  | k + 1, lv, h, s, [] => rfl
  | k + 1, lv, h, s, w :: r => by
    have h20 : ¬ 20 < lv := by omega
    have ih := reads_fil k (lv + 1) (by omega)
    have l1 := reads_txt s r
    have l2 := reads_say s r
    have l3 := ih s r
    have l4 := reads_num reads_txt (y := .amg) (fun _ => rfl) s r
    have l5 := reads_num ih (y := .many (lv + 1)) (fun _ => rfl) s r
    rw [runK, stepK, if_neg h20, pF]
    by_cases e1 : w = "is"
    · simp only [if_pos e1, fin_map]
      exact l1
    rw [if_neg e1, if_neg e1]
    by_cases e2 : w = "below"
    · simp only [if_pos e2, fin_map]
      exact l1
    rw [if_neg e2, if_neg e2]
    by_cases e3 : w = "above"
    · simp only [if_pos e3, fin_map]
      exact l1
    rw [if_neg e3, if_neg e3]
    by_cases e4 : w = "begins"
    · simp only [if_pos e4, fin_map]
      exact l1
    rw [if_neg e4, if_neg e4]
    by_cases e5 : w = "none"
    · simp only [if_pos e5]
      rfl
    rw [if_neg e5, if_neg e5]
    by_cases e6 : w = "say"
    · simp only [if_pos e6, fin_map]
      exact l2
    rw [if_neg e6, if_neg e6]
    by_cases e7 : w = "not"
    · simp only [if_pos e7, fin_map]
      exact l3
    rw [if_neg e7, if_neg e7]
    by_cases e8 : w = "among"
    · simp only [if_pos e8, fin_bind]
      exact l4
    rw [if_neg e8, if_neg e8]
    by_cases e9 : w = "and"
    · simp only [if_pos e9, fin_bind]
      exact l5
    rw [if_neg e9, if_neg e9]
    by_cases e10 : w = "or"
    · simp only [if_pos e10, fin_bind]
      exact l5
    rw [if_neg e10, if_neg e10]
    rfl
/-- all words are one filter, or the place of the first word that cannot stand -/
def readF (ws : List Str) : Rs Fl := match pF 20 ws with
  | .ok f [] => .ok f []
  | .ok _ (w :: r) => .bad (w :: r)
  | .bad r => .bad r
theorem run_readF (ws : List Str) : runK [.fil 1] ws = match readF ws with
  | .ok _ _ => none
  | .bad r => some r := by
  rw [reads_fil 20 1 rfl [] ws, readF]
  cases pF 20 ws with
  | bad r => rfl
  | ok f r => cases r <;> rfl
end Gk62
set_option maxRecDepth 100000
set_option maxHeartbeats 4000000
namespace Gk62
open PySem PySem.Spec PyProof.Rows L2 Mi
/-! words of numbers of at most three digits -/
def dg (c : Nat) : Bool := decide (48 ≤ c ∧ c < 58)
def isN3 (l : List Nat) : Bool := !l.isEmpty && (decide (l.length ≤ 3) && (l.all dg && (decide (l.head? ≠ some 48) || decide (l = [48]))))
theorem n3_all : ((List.range 1000).all fun n => isN3 (nstr n).cps.toList && ((PySem.intText? (nstr n) == some (n : Int)) && decide ((nstr n).length ≤ 3))) = true := by decide +kernel
theorem n3_one : ((List.range 10).all fun a => decide (nstr a = S [48 + a])) = true := by decide +kernel
theorem n3_two : ((List.range 9).all fun a => (List.range 10).all fun b => decide (nstr (10 * (a + 1) + b) = S [49 + a, 48 + b])) = true := by decide +kernel
theorem n3_three : ((List.range 9).all fun a => (List.range 10).all fun b => (List.range 10).all fun c => decide (nstr (100 * (a + 1) + 10 * b + c) = S [49 + a, 48 + b, 48 + c])) = true := by decide +kernel
theorem n3_of {n : Nat} (h : n ≤ 999) : isN3 (nstr n).cps.toList = true ∧ PySem.intText? (nstr n) = some (n : Int) ∧ (nstr n).length ≤ 3 := by
  have e := List.all_eq_true.mp n3_all n (List.mem_range.mpr (by omega))
  simp only [Bool.and_eq_true, decide_eq_true_eq, beq_iff_eq] at e
  exact ⟨e.1, e.2.1, e.2.2⟩
theorem n3_is {l : List Nat} (h : isN3 l = true) : ∃ n, n ≤ 999 ∧ nstr n = S l := by
  unfold isN3 at h
  simp only [Bool.and_eq_true, Bool.or_eq_true, decide_eq_true_eq, Bool.not_eq_true', List.all_eq_true] at h
  obtain ⟨h1, h2, h3, h4⟩ := h
  have d : ∀ c ∈ l, 48 ≤ c ∧ c < 58 := fun c hc => of_decide_eq_true (h3 c hc)
  match l, h1, h2, h4, d with
  | [a], _, _, _, d =>
    have da := d a (by simp)
    have e := of_decide_eq_true (List.all_eq_true.mp n3_one (a - 48) (List.mem_range.mpr (by omega)))
    refine ⟨a - 48, by omega, ?_⟩
    rw [e]
    congr 2
    omega
  | [a, b], _, _, h4, d =>
    have da := d a (by simp)
    have db := d b (by simp)
    have a0 : a ≠ 48 := fun z => by
      subst z
      simp at h4
    have e := of_decide_eq_true (List.all_eq_true.mp (List.all_eq_true.mp n3_two (a - 49) (List.mem_range.mpr (by omega))) (b - 48) (List.mem_range.mpr (by omega)))
    refine ⟨10 * (a - 49 + 1) + (b - 48), by omega, ?_⟩
    rw [e]
    have e1 : 49 + (a - 49) = a := by omega
    have e2 : 48 + (b - 48) = b := by omega
    rw [e1, e2]
  | [a, b, c], _, _, h4, d =>
    have da := d a (by simp)
    have db := d b (by simp)
    have dc := d c (by simp)
    have a0 : a ≠ 48 := fun z => by
      subst z
      simp at h4
    have e := of_decide_eq_true (List.all_eq_true.mp (List.all_eq_true.mp (List.all_eq_true.mp n3_three (a - 49) (List.mem_range.mpr (by omega))) (b - 48) (List.mem_range.mpr (by omega))) (c - 48) (List.mem_range.mpr (by omega)))
    refine ⟨100 * (a - 49 + 1) + 10 * (b - 48) + (c - 48), by omega, ?_⟩
    rw [e]
    have e1 : 49 + (a - 49) = a := by omega
    have e2 : 48 + (b - 48) = b := by omega
    have e3 : 48 + (c - 48) = c := by omega
    rw [e1, e2, e3]
  | [], h1, _, _, _ => cases h1
  | _ :: _ :: _ :: _ :: _, _, h2, _, _ => simp at h2
theorem numV_n3 (w : Str) : (numV w).isSome = isN3 w.cps.toList := by
  cases e : numV w with
  | some n =>
    obtain ⟨h1, h2⟩ := numV_some e
    rw [h2, (n3_of h1).1]
    rfl
  | none =>
    cases q : isN3 w.cps.toList with
    | false => rfl
    | true =>
      obtain ⟨n, hn, en⟩ := n3_is q
      rw [S_cps'] at en
      exact absurd en.symm (numV_none e hn)
theorem digits_list : ("0123456789" : Str).cps.toList = [48, 49, 50, 51, 52, 53, 54, 55, 56, 57] := by decide +kernel
theorem in_dg (c : Nat) : pIn true (.str ⟨#[c]⟩) (.str "0123456789") = some (.sh (.bl (!dg c))) := by
  show (some (inTxt ⟨#[c]⟩ "0123456789")).map _ = _
  have e1 : inTxt ⟨#[c]⟩ "0123456789" = dg c := by
    show decide (c ∈ ("0123456789" : Str).cps.toList) = _
    rw [digits_list]
    unfold dg
    congr 1
    simp
    omega
  rw [e1]
  cases dg c <;> rfl
noncomputable abbrev bDg : SM := sIf (bE (eP2 (pIn true) (eV 2) (eC (.str "0123456789")))) (sRet (eC (.bl false))) sNx
theorem dg_loop {u v : W} : ∀ (cs : List Nat) (x : W), ∃ x', forT (.nm 2) bDg (cs.map fun c => .str ⟨#[c]⟩) [u, v, x] = .ok (if cs.all dg = true then .nx else .rt (.sh (.bl false))) [u, v, x']
  | [], x => ⟨x, rfl⟩
  | c :: cs, x => by
    rw [List.map_cons, forT, asg_nm]
    cases q : dg c with
    | true =>
      obtain ⟨x', e⟩ := dg_loop (u := u) (v := v) cs (.sh (.str ⟨#[c]⟩))
      refine ⟨x', ?_⟩
      have eb : bDg [u, v, .sh (.str ⟨#[c]⟩)] = .ok .nx [u, v, .sh (.str ⟨#[c]⟩)] := by simp [bDg, in_dg, q]
      show (bDg [u, v, .sh (.str ⟨#[c]⟩)]).bind _ = _
      rw [eb, bind_ok]
      simp only [List.all_cons, q, Bool.true_and]
      exact e
    | false =>
      refine ⟨.sh (.str ⟨#[c]⟩), ?_⟩
      have eb : bDg [u, v, .sh (.str ⟨#[c]⟩)] = .ok (.rt (.sh (.bl false))) [u, v, .sh (.str ⟨#[c]⟩)] := by simp [bDg, in_dg, q]
      show (bDg [u, v, .sh (.str ⟨#[c]⟩)]).bind _ = _
      rw [eb, bind_ok]
      simp [q]
theorem ix_head {c : Nat} {l : List Nat} (h : l.length ≤ 1000) : pIx (.str (S (c :: l))) (.int 0) = some (.sh (.str (S [c]))) := by
  show (if (S (c :: l)).length ≤ sizeLine then (atI (S (c :: l)).cps.toList 0).map (fun c => W.sh (.str ⟨#[c]⟩)) else none) = _
  rw [SX.S_len, if_pos (by rw [sizeLine_eq, List.length_cons]; omega)]
  have e1 : (S (c :: l)).cps.toList = c :: l := by simp [S, SX.S]
  rw [e1]
  have e2 : atI (c :: l) 0 = some c := atI_nat (j := 0) rfl
  rw [e2]
  rfl
theorem S_eq {a b : List Nat} : (S a = S b) ↔ a = b := ⟨fun h => SX.S_inj h, fun h => by rw [h]⟩
theorem zero_S : ("0" : Str) = S [48] := by decide +kernel
theorem emp_S : ("" : Str) = S [] := rfl
/-- the program's look at a number, and the law's -/
theorem num_word (w : Str) (hz : w.length ≤ 1000000) : m_is_number_word [.sh (.str w), .sh (.int 3)] = .ok (.sh (.bl (isN3 w.cps.toList))) [] := by
  have el : pLen [.str w] = some (.sh (.int (w.length : Int))) := len_s (by rw [sizeLine_eq]; omega)
  obtain ⟨l, rfl⟩ : ∃ l, w = S l := ⟨w.cps.toList, (S_cps' w).symm⟩
  have e1 : (S l).cps.toList = l := by simp [S, SX.S]
  rw [e1]
  rw [SX.S_len] at el
  cases l with
  | nil => simp [m_is_number_word, fnM_ap, isN3, emp_S]
  | cons c l =>
    have ne : ¬ S (c :: l) = ("" : Str) := fun z => by rw [emp_S] at z; cases SX.S_inj z
    by_cases b : 3 < (c :: l).length
    · have b' : (3 : Int) < (l.length : Int) + 1 := by simp only [List.length_cons] at b; omega
      have e2 : isN3 (c :: l) = false := by
        unfold isN3
        rw [decide_eq_false (by omega)]
        simp
      rw [e2]
      simp only [List.length_cons, Int.natCast_add, Int.natCast_one] at el
      simp [m_is_number_word, fnM_ap, ne, el, b']
    · have b' : ¬ (3 : Int) < (l.length : Int) + 1 := by simp only [List.length_cons] at b; omega
      obtain ⟨x', e2⟩ := dg_loop (u := .sh (.str (S (c :: l)))) (v := .sh (.int 3)) (c :: l) .gone
      have e3 : B_is_number_word_1 [.sh (.str (S (c :: l))), .sh (.int 3), .gone] = .ok (if (c :: l).all dg = true then .nx else .rt (.sh (.bl false))) [.sh (.str (S (c :: l))), .sh (.int 3), x'] := by
        unfold B_is_number_word_1
        rw [sForS_T]
        simp [Mi.signs, e1]
        simpa using e2
      have i0 := ix_head (c := c) (l := l) (by simp only [List.length_cons] at b; omega)
      have hl : (c :: l).length ≤ 3 := by omega
      simp only [List.length_cons, Int.natCast_add, Int.natCast_one] at el hl
      have hl' : l.length ≤ 2 := by omega
      cases q : (c :: l).all dg with
      | false =>
        rw [q] at e3
        have e4 : isN3 (c :: l) = false := by
          unfold isN3
          rw [q]
          simp
        rw [e4]
        simp [m_is_number_word, fnM_ap, ne, el, b', e3]
      | true =>
        rw [q] at e3
        have e4 : isN3 (c :: l) = (decide (c ≠ 48) || decide (c :: l = [48])) := by
          unfold isN3
          rw [q]
          simp [hl']
        rw [e4]
        by_cases c0 : c = 48
        · subst c0
          simp [m_is_number_word, fnM_ap, ne, el, b', e3, i0, zero_S, S_eq]
        · have c1 : ¬ S [c] = S [48] := fun z => by
            have := SX.S_inj z
            simp at this
            exact c0 this
          simp [m_is_number_word, fnM_ap, ne, el, b', e3, i0, zero_S, c1, c0]
theorem int_word {w : Str} {n : Nat} (h : numV w = some n) : pInt [.str w] = some (.sh (.int (n : Int))) := by
  obtain ⟨h1, rfl⟩ := numV_some h
  obtain ⟨_, h2, h3⟩ := n3_of h1
  show (if (nstr n).length ≤ 640 then (PySem.intText? (nstr n)).map (fun i => W.sh (.int i)) else none) = _
  rw [if_pos (by omega), h2]
  rfl
end Gk62
set_option maxRecDepth 100000
set_option maxHeartbeats 4000000
namespace Gk62
open PySem PySem.Spec PyProof.Rows L2 Mi
/-! reading any words -/
section
variable {V : List Str}
theorem drop_cases {p : Nat} (h : p ≤ V.length) : (p = V.length ∧ V.drop p = []) ∨ ∃ w, V[p]? = some w ∧ p + 1 ≤ V.length ∧ V.drop p = w :: V.drop (p + 1) := by
  by_cases e : p = V.length
  · exact .inl ⟨e, by rw [e, List.drop_length]⟩
  · have h1 : p < V.length := by omega
    exact .inr ⟨V[p], List.getElem?_eq_getElem h1, h1, List.drop_eq_getElem_cons h1⟩
/-- a call's answer: what was read and the reader behind it, or the place of the word that cannot stand -/
def RdA {α : Type} (V : List Str) (e : α → D) (m : FOut) : Rs α → Prop
  | .ok a r => ∃ q : Nat, r = V.drop q ∧ q ≤ V.length ∧ m = .ok (.sh (e a)) [rd (enc V) (q : Int)]
  | .bad r => ∃ (q : Nat) (q' : Int), r = V.drop q ∧ q ≤ V.length ∧ m = .err ⟨16, some (q : Int)⟩ [rd (enc V) q']
theorem RdA.end {α : Type} {e : α → D} {m : FOut} {q' : Int} (h : m = .err ⟨16, some (V.length : Int)⟩ [rd (enc V) q']) : RdA V e m (.bad []) := ⟨V.length, q', by rw [List.drop_length], Nat.le_refl _, h⟩
theorem RdA.here {α : Type} {e : α → D} {m : FOut} {p : Nat} {w : Str} {q' : Int} (hd : V.drop p = w :: V.drop (p + 1)) (hp : p ≤ V.length) (h : m = .err ⟨16, some (p : Int)⟩ [rd (enc V) q']) : RdA V e m (.bad (w :: V.drop (p + 1))) := ⟨p, q', hd.symm, hp, h⟩
def eT (t : List Nat) : D := .str (S t)
def eN (n : Nat) : D := .int (n : Int)
def eB (b : Bool) : D := .bl b
theorem txt_S (w : Str) : S (if w = "-" then [] else w.cps.toList) = if w = "-" then ("" : Str) else w := by
  by_cases e : w = "-"
  · rw [if_pos e, if_pos e]
    rfl
  · rw [if_neg e, if_neg e, S_cps']
theorem take_text_R (hV : ∀ w ∈ V, w.length ≤ 1000000) {p : Nat} (hp : p ≤ V.length) : RdA V eT (m_take_text [rd (enc V) (p : Int)]) (pT (V.drop p)) := by
  rcases drop_cases hp with ⟨rfl, e⟩ | ⟨w, hw, hp1, e⟩
  · rw [e, pT]
    have z := take_end (ws := enc V) (p := V.length) (enc_len V).symm
    exact RdA.end (q' := (V.length : Int)) (by simp [m_take_text, fnM_ap, z])
  · rw [e, pT]
    have z := take_text_any (hV w (List.mem_of_getElem? hw)) (enc_get hw)
    by_cases q : isTW w = true
    · rw [if_pos q] at z ⊢
      exact ⟨p + 1, rfl, hp1, by rw [z, eT, txt_S]; rfl⟩
    · rw [if_neg q] at z ⊢
      exact RdA.here e hp z
theorem take_number_R (hV : ∀ w ∈ V, w.length ≤ 1000000) {p : Nat} (hp : p ≤ V.length) : RdA V eN (m_take_number [rd (enc V) (p : Int), .sh (.int 3), .sh (.int 999)]) (pN (V.drop p)) := by
  rcases drop_cases hp with ⟨rfl, e⟩ | ⟨w, hw, hp1, e⟩
  · rw [e, pN]
    have z := take_end (ws := enc V) (p := V.length) (enc_len V).symm
    exact RdA.end (q' := (V.length : Int)) (by simp [m_take_number, fnM_ap, z])
  · rw [e, pN]
    have z := take_s (enc_get hw)
    have n := num_word w (hV w (List.mem_of_getElem? hw))
    have e0 : ((p : Int) + 1 - 1) = (p : Int) := by omega
    rw [← numV_n3] at n
    cases q : numV w with
    | none =>
      rw [q] at n
      exact RdA.here e hp (q' := (p : Int) + 1) (by simp [m_take_number, fnM_ap, List.replicate, z, n, e0])
    | some k =>
      rw [q] at n
      have i := int_word q
      have l : ¬ (999 : Int) < (k : Int) := by have := (numV_some q).1; omega
      exact ⟨p + 1, rfl, hp1, by simp [m_take_number, fnM_ap, List.replicate, z, n, i, l, eN]⟩
theorem take_answer_R {p : Nat} (hp : p ≤ V.length) : RdA V eB (m_take_answer [rd (enc V) (p : Int)]) (pA (V.drop p)) := by
  rcases drop_cases hp with ⟨rfl, e⟩ | ⟨w, hw, hp1, e⟩
  · rw [e, pA]
    have z := take_end (ws := enc V) (p := V.length) (enc_len V).symm
    exact RdA.end (q' := (V.length : Int)) (by simp [m_take_answer, fnM_ap, z])
  · rw [e, pA]
    have z := take_s (enc_get hw)
    have e0 : ((p : Int) + 1 - 1) = (p : Int) := by omega
    by_cases q : w = "yes"
    · subst q
      rw [if_pos rfl]
      exact ⟨p + 1, rfl, hp1, by simp [m_take_answer, fnM_ap, List.replicate, z, eB]⟩
    · rw [if_neg q]
      by_cases q2 : w = "no"
      · subst q2
        rw [if_pos rfl]
        exact ⟨p + 1, rfl, hp1, by simp [m_take_answer, fnM_ap, List.replicate, z, eB]⟩
      · rw [if_neg q2]
        exact RdA.here e hp (q' := (p : Int) + 1) (by simp [m_take_answer, fnM_ap, List.replicate, z, q, q2, e0])
/-- a row of parts read by a comprehension -/
theorem parts_R {α : Type} {P : List Str → Rs α} {f : α → D} {m : EM} {a b : W} (H : ∀ (p : Nat) (d : D), p ≤ V.length → match P (V.drop p) with
      | .ok x r => ∃ q : Nat, r = V.drop q ∧ q ≤ V.length ∧ m [rd (enc V) (p : Int), a, b, .sh d] = .ok (.val (.sh (f x))) [rd (enc V) (q : Int), a, b, .sh d]
      | .bad r => ∃ (q : Nat) (q' : Int), r = V.drop q ∧ q ≤ V.length ∧ m [rd (enc V) (p : Int), a, b, .sh d] = .err ⟨16, some (q : Int)⟩ [rd (enc V) q', a, b, .sh d]) :
    ∀ (ds acc : List D) (p : Nat), p ≤ V.length → acc.length + ds.length ≤ 2000000 → match pR P ds.length (V.drop p) with
      | .ok xs r => ∃ q : Nat, r = V.drop q ∧ q ≤ V.length ∧ compGo (fun _ => True) (.nm 3) bYes m [3] ds acc [rd (enc V) (p : Int), a, b, .gone] = .ok (.val (.ol (acc ++ xs.map f))) [rd (enc V) (q : Int), a, b, .gone]
      | .bad r => ∃ (q : Nat) (q' : Int), r = V.drop q ∧ q ≤ V.length ∧ compGo (fun _ => True) (.nm 3) bYes m [3] ds acc [rd (enc V) (p : Int), a, b, .gone] = .err ⟨16, some (q : Int)⟩ [rd (enc V) q', a, b, .gone]
  | [], acc, p, hp, hl => ⟨p, rfl, hp, by rw [compGo_nil trivial]; simp⟩
  | d :: ds, acc, p, hp, hl => by
    simp only [List.length_cons] at hl
    have h1 := H p d hp
    have step : compGo (fun _ => True) (.nm 3) bYes m [3] (d :: ds) acc [rd (enc V) (p : Int), a, b, .gone] = (match m [rd (enc V) (p : Int), a, b, .sh d] with
        | .ok o env3 => (match sres o env3 with
          | some y => if acc.length < sizeLine then compGo (fun _ => True) (.nm 3) bYes m [3] ds (acc ++ [y]) (clr [3] env3) else .stuck
          | none => .stuck)
        | .err x env3 => .err x (clr [3] env3)
        | .stuck => .stuck) := by
      rw [compGo_cons trivial, asg_nm]
      rfl
    rw [List.length_cons, pR]
    cases q0 : P (V.drop p) with
    | bad r =>
      rw [q0] at h1
      obtain ⟨q, q', e1, e2, e3⟩ := h1
      refine ⟨q, q', e1, e2, ?_⟩
      rw [step, e3]
      rfl
    | ok x r =>
      rw [q0] at h1
      obtain ⟨q, rfl, e2, e3⟩ := h1
      have ih := parts_R H ds (acc ++ [f x]) q e2 (by simp; omega)
      have st2 : compGo (fun _ => True) (.nm 3) bYes m [3] (d :: ds) acc [rd (enc V) (p : Int), a, b, .gone] = compGo (fun _ => True) (.nm 3) bYes m [3] ds (acc ++ [f x]) [rd (enc V) (q : Int), a, b, .gone] := by
        rw [step, e3]
        simp only [sres_sh]
        rw [if_pos (by rw [sizeLine_eq]; omega)]
        rfl
      rw [st2]
      simp only [Rs.bind_ok]
      cases q1 : pR P ds.length (V.drop q) with
      | bad r =>
        rw [q1] at ih
        exact ih
      | ok xs r =>
        rw [q1] at ih
        obtain ⟨k, g1, g2, g3⟩ := ih
        exact ⟨k, g1, g2, by rw [g3]; simp⟩
theorem RdA.w {α β : Type} {e : α → D} {e2 : β → D} {m m2 : FOut} {x : Rs α} {g : α → β} (h : RdA V e m x) (hok : ∀ (a : α) (q : Nat), m = .ok (.sh (e a)) [rd (enc V) (q : Int)] → m2 = .ok (.sh (e2 (g a))) [rd (enc V) (q : Int)])
    (her : ∀ (q : Nat) (q' : Int), m = .err ⟨16, some (q : Int)⟩ [rd (enc V) q'] → m2 = .err ⟨16, some (q : Int)⟩ [rd (enc V) q']) : RdA V e2 m2 (x.map g) := by
  cases x with
  | ok a r =>
    obtain ⟨q, h1, h2, h3⟩ := h
    exact ⟨q, h1, h2, hok a q h3⟩
  | bad r =>
    obtain ⟨q, q', h1, h2, h3⟩ := h
    exact ⟨q, q', h1, h2, her q q' h3⟩
/-- behind the number, the parts -/
theorem num_parts {β γ : Type} (hV : ∀ w ∈ V, w.length ≤ 1000000) {P : List Str → Rs β} {f : β → D} {m : EM} {lev wd : W} {p : Nat} (hp : p ≤ V.length) {g : List β → γ} {e2 : γ → D} {m2 : FOut}
    (H : ∀ (p : Nat) (d : D), p ≤ V.length → match P (V.drop p) with
      | .ok x r => ∃ q : Nat, r = V.drop q ∧ q ≤ V.length ∧ m [rd (enc V) (p : Int), lev, wd, .sh d] = .ok (.val (.sh (f x))) [rd (enc V) (q : Int), lev, wd, .sh d]
      | .bad r => ∃ (q : Nat) (q' : Int), r = V.drop q ∧ q ≤ V.length ∧ m [rd (enc V) (p : Int), lev, wd, .sh d] = .err ⟨16, some (q : Int)⟩ [rd (enc V) q', lev, wd, .sh d])
    (hok : ∀ (xs : List β) (q : Nat), eLcR (eCallI m_take_number [true] (aCons (eV 0) (aCons (eC (.int 3)) (aCons (eC (.int 999)) aNil)))) (.nm 3) bYes m [3] [rd (enc V) (p : Int), lev, wd, .gone] = .ok (.val (.ol (xs.map f))) [rd (enc V) (q : Int), lev, wd, .gone] → m2 = .ok (.sh (e2 (g xs))) [rd (enc V) (q : Int)])
    (her : ∀ (q : Nat) (q' : Int), eLcR (eCallI m_take_number [true] (aCons (eV 0) (aCons (eC (.int 3)) (aCons (eC (.int 999)) aNil)))) (.nm 3) bYes m [3] [rd (enc V) (p : Int), lev, wd, .gone] = .err ⟨16, some (q : Int)⟩ [rd (enc V) q', lev, wd, .gone] → m2 = .err ⟨16, some (q : Int)⟩ [rd (enc V) q']) (hlev : lev ≠ .gone) (hwd : wd ≠ .gone) :
    RdA V e2 m2 ((pN (V.drop p)).bind fun n r1 => (pR P n r1).map g) := by
  have hn := take_number_R hV hp
  cases q0 : pN (V.drop p) with
  | bad r =>
    rw [q0] at hn
    obtain ⟨q, q', h1, h2, h3⟩ := hn
    refine ⟨q, q', h1, h2, her q q' ?_⟩
    unfold eLcR
    simp [h3]
  | ok n r =>
    rw [q0] at hn
    obtain ⟨q, rfl, h2, h3⟩ := hn
    have hn9 := (pN_ok q0).2
    have hR := parts_R H (rngD 0 n) [] q h2 (by rw [rngD_len]; simp; omega)
    rw [rngD_len] at hR
    have e0 : eLcR (eCallI m_take_number [true] (aCons (eV 0) (aCons (eC (.int 3)) (aCons (eC (.int 999)) aNil)))) (.nm 3) bYes m [3] [rd (enc V) (p : Int), lev, wd, .gone] = compGo (fun _ => True) (.nm 3) bYes m [3] (rngD 0 n) [] [rd (enc V) (q : Int), lev, wd, .gone] := by
      rw [eLcR_eq (env1 := [rd (enc V) (q : Int), lev, wd, .gone]) (o := .val (.sh (.int (n : Int)))) (n := n) (by simp [h3, eN]) rfl (by omega)]
      rfl
    simp only [Rs.bind_ok]
    cases q1 : pR P n (V.drop q) with
    | bad r =>
      rw [q1] at hR
      obtain ⟨k, k', g1, g2, g3⟩ := hR
      exact ⟨k, k', g1, g2, her k k' (by rw [e0, g3])⟩
    | ok xs r =>
      rw [q1] at hR
      obtain ⟨k, g1, g2, g3⟩ := hR
      exact ⟨k, g1, g2, hok xs k (by rw [e0, g3]; simp)⟩
theorem take_R (hV : ∀ w ∈ V, w.length ≤ 1000000) : ∀ (k fu : Nat) (lev : Int) (p : Nat), lev + k = 21 → k + 1 ≤ fu → p ≤ V.length → RdA V dD (m_take_filter fu [rd (enc V) (p : Int), .sh (.int lev)]) (pF k (V.drop p))
  | 0, fu, lev, p, hk, hf, hp => by
    obtain ⟨fu, rfl⟩ : ∃ j, fu = j + 1 := ⟨fu - 1, by omega⟩
    have hlev : (20 : Int) < lev := by omega
    rw [pF]
    exact ⟨p, (p : Int), rfl, hp, by simp [m_take_filter, fnM_ap, List.replicate, hlev]⟩
  | k + 1, fu, lev, p, hk, hf, hp => by
    obtain ⟨fu, rfl⟩ : ∃ j, fu = j + 1 := ⟨fu - 1, by omega⟩
    have hlev : ¬ (20 : Int) < lev := by omega
    rcases drop_cases hp with ⟨rfl, e⟩ | ⟨w, hw, hp1, e⟩
    · rw [e, pF]
      have z := take_end (ws := enc V) (p := V.length) (enc_len V).symm
      exact RdA.end (q' := (V.length : Int)) (by simp [m_take_filter, fnM_ap, List.replicate, hlev, z])
    · rw [e, pF]
      have z := take_s (enc_get hw)
      have e0 : ((p : Int) + 1 - 1) = (p : Int) := by omega
      have ep : ((p + 1 : Nat) : Int) = (p : Int) + 1 := by omega
      have tT := take_text_R hV hp1
      have tA := take_answer_R hp1
      rw [ep] at tT tA
      have ih : ∀ p : Nat, p ≤ V.length → RdA V dD (m_take_filter fu [rd (enc V) (p : Int), .sh (.int (lev + 1))]) (pF k (V.drop p)) := fun p hp => take_R hV k fu (lev + 1) p (by omega) (by omega) hp
      have tF := ih (p + 1) hp1
      rw [ep] at tF
      by_cases e1 : w = "is"
      · subst e1
        rw [if_pos rfl]
        exact tT.w (fun a q h => by simp [m_take_filter, fnM_ap, List.replicate, z, hlev, h, dD, leafW, eT]) (fun q q' h => by simp [m_take_filter, fnM_ap, List.replicate, z, hlev, h])
      rw [if_neg e1]
      by_cases e2 : w = "below"
      · subst e2
        rw [if_pos rfl]
        exact tT.w (fun a q h => by simp [m_take_filter, fnM_ap, List.replicate, z, hlev, h, dD, leafW, eT]) (fun q q' h => by simp [m_take_filter, fnM_ap, List.replicate, z, hlev, h])
      rw [if_neg e2]
      by_cases e3 : w = "above"
      · subst e3
        rw [if_pos rfl]
        exact tT.w (fun a q h => by simp [m_take_filter, fnM_ap, List.replicate, z, hlev, h, dD, leafW, eT]) (fun q q' h => by simp [m_take_filter, fnM_ap, List.replicate, z, hlev, h])
      rw [if_neg e3]
      by_cases e4 : w = "begins"
      · subst e4
        rw [if_pos rfl]
        exact tT.w (fun a q h => by simp [m_take_filter, fnM_ap, List.replicate, z, hlev, h, dD, leafW, eT]) (fun q q' h => by simp [m_take_filter, fnM_ap, List.replicate, z, hlev, h])
      rw [if_neg e4]
      by_cases e5 : w = "none"
      · subst e5
        rw [if_pos rfl]
        exact ⟨p + 1, rfl, hp1, by simp [m_take_filter, fnM_ap, List.replicate, z, hlev, dD]⟩
      rw [if_neg e5]
      by_cases e6 : w = "say"
      · subst e6
        rw [if_pos rfl]
        exact tA.w (fun a q h => by simp [m_take_filter, fnM_ap, List.replicate, z, hlev, h, dD, eB]) (fun q q' h => by simp [m_take_filter, fnM_ap, List.replicate, z, hlev, h])
      rw [if_neg e6]
      by_cases e7 : w = "not"
      · subst e7
        rw [if_pos rfl]
        exact tF.w (fun a q h => by simp [m_take_filter, fnM_ap, List.replicate, z, hlev, h, dD]) (fun q q' h => by simp [m_take_filter, fnM_ap, List.replicate, z, hlev, h])
      rw [if_neg e7]
      by_cases e8 : w = "among"
      · subst e8
        rw [if_pos rfl]
        refine num_parts hV (P := pT) (f := eT) (m := eCallI m_take_text [true] (aCons (eV 0) aNil)) (lev := .sh (.int lev)) (wd := .sh (.str "among")) hp1 (fun p d hp => ?_) (fun xs q h => ?_) (fun q q' h => ?_) (by simp) (by simp)
        · have t := take_text_R hV hp
          cases q0 : pT (V.drop p) with
          | ok a r =>
            rw [q0] at t
            obtain ⟨q, t1, t2, t3⟩ := t
            exact ⟨q, t1, t2, by simp [t3]⟩
          | bad r =>
            rw [q0] at t
            obtain ⟨q, q', t1, t2, t3⟩ := t
            exact ⟨q, q', t1, t2, by simp [t3]⟩
        · rw [ep] at h
          have h' : B_take_filter_1 (m_take_filter fu) [rd (enc V) ((p : Int) + 1), .sh (.int lev), .sh (.str "among"), .gone] = _ := h
          have pt : pTuple [.lst (xs.map eT)] = some (.sh (.tup (xs.map eT))) := rfl
          simp [m_take_filter, fnM_ap, List.replicate, z, hlev, h', dD, pt]
          exact fun a _ => rfl
        · rw [ep] at h
          have h' : B_take_filter_1 (m_take_filter fu) [rd (enc V) ((p : Int) + 1), .sh (.int lev), .sh (.str "among"), .gone] = _ := h
          simp [m_take_filter, fnM_ap, List.replicate, z, hlev, h']
      rw [if_neg e8]
      have grp : ∀ (c : Bool), w = grpW c → RdA V dD (m_take_filter (fu + 1) [rd (enc V) (p : Int), .sh (.int lev)]) ((pN (V.drop (p + 1))).bind fun n r1 => (pR (pF k) n r1).map (.grp c)) := fun c hc => by
        refine num_parts hV (P := pF k) (f := dD) (m := eCallI (m_take_filter fu) [true] (aCons (eV 0) (aCons (eP2 pAdd (eV 1) (eC (.int 1))) aNil))) (lev := .sh (.int lev)) (wd := .sh (.str w)) hp1 (fun p d hp => ?_) (fun xs q h => ?_) (fun q q' h => ?_) (by simp) (by simp)
        · have t := ih p hp
          cases q0 : pF k (V.drop p) with
          | ok a r =>
            rw [q0] at t
            obtain ⟨q, t1, t2, t3⟩ := t
            exact ⟨q, t1, t2, by simp [t3]⟩
          | bad r =>
            rw [q0] at t
            obtain ⟨q, q', t1, t2, t3⟩ := t
            exact ⟨q, q', t1, t2, by simp [t3]⟩
        · rw [ep] at h
          have h' : B_take_filter_2 (m_take_filter fu) [rd (enc V) ((p : Int) + 1), .sh (.int lev), .sh (.str w), .gone] = _ := h
          have pt : pTuple [.lst (xs.map dD)] = some (.sh (.tup (xs.map dD))) := rfl
          subst hc
          cases c <;> simp [grpW] at h' z <;> simp [m_take_filter, fnM_ap, List.replicate, z, hlev, h', dD, pt, dDs_map, grpW]
        · rw [ep] at h
          have h' : B_take_filter_2 (m_take_filter fu) [rd (enc V) ((p : Int) + 1), .sh (.int lev), .sh (.str w), .gone] = _ := h
          subst hc
          cases c <;> simp [grpW] at h' z <;> simp [m_take_filter, fnM_ap, List.replicate, z, hlev, h']
      by_cases e9 : w = "and"
      · rw [if_pos e9]
        exact grp true e9
      rw [if_neg e9]
      by_cases e10 : w = "or"
      · rw [if_pos e10]
        exact grp false e10
      rw [if_neg e10]
      exact RdA.here e hp (q' := (p : Int) + 1) (by simp [m_take_filter, fnM_ap, List.replicate, z, hlev, e1, e2, e3, e4, e5, e6, e7, e8, e9, e10, e0])
/-- reading a line -/
theorem read_R {x : Str} (hx : x.length ≤ 1000000) (hV : Txt.split x " " = V) (hl : ∀ w ∈ V, w.length ≤ 1000000) : m_read_filter [.sh (.str x)] = match readF V with
    | .ok f _ => .ok (.sh (dD f)) []
    | .bad r => .err ⟨16, some ((V.length : Int) - r.length)⟩ [] := by
  have i := init_s (x := x) (by rw [sizeLine_eq]; omega) hV
  have i' : m_WordReader_init [.oi 0 [], .sh (.str x)] = .ok (.sh .non) [rd (enc V) 0] := i
  have t := take_R hl 20 24 1 0 rfl (by omega) (Nat.zero_le _)
  rw [List.drop_zero] at t
  have e0 : ((0 : Nat) : Int) = 0 := rfl
  rw [e0] at t
  rw [readF]
  cases q : pF 20 V with
  | bad r =>
    rw [q] at t
    obtain ⟨k, k', rfl, h2, h3⟩ := t
    have e1 : ((V.length : Int) - ((V.drop k).length : Nat)) = (k : Int) := by rw [List.length_drop]; omega
    simp only [e1]
    simp [m_read_filter, fnM_ap, List.replicate, i', h3]
  | ok f r =>
    rw [q] at t
    obtain ⟨k, rfl, h2, h3⟩ := t
    rcases drop_cases h2 with ⟨rfl, e⟩ | ⟨w, hw, hp1, e⟩
    · have d := ended_s (ws := enc V) (p := V.length) (d := dD f) (enc_len V).symm
      rw [e]
      simp [m_read_filter, fnM_ap, List.replicate, i', h3, d]
    · have d := ended_no (ws := enc V) (p := k) (d := dD f) (by rw [enc_len]; omega)
      rw [e]
      have e1 : ((V.length : Int) - ((w :: V.drop (k + 1)).length : Nat)) = (k : Int) := by rw [List.length_cons, List.length_drop]; omega
      simp only [e1]
      simp [m_read_filter, fnM_ap, List.replicate, i', h3, d]
end
end Gk62
set_option maxRecDepth 100000
set_option maxHeartbeats 4000000
namespace Gk62
open PySem PySem.Spec PyProof.Rows L2 Mi
/-! the law's own look at the words -/
def ndg : D → Bool
  | .str x => match x.cps.toList with
    | [c] => !dg c
    | _ => true
  | _ => true
theorem signs_S (l : List Nat) : Mi.signs (S l) = l.map fun c => .str ⟨#[c]⟩ := by simp [Mi.signs, S, SX.S]
theorem filter_ndg : ∀ l : List Nat, ((l.map fun c => D.str ⟨#[c]⟩).filter ndg).map id = ((l.filter fun c => !dg c).map fun c => (⟨#[c]⟩ : Str)).map .str
  | [] => rfl
  | c :: l => by
    have ih := filter_ndg l
    have e : ndg (.str ⟨#[c]⟩) = !dg c := rfl
    cases q : dg c with
    | true =>
      rw [q] at e
      rw [List.map_cons, List.filter_cons, e, List.filter_cons, q]
      exact ih
    | false =>
      rw [q] at e
      rw [List.map_cons, List.filter_cons, e, List.filter_cons, q]
      simp only [Bool.not_false, if_true, List.map_cons]
      rw [ih]
      rfl
theorem emp_ndg (l : List Nat) : ((((l.filter fun c => !dg c).map fun c => (⟨#[c]⟩ : Str)).map D.str).isEmpty) = l.all dg := by
  induction l with
  | nil => rfl
  | cons c l ih =>
    cases q : dg c with
    | true => simpa [q] using ih
    | false => simp [q]
theorem law_number (w : Str) (hz : w.length ≤ 1000000) : m__law_is_number [.sh (.str w), .sh (.int 3)] = .ok (.sh (.bl (isN3 w.cps.toList))) [] := by
  have el : pLen [.str w] = some (.sh (.int (w.length : Int))) := len_s (by rw [sizeLine_eq]; omega)
  obtain ⟨l, rfl⟩ : ∃ l, w = S l := ⟨w.cps.toList, (S_cps' w).symm⟩
  have e1 : (S l).cps.toList = l := by simp [S, SX.S]
  rw [e1]
  rw [SX.S_len] at el hz
  cases l with
  | nil => simp [m__law_is_number, fnM_ap, isN3, emp_S]
  | cons c l =>
    have ne : ¬ S (c :: l) = ("" : Str) := fun z => by rw [emp_S] at z; cases SX.S_inj z
    by_cases b : 3 < (c :: l).length
    · have b' : (3 : Int) < (l.length : Int) + 1 := by simp only [List.length_cons] at b; omega
      have e2 : isN3 (c :: l) = false := by
        unfold isN3
        rw [decide_eq_false (by omega)]
        simp
      rw [e2]
      simp only [List.length_cons, Int.natCast_add, Int.natCast_one] at el
      simp [m__law_is_number, fnM_ap, ne, el, b']
    · have b' : ¬ (3 : Int) < (l.length : Int) + 1 := by simp only [List.length_cons] at b; omega
      have e3 : B__law_is_number_1 [.sh (.str (S (c :: l))), .sh (.int 3), .gone] = .ok (.val (.ol ((((c :: l).filter fun c => !dg c).map fun c => (⟨#[c]⟩ : Str)).map .str))) [.sh (.str (S (c :: l))), .sh (.int 3), .gone] := by
        have z := eLcS_if (e := eV 0) (m := eV 2) (tt := bE (eP2 (pIn true) (eV 2) (eC (.str "0123456789")))) (j := 2) (p := ndg) (g := id) (env := [.sh (.str (S (c :: l))), .sh (.int 3), .gone]) (env1 := [.sh (.str (S (c :: l))), .sh (.int 3), .gone]) (o := .slot 0) (z := S (c :: l)) rfl rfl rfl (fun d hd => by
          rw [signs_S] at hd
          obtain ⟨a, _, rfl⟩ := List.mem_map.mp hd
          exact ⟨by simp [in_dg]; show dg a = !(!dg a); simp, fun _ => ⟨.slot 2, rfl, rfl⟩⟩) (by rw [signs_S, List.length_map, sizeLine_eq]; omega)
        rw [signs_S, filter_ndg] at z
        exact z
      have e4 := ne_nilL (toPs_str (((c :: l).filter fun c => !dg c).map fun c => (⟨#[c]⟩ : Str)))
      rw [emp_ndg] at e4
      have i0 := ix_head (c := c) (l := l) (by simp only [List.length_cons] at b; omega)
      have hl : (c :: l).length ≤ 3 := by omega
      simp only [List.length_cons, Int.natCast_add, Int.natCast_one] at el hl
      have hl' : l.length ≤ 2 := by omega
      generalize ((((c :: l).filter fun c => !dg c).map fun c => (⟨#[c]⟩ : Str)).map D.str) = ds at e3 e4
      cases q : (c :: l).all dg with
      | false =>
        rw [q] at e4
        have e5 : isN3 (c :: l) = false := by
          unfold isN3
          rw [q]
          simp
        rw [e5]
        simp [m__law_is_number, fnM_ap, ne, el, b', e3, e4]
      | true =>
        rw [q] at e4
        have e5 : isN3 (c :: l) = (decide (c ≠ 48) || decide (c :: l = [48])) := by
          unfold isN3
          rw [q]
          simp [hl']
        rw [e5]
        by_cases c0 : c = 48
        · subst c0
          by_cases l0 : l = []
          · subst l0
            simp [m__law_is_number, fnM_ap, ne, el, b', e3, e4, i0, zero_S, S_eq]
          · simp [m__law_is_number, fnM_ap, ne, el, b', e3, e4, i0, zero_S, S_eq, l0]
        · have c1 : ¬ S [c] = S [48] := fun z => by
            have := SX.S_inj z
            simp at this
            exact c0 this
          have c2 : ¬ S (c :: l) = S [48] := fun z => by
            have := SX.S_inj z
            simp at this
            exact c0 this.1
          simp [m__law_is_number, fnM_ap, ne, el, b', e3, e4, i0, zero_S, c1, c2, c0]
/-! the stack -/
def kE : Kd → D
  | .fil lv => .tup [.str "filter", .int lv]
  | .txt => .tup [.str "text", .int 0]
  | .say => .tup [.str "say", .int 0]
  | .amg => .tup [.str "among", .int 0]
  | .many lv => .tup [.str "many", .int lv]
def kS (s : List Kd) : List D := (s.map kE).reverse
theorem kS_len (s : List Kd) : (kS s).length = s.length := by simp [kS]
theorem kS_cons (x : Kd) (s : List Kd) : kS (x :: s) = kS s ++ [kE x] := by simp [kS]
theorem kS_app (a b : List Kd) : kS (a ++ b) = kS b ++ kS a := by simp [kS]
theorem kS_last (x : Kd) (s : List Kd) : (kS (x :: s))[(kS (x :: s)).length - 1]? = some (kE x) := by
  rw [kS_cons, List.length_append, List.length_singleton, Nat.add_sub_cancel]
  simp
theorem kS_drop (x : Kd) (s : List Kd) : (kS (x :: s)).dropLast = kS s := by
  rw [kS_cons]
  simp
theorem kS_rep (n : Nat) (x : Kd) : kS (List.replicate n x) = List.replicate n (kE x) := by simp [kS]
theorem toPs_app : ∀ {a b : List D} {p q : List PyData}, toPs a = some p → toPs b = some q → toPs (a ++ b) = some (p ++ q)
  | [], b, p, q, h1, h2 => by
    rw [toPs] at h1
    cases h1
    exact h2
  | d :: a, b, p, q, h1, h2 => by
    rw [toPs] at h1
    cases e : toP d with
    | none =>
      rw [e] at h1
      cases h1
    | some pd =>
      cases e2 : toPs a with
      | none =>
        rw [e, e2] at h1
        cases h1
      | some pa =>
        rw [e, e2] at h1
        cases h1
        rw [List.cons_append, toPs, e, toPs_app e2 h2]
        rfl
theorem toPs_kS : ∀ s : List Kd, ∃ ps, toPs (kS s) = some ps
  | [] => ⟨[], rfl⟩
  | x :: s => by
    obtain ⟨ps, h⟩ := toPs_kS s
    have h1 : ∃ p, toPs [kE x] = some p := by cases x <;> exact ⟨_, rfl⟩
    obtain ⟨p, h1⟩ := h1
    exact ⟨ps ++ p, by rw [kS_cons]; exact toPs_app h h1⟩
theorem eq_kS (s : List Kd) : pEq (.lst (kS s)) (.lst []) = some (.sh (.bl s.isEmpty)) := by
  obtain ⟨ps, h⟩ := toPs_kS s
  rw [eq_nilL h]
  cases s with
  | nil => rfl
  | cons x s =>
    rw [kS_cons]
    simp
theorem flat_rep (n : Nat) (x : D) : (List.replicate n [x]).flatten = List.replicate n x := by
  induction n with
  | zero => rfl
  | succ n ih => rw [List.replicate_succ, List.flatten_cons, ih, List.replicate_succ]; rfl
noncomputable abbrev LP : SM := (sSeq (sIf (bE (eP2 pEq (eV 1) (eLst aNil)))
  (sRet (eV 2))
  sNx)
  (sSeq (sUnp [3, 4] (ePop 1))
  (sSeq (sSet 5 (eP2 pIx (eV 0) (eV 2)))
  (sIf (bE (eP2 pEq (eV 3) (eC (.str "filter"))))
  B__law_place_2
  (sIf (bOr (bAnd (bE (eP2 pEq (eV 3) (eC (.str "text")))) (bNot (bE (eCall m__law_is_text_word (aCons (eV 5) aNil))))) (bAnd (bE (eP2 pEq (eV 3) (eC (.str "say")))) (bE (eP2 (pIn true) (eV 5) (eTup (aCons (eC (.str "yes")) (aCons (eC (.str "no")) aNil)))))))
  (sRet (eV 2))
  (sIf (bOr (bE (eP2 pEq (eV 3) (eC (.str "many")))) (bE (eP2 pEq (eV 3) (eC (.str "among")))))
  B__law_place_1
  sNx))))))
abbrev heads : List Str := ["is", "below", "above", "begins", "say", "not", "among", "and", "or", "none"]
theorem in_heads (w : Str) : pIn true (.str w) (.lst [.str "is", .str "below", .str "above", .str "begins", .str "say", .str "not", .str "among", .str "and", .str "or", .str "none"]) = some (.sh (.bl (!decide (w ∈ heads)))) := (in_lst (neg := true) w heads).trans (by simp)
theorem add_kS {a b : List D} (h : a.length + b.length ≤ 16000000) : pAdd (.lst a) (.lst b) = some (.ol (a ++ b)) := by
  show (if _ then _ else _) = _
  rw [if_pos (by rw [sizeLine_eq]; omega)]
theorem mul_kS {n : Nat} (d : D) (h : n ≤ 999) : pMulM (.lst [d]) (.int (n : Int)) = some (.ol (List.replicate n d)) := by
  rw [mulM_li, if_pos ⟨by omega, by omega, by simp; rw [sizeLine_eq]; omega⟩]
  have e : ((n : Int)).toNat = n := by omega
  rw [e, flat_rep]
section
variable {V : List Str}
/-- one word -/
structure LPh (V : List Str) (s : List Kd) (x : Kd) (i : Int) (w : Str) : Prop where
  e1 : pEq (.lst (kS (x :: s))) (.lst []) = some (.sh (.bl false))
  e2 : (kS (x :: s))[(kS (x :: s)).length - 1]? = some (kE x)
  e3 : (kS (x :: s)).dropLast = kS s
  e4 : atI (enc V) i = some (.str w)
  hw : w.length ≤ 1000000
  hz : (kS s).length < sizeLine
  hk : (kS s).length ≤ 14010000
def LPno (V : List Str) (s : List Kd) (x : Kd) (i : Int) : Prop := ∀ (a3 a4 a5 a6 : W), ∃ env, LP [.ol (enc V), .ol (kS (x :: s)), .sh (.int i), a3, a4, a5, a6] = .ok (.rt (.sh (.int i))) env
def LPyes (V : List Str) (s : List Kd) (x : Kd) (i : Int) (t : List D) : Prop := ∀ (a3 a4 a5 a6 : W), ∃ b3 b4 b5 b6, LP [.ol (enc V), .ol (kS (x :: s)), .sh (.int i), a3, a4, a5, a6] = .ok .nx [.ol (enc V), .ol t, .sh (.int i), b3, b4, b5, b6]
section
variable {s : List Kd} {i lv : Int} {w : Str}
theorem LP_deep (h : LPh V s (.fil lv) i w) (h20 : 20 < lv) : LPno V s (.fil lv) i := fun a3 a4 a5 a6 => by
  obtain ⟨e1, e2, e3, e4, hw, hz, hk⟩ := h
  simp only [kE] at e2
  exact ⟨_, by simp [LP, B__law_place_2, e1, e2, e3, e4, h20]; rfl⟩
theorem LP_none (h : LPh V s (.fil lv) i "none") (h20 : ¬ 20 < lv) : LPyes V s (.fil lv) i (kS s) := fun a3 a4 a5 a6 => by
  obtain ⟨e1, e2, e3, e4, hw, hz, hk⟩ := h
  have e5 := in_heads "none"
  simp only [kE] at e2
  exact ⟨_, _, _, _, by simp [LP, B__law_place_2, e1, e2, e3, e4, h20, e5]; first | rfl | exact ⟨rfl, rfl, rfl, rfl⟩⟩
theorem LP_leaf (h : LPh V s (.fil lv) i w) (h20 : ¬ 20 < lv) (hw4 : w = "is" ∨ w = "below" ∨ w = "above" ∨ w = "begins") : LPyes V s (.fil lv) i (kS s ++ [kE .txt]) := fun a3 a4 a5 a6 => by
  obtain ⟨e1, e2, e3, e4, hw, hz, hk⟩ := h
  have e5 := in_heads w
  simp only [kE] at e2
  rcases hw4 with rfl | rfl | rfl | rfl <;> exact ⟨_, _, _, _, by simp [LP, B__law_place_2, e1, e2, e3, e4, h20, e5, hz, kE]; first | rfl | exact ⟨rfl, rfl, rfl, rfl⟩⟩
theorem LP_say (h : LPh V s (.fil lv) i "say") (h20 : ¬ 20 < lv) : LPyes V s (.fil lv) i (kS s ++ [kE .say]) := fun a3 a4 a5 a6 => by
  obtain ⟨e1, e2, e3, e4, hw, hz, hk⟩ := h
  have e5 := in_heads "say"
  simp only [kE] at e2
  exact ⟨_, _, _, _, by simp [LP, B__law_place_2, e1, e2, e3, e4, h20, e5, hz, kE]; first | rfl | exact ⟨rfl, rfl, rfl, rfl⟩⟩
theorem LP_among (h : LPh V s (.fil lv) i "among") (h20 : ¬ 20 < lv) : LPyes V s (.fil lv) i (kS s ++ [kE .amg]) := fun a3 a4 a5 a6 => by
  obtain ⟨e1, e2, e3, e4, hw, hz, hk⟩ := h
  have e5 := in_heads "among"
  simp only [kE] at e2
  exact ⟨_, _, _, _, by simp [LP, B__law_place_2, e1, e2, e3, e4, h20, e5, hz, kE]; first | rfl | exact ⟨rfl, rfl, rfl, rfl⟩⟩
theorem LP_neg (h : LPh V s (.fil lv) i "not") (h20 : ¬ 20 < lv) : LPyes V s (.fil lv) i (kS s ++ [kE (.fil (lv + 1))]) := fun a3 a4 a5 a6 => by
  obtain ⟨e1, e2, e3, e4, hw, hz, hk⟩ := h
  have e5 := in_heads "not"
  simp only [kE] at e2
  exact ⟨_, _, _, _, by simp [LP, B__law_place_2, e1, e2, e3, e4, h20, e5, hz, kE]; first | rfl | exact ⟨rfl, rfl, rfl, rfl⟩⟩
theorem LP_grp (h : LPh V s (.fil lv) i w) (h20 : ¬ 20 < lv) (hw2 : w = "and" ∨ w = "or") : LPyes V s (.fil lv) i (kS s ++ [kE (.many (lv + 1))]) := fun a3 a4 a5 a6 => by
  obtain ⟨e1, e2, e3, e4, hw, hz, hk⟩ := h
  have e5 := in_heads w
  simp only [kE] at e2
  rcases hw2 with rfl | rfl <;> exact ⟨_, _, _, _, by simp [LP, B__law_place_2, e1, e2, e3, e4, h20, e5, hz, kE]; first | rfl | exact ⟨rfl, rfl, rfl, rfl⟩⟩
theorem LP_other (h : LPh V s (.fil lv) i w) (h20 : ¬ 20 < lv) (hw0 : ¬ w ∈ heads) : LPno V s (.fil lv) i := fun a3 a4 a5 a6 => by
  obtain ⟨e1, e2, e3, e4, hw, hz, hk⟩ := h
  have e5 := in_heads w
  rw [decide_eq_false hw0] at e5
  simp only [kE] at e2
  exact ⟨_, by simp [LP, B__law_place_2, e1, e2, e3, e4, h20, e5]; rfl⟩
theorem LP_txt1 (h : LPh V s .txt i w) (q : isTW w = true) : LPyes V s .txt i (kS s) := fun a3 a4 a5 a6 => by
  obtain ⟨e1, e2, e3, e4, hw, hz, hk⟩ := h
  have e5 := law_text_word hw
  rw [q] at e5
  simp only [kE] at e2
  exact ⟨_, _, _, _, by simp [LP, e1, e2, e3, e4, e5]; exact ⟨rfl, rfl, rfl, rfl⟩⟩
theorem LP_txt0 (h : LPh V s .txt i w) (q : ¬ isTW w = true) : LPno V s .txt i := fun a3 a4 a5 a6 => by
  obtain ⟨e1, e2, e3, e4, hw, hz, hk⟩ := h
  have e5 := law_text_word hw
  rw [Bool.eq_false_iff.mpr q] at e5
  simp only [kE] at e2
  exact ⟨_, by simp [LP, e1, e2, e3, e4, e5]; rfl⟩
theorem LP_say1 (h : LPh V s .say i w) (hw2 : w = "yes" ∨ w = "no") : LPyes V s .say i (kS s) := fun a3 a4 a5 a6 => by
  obtain ⟨e1, e2, e3, e4, hw, hz, hk⟩ := h
  simp only [kE] at e2
  rcases hw2 with rfl | rfl <;> exact ⟨_, _, _, _, by simp [LP, e1, e2, e3, e4]; exact ⟨rfl, rfl, rfl, rfl⟩⟩
theorem LP_say0 (h : LPh V s .say i w) (q : ¬ w = "yes") (q2 : ¬ w = "no") : LPno V s .say i := fun a3 a4 a5 a6 => by
  obtain ⟨e1, e2, e3, e4, hw, hz, hk⟩ := h
  simp only [kE] at e2
  exact ⟨_, by simp [LP, e1, e2, e3, e4, q, q2]; rfl⟩
theorem LP_amg0 (h : LPh V s .amg i w) (q : numV w = none) : LPno V s .amg i := fun a3 a4 a5 a6 => by
  obtain ⟨e1, e2, e3, e4, hw, hz, hk⟩ := h
  simp only [kE] at e2
  have e5 := law_number w hw
  rw [← numV_n3, q] at e5
  exact ⟨_, by simp [LP, B__law_place_1, e1, e2, e3, e4, e5]; rfl⟩
theorem LP_many0 (h : LPh V s (.many lv) i w) (q : numV w = none) : LPno V s (.many lv) i := fun a3 a4 a5 a6 => by
  obtain ⟨e1, e2, e3, e4, hw, hz, hk⟩ := h
  simp only [kE] at e2
  have e5 := law_number w hw
  rw [← numV_n3, q] at e5
  exact ⟨_, by simp [LP, B__law_place_1, e1, e2, e3, e4, e5]; rfl⟩
theorem LP_numA {t u : List D} {z : Int} {y : D} (h : LPh V s .amg i w) (e5 : m__law_is_number [.sh (.str w), .sh (.int 3)] = .ok (.sh (.bl true)) []) (e6 : pInt [.str w] = some (.sh (.int z)))
    (e7 : pMulM (.lst [.tup [.str "text", .int 0]]) (.int z) = some (.ol u)) (e8 : pAdd (.lst (kS s)) (.lst u) = some (.ol t)) : LPyes V s .amg i t := fun a3 a4 a5 a6 => by
  obtain ⟨e1, e2, e3, e4, hw, hz, hk⟩ := h
  simp only [kE] at e2
  exact ⟨_, _, _, _, by simp [LP, B__law_place_1, e1, e2, e3, e4, e5, e6, e7, e8, -mulM_li]; exact ⟨rfl, rfl, rfl, rfl⟩⟩
theorem LP_numM {t u : List D} {z : Int} {y : D} (h : LPh V s (.many lv) i w) (e5 : m__law_is_number [.sh (.str w), .sh (.int 3)] = .ok (.sh (.bl true)) []) (e6 : pInt [.str w] = some (.sh (.int z)))
    (e7 : pMulM (.lst [.tup [.str "filter", .int lv]]) (.int z) = some (.ol u)) (e8 : pAdd (.lst (kS s)) (.lst u) = some (.ol t)) : LPyes V s (.many lv) i t := fun a3 a4 a5 a6 => by
  obtain ⟨e1, e2, e3, e4, hw, hz, hk⟩ := h
  simp only [kE] at e2
  exact ⟨_, _, _, _, by simp [LP, B__law_place_1, e1, e2, e3, e4, e5, e6, e7, e8, -mulM_li]; exact ⟨rfl, rfl, rfl, rfl⟩⟩
theorem add_rep {n : Nat} {x : Kd} (h9 : n ≤ 999) (hk : (kS s).length ≤ 14010000) : pAdd (.lst (kS s)) (.lst (List.replicate n (kE x))) = some (.ol (kS (List.replicate n x ++ s))) := by
  rw [add_kS (by rw [List.length_replicate]; omega), kS_app, kS_rep]
theorem LP_amg1 (h : LPh V s .amg i w) {n : Nat} (q : numV w = some n) : LPyes V s .amg i (kS (List.replicate n .txt ++ s)) := by
  have e5 := law_number w h.hw
  rw [← numV_n3, q] at e5
  have h9 := (numV_some q).1
  exact LP_numA (y := .non) h e5 (int_word q) (mul_kS _ h9) (add_rep (x := .txt) h9 h.hk)
theorem LP_many1 (h : LPh V s (.many lv) i w) {n : Nat} (q : numV w = some n) : LPyes V s (.many lv) i (kS (List.replicate n (.fil lv) ++ s)) := by
  have e5 := law_number w h.hw
  rw [← numV_n3, q] at e5
  have h9 := (numV_some q).1
  exact LP_numM (y := .non) h e5 (int_word q) (mul_kS _ h9) (add_rep (x := .fil lv) h9 h.hk)
theorem LPyes.one {x y : Kd} (h : LPyes V s x i (kS s ++ [kE y])) : LPyes V s x i (kS ([y] ++ s)) := by
  have e : kS ([y] ++ s) = kS s ++ [kE y] := kS_cons y s
  rw [e]
  exact h
theorem LP_s {x : Kd} (e4 : atI (enc V) i = some (.str w)) (hw : w.length ≤ 1000000) (hs : s.length ≤ 14010000) : match stepK x w with
    | none => LPno V s x i
    | some new => LPyes V s x i (kS (new ++ s)) := by
  have e1 := eq_kS (x :: s)
  have hk := kS_len s
  have h : LPh V s x i w := ⟨e1, kS_last x s, kS_drop x s, e4, hw, by rw [hk, sizeLine_eq]; omega, by omega⟩
  cases x with
  | fil lv =>
    by_cases h20 : 20 < lv
    · rw [stepK, if_pos h20]
      exact LP_deep h h20
    · rw [stepK, if_neg h20]
      by_cases q1 : w = "is"
      · rw [if_pos q1]
        exact LPyes.one (LP_leaf h h20 (.inl q1))
      rw [if_neg q1]
      by_cases q2 : w = "below"
      · rw [if_pos q2]
        exact LPyes.one (LP_leaf h h20 (.inr (.inl q2)))
      rw [if_neg q2]
      by_cases q3 : w = "above"
      · rw [if_pos q3]
        exact LPyes.one (LP_leaf h h20 (.inr (.inr (.inl q3))))
      rw [if_neg q3]
      by_cases q4 : w = "begins"
      · rw [if_pos q4]
        exact LPyes.one (LP_leaf h h20 (.inr (.inr (.inr q4))))
      rw [if_neg q4]
      by_cases q5 : w = "none"
      · subst q5
        rw [if_pos rfl]
        exact LP_none h h20
      rw [if_neg q5]
      by_cases q6 : w = "say"
      · subst q6
        rw [if_pos rfl]
        exact LPyes.one (LP_say h h20)
      rw [if_neg q6]
      by_cases q7 : w = "not"
      · subst q7
        rw [if_pos rfl]
        exact LPyes.one (LP_neg h h20)
      rw [if_neg q7]
      by_cases q8 : w = "among"
      · subst q8
        rw [if_pos rfl]
        exact LPyes.one (LP_among h h20)
      rw [if_neg q8]
      by_cases q9 : w = "and"
      · rw [if_pos q9]
        exact LPyes.one (LP_grp h h20 (.inl q9))
      rw [if_neg q9]
      by_cases q10 : w = "or"
      · rw [if_pos q10]
        exact LPyes.one (LP_grp h h20 (.inr q10))
      rw [if_neg q10]
      exact LP_other h h20 (by simp [heads, q1, q2, q3, q4, q5, q6, q7, q8, q9, q10])
  | txt =>
    rw [stepK]
    by_cases q : isTW w = true
    · rw [if_pos q]
      exact LP_txt1 h q
    · rw [if_neg q]
      exact LP_txt0 h q
  | say =>
    rw [stepK]
    by_cases q : w = "yes"
    · rw [if_pos q]
      exact LP_say1 h (.inl q)
    · rw [if_neg q]
      by_cases q2 : w = "no"
      · rw [if_pos q2]
        exact LP_say1 h (.inr q2)
      · rw [if_neg q2]
        exact LP_say0 h q q2
  | amg =>
    rw [stepK]
    cases q : numV w with
    | none => exact LP_amg0 h q
    | some n => exact LP_amg1 h q
  | many lv =>
    rw [stepK]
    cases q : numV w with
    | none => exact LP_many0 h q
    | some n => exact LP_many1 h q
end
theorem stepK_len {x : Kd} {w : Str} {new : List Kd} (h : stepK x w = some new) : new.length ≤ 999 := by
  cases x with
  | fil lv =>
    rw [stepK] at h
    repeat' split at h
    all_goals first
      | (cases h; simp; done)
      | cases h
  | txt =>
    rw [stepK] at h
    split at h <;> cases h
    simp
  | say =>
    rw [stepK] at h
    split at h
    · cases h
      simp
    · split at h <;> cases h
      simp
  | amg =>
    rw [stepK] at h
    cases q : numV w with
    | none =>
      rw [q] at h
      cases h
    | some n =>
      rw [q] at h
      cases h
      have := (numV_some q).1
      simpa using this
  | many lv =>
    rw [stepK] at h
    cases q : numV w with
    | none =>
      rw [q] at h
      cases h
    | some n =>
      rw [q] at h
      cases h
      have := (numV_some q).1
      simpa using this
theorem LP_end {i : Nat} {a3 a4 a5 a6 : W} : LP [.ol (enc V), .ol (kS []), .sh (.int (i : Int)), a3, a4, a5, a6] = .ok (.rt (.sh (.int (i : Int)))) [.ol (enc V), .ol (kS []), .sh (.int (i : Int)), a3, a4, a5, a6] := by
  have e1 := eq_kS []
  simp only [List.isEmpty_nil] at e1
  simp [LP, e1]
theorem rngD_cons (i j : Int) {n : Nat} (h : j = i + 1) : rngD i (n + 1) = .int i :: rngD j n := by
  subst h
  unfold rngD
  rw [List.range_succ_eq_map, List.map_cons, List.map_map]
  have h0 : D.int (i + ((0 : Nat) : Int)) = D.int i := by simp
  have h1 : List.map ((fun k : Nat => D.int (i + (k : Int))) ∘ Nat.succ) (List.range n) = List.map (fun k : Nat => D.int (i + 1 + (k : Int))) (List.range n) := List.map_congr_left fun a _ => by
    show D.int (i + ((a + 1 : Nat) : Int)) = D.int (i + 1 + (a : Int))
    have e : i + ((a + 1 : Nat) : Int) = i + 1 + (a : Int) := by omega
    rw [e]
  rw [h0, h1]
/-- the walk -/
theorem place_loop (hl : ∀ w ∈ V, w.length ≤ 1000000) (hV : V.length ≤ 14000) : ∀ (n i : Nat) (s : List Kd) (a2 a3 a4 a5 a6 : W), i + n = V.length → s.length ≤ 1000 * (i + 1) → match runK s (V.drop i) with
    | none => ∃ b2 b3 b4 b5 b6, forT (.nm 2) LP (rngD (i : Int) n) [.ol (enc V), .ol (kS s), a2, a3, a4, a5, a6] = .ok .nx [.ol (enc V), .ol [], b2, b3, b4, b5, b6]
    | some [] => ∃ x s' b2 b3 b4 b5 b6, forT (.nm 2) LP (rngD (i : Int) n) [.ol (enc V), .ol (kS s), a2, a3, a4, a5, a6] = .ok .nx [.ol (enc V), .ol (kS (x :: s')), b2, b3, b4, b5, b6]
    | some (w :: r) => ∃ env, forT (.nm 2) LP (rngD (i : Int) n) [.ol (enc V), .ol (kS s), a2, a3, a4, a5, a6] = .ok (.rt (.sh (.int ((V.length : Int) - ((w :: r).length : Nat))))) env
  | 0, i, s, a2, a3, a4, a5, a6, hi, hs => by
    have e : V.drop i = [] := List.drop_eq_nil_of_le (by omega)
    rw [e]
    have e0 : rngD (i : Int) 0 = [] := rfl
    rw [e0]
    cases s with
    | nil => exact ⟨a2, a3, a4, a5, a6, rfl⟩
    | cons x s => exact ⟨x, s, a2, a3, a4, a5, a6, rfl⟩
  | n + 1, i, s, a2, a3, a4, a5, a6, hi, hs => by
    have h1 : i < V.length := by omega
    have hd : V.drop i = V[i] :: V.drop (i + 1) := List.drop_eq_getElem_cons h1
    have hr : rngD (i : Int) (n + 1) = .int (i : Int) :: rngD ((i + 1 : Nat) : Int) n := rngD_cons _ _ (by omega)
    have hlen : ((V.length : Int) - ((V[i] :: V.drop (i + 1)).length : Nat)) = (i : Int) := by rw [List.length_cons, List.length_drop]; omega
    rw [hr, hd, forT, asg_nm]
    show match runK s (V[i] :: V.drop (i + 1)) with
    | none => ∃ b2 b3 b4 b5 b6, (LP [.ol (enc V), .ol (kS s), .sh (.int (i : Int)), a3, a4, a5, a6]).bind _ = Out.ok Mi.Fl.nx [.ol (enc V), .ol [], b2, b3, b4, b5, b6]
    | some [] => ∃ x s' b2 b3 b4 b5 b6, (LP [.ol (enc V), .ol (kS s), .sh (.int (i : Int)), a3, a4, a5, a6]).bind _ = Out.ok Mi.Fl.nx [.ol (enc V), .ol (kS (x :: s')), b2, b3, b4, b5, b6]
    | some (w :: r) => ∃ env, (LP [.ol (enc V), .ol (kS s), .sh (.int (i : Int)), a3, a4, a5, a6]).bind _ = Out.ok (Mi.Fl.rt (.sh (.int ((V.length : Int) - ((w :: r).length : Nat))))) env
    cases s with
    | nil =>
      rw [runK, LP_end]
      simp only [hlen]
      exact ⟨_, rfl⟩
    | cons x s =>
      have l := LP_s (s := s) (x := x) (atI_nat (enc_get (List.getElem?_eq_getElem h1))) (hl _ (List.getElem_mem h1)) (by simp only [List.length_cons] at hs; omega)
      rw [runK]
      cases q : stepK x V[i] with
      | none =>
        rw [q] at l
        obtain ⟨env, l⟩ := l a3 a4 a5 a6
        rw [l]
        simp only [hlen]
        exact ⟨env, rfl⟩
      | some new =>
        rw [q] at l
        obtain ⟨b3, b4, b5, b6, l⟩ := l a3 a4 a5 a6
        have hn := stepK_len q
        have ih := place_loop hl hV n (i + 1) (new ++ s) (.sh (.int (i : Int))) b3 b4 b5 b6 (by omega) (by rw [List.length_append]; simp only [List.length_cons] at hs; omega)
        rw [l]
        exact ih
end
end Gk62
set_option maxRecDepth 100000
set_option maxHeartbeats 4000000
namespace Gk62
open PySem PySem.Spec PyProof.Rows L2 Mi
section
variable {V : List Str}
abbrev env0 (V : List Str) : En := [.ol (enc V), .ol [.tup [.str "filter", .int 1]], .gone, .gone, .gone, .gone, .gone]
noncomputable abbrev LPe : SM := sRet (eIf (bE (eP2 pEq (eV 1) (eLst aNil))) (eP1 pNeg (eC (.int 1))) (ePrim pLen (aCons (eV 0) aNil)))
theorem pl0 : m__law_place [.ol (enc V)] = fnM 6 [] (sSeq (sSet 1 (eLst (aCons (eTup (aCons (eC (.str "filter")) (aCons (eC (.int 1)) aNil))) aNil)))
  (sSeq B__law_place_3 LPe)) [.ol (enc V)] := by rw [m__law_place]
theorem pl1 : (sSet 1 (eLst (aCons (eTup (aCons (eC (.str "filter")) (aCons (eC (.int 1)) aNil))) aNil))) [.ol (enc V), .gone, .gone, .gone, .gone, .gone, .gone] = .ok .nx (env0 V) := by simp
theorem pl2 {x : SM} : fnM 6 [] x [.ol (enc V)] = match x [.ol (enc V), .gone, .gone, .gone, .gone, .gone, .gone] with
  | .ok .nx env => .ok (.sh .non) (outsOf [] env)
  | .ok (.rt w) env => .ok w (outsOf [] env)
  | .ok _ _ => .stuck
  | .err x env => .err x (outsOf [] env)
  | .stuck => .stuck := rfl
theorem pl3 {z : Int} {env e0 : En} {s1 b s2 : SM} {e : En} (h1 : s1 e = .ok .nx e0) (h : b e0 = .ok (.rt (.sh (.int z))) env) : sSeq s1 (sSeq b s2) e = .ok (.rt (.sh (.int z))) env := by
  rw [sSeq_ap, h1]
  simp only [bind_ok]
  rw [sSeq_ap, h]
  simp only [bind_ok]
theorem pl4 {z : Int} {env e0 e1 : En} {s1 b s2 : SM} {e : En} (h1 : s1 e = .ok .nx e0) (h : b e0 = .ok .nx e1) (h2 : s2 e1 = .ok (.rt (.sh (.int z))) env) : sSeq s1 (sSeq b s2) e = .ok (.rt (.sh (.int z))) env := by
  rw [sSeq_ap, h1]
  simp only [bind_ok]
  rw [sSeq_ap, h]
  simp only [bind_ok]
  exact h2
theorem place_rt {z : Int} {env : En} (h : B__law_place_3 (env0 V) = .ok (.rt (.sh (.int z))) env) : m__law_place [.ol (enc V)] = .ok (.sh (.int z)) [] := by
  rw [pl0, pl2, pl3 pl1 h]
  simp
theorem place_all {b2 b3 b4 b5 b6 : W} (h : B__law_place_3 (env0 V) = .ok .nx [.ol (enc V), .ol [], b2, b3, b4, b5, b6]) : m__law_place [.ol (enc V)] = .ok (.sh (.int (-1))) [] := by
  have n0 := eq_nilL (ds := []) rfl
  have h2 : LPe [.ol (enc V), .ol [], b2, b3, b4, b5, b6] = .ok (.rt (.sh (.int (-1)))) [.ol (enc V), .ol [], b2, b3, b4, b5, b6] := by simp [LPe, n0]
  rw [pl0, pl2, pl4 pl1 h h2]
  simp
theorem place_more {b2 b3 b4 b5 b6 : W} {L : Int} {t : List D} (h : B__law_place_3 (env0 V) = .ok .nx [.ol (enc V), .ol t, b2, b3, b4, b5, b6]) (n0 : pEq (.lst t) (.lst []) = some (.sh (.bl false))) (pl : pLen [.lst (enc V)] = some (.sh (.int L))) : m__law_place [.ol (enc V)] = .ok (.sh (.int L)) [] := by
  have h2 : LPe [.ol (enc V), .ol t, b2, b3, b4, b5, b6] = .ok (.rt (.sh (.int L))) [.ol (enc V), .ol t, b2, b3, b4, b5, b6] := by simp [LPe, n0, -len_l, pl]
  rw [pl0, pl2, pl4 pl1 h h2]
  simp
theorem law_place (hl : ∀ w ∈ V, w.length ≤ 1000000) (hV : V.length ≤ 14000) : m__law_place [.ol (enc V)] = .ok (.sh (.int (match readF V with
    | .ok _ _ => -1
    | .bad r => (V.length : Int) - r.length))) [] := by
  have h := place_loop hl hV V.length 0 [.fil 1] .gone .gone .gone .gone .gone (by omega) (by simp)
  rw [List.drop_zero, run_readF] at h
  have e0 : ((0 : Nat) : Int) = 0 := rfl
  rw [e0] at h
  have eb : ∀ env, B__law_place_3 ([.ol (enc V), .ol [.tup [.str "filter", .int 1]], .gone, .gone, .gone, .gone, .gone] : En) = env ↔ forT (.nm 2) LP (rngD 0 V.length) [.ol (enc V), .ol (kS [.fil 1]), .gone, .gone, .gone, .gone, .gone] = env := fun env => by
    unfold B__law_place_3
    rw [sForR1_eq (n := V.length) (o := .val (.sh (.int (V.length : Int)))) (env1 := [.ol (enc V), .ol [.tup [.str "filter", .int 1]], .gone, .gone, .gone, .gone, .gone]) (by simp [enc_len]) rfl (by omega)]
    exact Iff.rfl
  cases q : readF V with
  | ok f r =>
    rw [q] at h
    obtain ⟨b2, b3, b4, b5, b6, h⟩ := h
    exact place_all ((eb _).mpr h)
  | bad r =>
    rw [q] at h
    cases r with
    | nil =>
      obtain ⟨x, s', b2, b3, b4, b5, b6, h⟩ := h
      have e1 : (V.length : Int) - ((([] : List Str).length : Nat) : Int) = (V.length : Int) := by simp
      simp only [e1]
      exact place_more ((eb _).mpr h) (eq_kS (x :: s')) (by rw [len_l, enc_len])
    | cons w r =>
      obtain ⟨env, h⟩ := h
      exact place_rt ((eb _).mpr h)
end
end Gk62
set_option maxRecDepth 100000
set_option maxHeartbeats 4000000
namespace Gk62
open PySem PySem.Spec PyProof.Rows L2 Mi
/-! what was read is a filter to the law -/
theorem dD_tup (f : Fl) : ∃ ds, dD f = .tup ds := by cases f <;> exact ⟨_, by rw [dD]⟩
theorem abcOnly_S {l : List Nat} (h : Abc l) : Txt.stripChars (S l) "abc" = ("" : Str) := strip_abc h
theorem law_is_text {t : List Nat} (h : Abc t) (hl : t.length ≤ 1000) : m__law_is_text [.sh (.str (S t))] = .ok (.sh (.bl true)) [] := by
  have p : pStrip [.str (S t), .str "abc"] = some (.sh (.str "")) := by
    show (if (S t).length ≤ sizeLine then some (W.sh (.str (Txt.stripChars (S t) "abc"))) else none) = _
    rw [if_pos (by rw [SX.S_len, sizeLine_eq]; omega), strip_abc h]
  simp [m__law_is_text, fnM_ap, p]
theorem is_query_ok {mt mg : Nat} (h1 : mt ≤ 1000) (h2 : mg ≤ 100000) : ∀ (n fu : Nat) (f : Fl), Okf mt mg n f → n ≤ fu → m__law_is_query fu [.sh (dD f)] = .ok (.sh (.bl true)) []
  | 0, fu, f, h, _ => by cases f <;> exact absurd h (by simp [Okf])
  | n + 1, fu, f, h, hf => by
    obtain ⟨k, rfl⟩ : ∃ j, fu = j + 1 := ⟨fu - 1, by omega⟩
    have i1 : pIn true (.int 1) (.tup [.int 1, .int 2]) = some (.sh (.bl false)) := rfl
    have i2 : pIn true (.int 2) (.tup [.int 1, .int 2]) = some (.sh (.bl false)) := rfl
    have n0 := eq_nilL (ds := []) rfl
    cases f with
    | non => simp [m__law_is_query, fnM_ap, dD, List.replicate, at1_0, i1]
    | say b => simp [m__law_is_query, fnM_ap, dD, List.replicate, at2_0, at2_1, i2]
    | leaf w t =>
      obtain ⟨hw, ha, hl⟩ := h
      have it := law_is_text ha (by omega)
      rcases leaf_cases hw with rfl | rfl | rfl | rfl <;> simp [m__law_is_query, fnM_ap, dD, List.replicate, at2_0, at2_1, i2, leafW, it]
    | amg ts =>
      obtain ⟨hz, ha⟩ := h
      have em : ∀ v, B__law_is_query_1 (m__law_is_query k) [v, .sh (.str "among"), .sh (.tup (ts.map fun t => .str (S t))), .gone] = .ok (.val (.ol [])) [v, .sh (.str "among"), .sh (.tup (ts.map fun t => .str (S t))), .gone] := fun v => by
        have z := eLcV_if (tt := bNot (bE (eCall m__law_is_text (aCons (eV 3) aNil)))) (m := eV 3) (i := 2) (j := 3) (p := fun _ => false) (g := id) (env := [v, .sh (.str "among"), .sh (.tup (ts.map fun t => .str (S t))), .gone]) (ds := ts.map fun t => .str (S t)) rfl rfl rfl (fun d hd => by
          obtain ⟨t, ht, rfl⟩ := List.mem_map.mp hd
          obtain ⟨a1, a2⟩ := ha t ht
          exact ⟨by simp [law_is_text a1 (by omega)], fun z => by cases z⟩) (by rw [List.length_map, sizeLine_eq]; omega)
        have e : ∀ l : List D, (l.filter fun _ => false).map id = [] := fun l => by induction l <;> simp
        rw [e] at z
        exact z
      simp [m__law_is_query, fnM_ap, dD, List.replicate, at2_0, at2_1, i2]
      simp [B__law_is_query_3, em, n0]
    | neg f =>
      obtain ⟨ds, e⟩ := dD_tup f
      have ih := is_query_ok h1 h2 n k f h (by omega)
      simp [m__law_is_query, fnM_ap, dD, List.replicate, at2_0, at2_1, i2, ih]
    | grp c fs =>
      obtain ⟨hz, ha⟩ := h
      have em : ∀ v w, B__law_is_query_2 (m__law_is_query k) [v, w, .sh (.tup (fs.map dD)), .gone] = .ok (.val (.ol [])) [v, w, .sh (.tup (fs.map dD)), .gone] := fun v w => by
        have z := eLcV_if (tt := bNot (bE (eCall (m__law_is_query k) (aCons (eV 3) aNil)))) (m := eV 3) (i := 2) (j := 3) (p := fun _ => false) (g := id) (env := [v, w, .sh (.tup (fs.map dD)), .gone]) (ds := fs.map dD) rfl rfl rfl (fun d hd => by
          obtain ⟨f, hf', rfl⟩ := List.mem_map.mp hd
          exact ⟨by simp [is_query_ok h1 h2 n k f (ha f hf') (by omega)], fun z => by cases z⟩) (by rw [List.length_map, sizeLine_eq]; omega)
        have e : ∀ l : List D, (l.filter fun _ => false).map id = [] := fun l => by induction l <;> simp
        rw [e] at z
        exact z
      cases c
      · simp [m__law_is_query, fnM_ap, dD, List.replicate, at2_0, at2_1, i2, dDs_map, grpW]
        simp [B__law_is_query_3, em, n0]
      · simp [m__law_is_query, fnM_ap, dD, List.replicate, at2_0, at2_1, i2, dDs_map, grpW]
        simp [B__law_is_query_3, em, n0]
end Gk62
set_option maxRecDepth 100000
set_option maxHeartbeats 4000000
namespace Gk62
open PySem PySem.Spec PyProof.Rows L2 Mi
theorem spl_num (s : List Nat) : ∀ (l : List Nat) (k : Nat) (acc : List Nat), (TL.spl s k acc l).length ≤ l.length + 1
  | [], k, acc => by cases k <;> simp [TL.spl]
  | c :: r, 0, acc => by
    rw [TL.spl]
    split
    · have := spl_num s r (s.length - 1) []
      simp only [List.length_cons]
      omega
    · have := spl_num s r 0 (acc ++ [c])
      simp only [List.length_cons]
      omega
  | c :: r, k + 1, acc => by
    rw [TL.spl]
    have := spl_num s r k acc
    simp only [List.length_cons]
    omega
theorem split_num (x : Str) : (Txt.split x " ").length ≤ x.length + 1 := by
  have e := SX.split_S (a := x.cps.toList) (b := [32]) (by simp) (by decide)
  have e0 : SX.S x.cps.toList = x := S_cps' x
  rw [e0] at e
  have e2 : Txt.split x " " = (TL.spl [32] 0 [] x.cps.toList).map S := e
  rw [e2, List.length_map]
  have := spl_num [32] x.cps.toList 0 []
  simpa [Str.length] using this
theorem join_split' (x : Str) : Txt.join (" " : Str) (Txt.split x " ") = x := by
  unfold Txt.join
  rw [StrLaws.glued_eq_join]
  exact StrLaws.join_split x " "
theorem odd_ok : ∃ l, m__law_odd_words [] = .ok (.ol (enc l)) [] ∧ Wb 41 200 l ∧ l ≠ [] := chkW_ok (by
  simp only [m__law_odd_words]
  decide +kernel)
theorem rep_int {z : Int} (h : -100000 < z ∧ z < 100000) : ∃ s, pRepr [.int z] = some (.sh (.str s)) := by
  have h2 : z.natAbs.log2 < 1920 := by
    by_cases h0 : z.natAbs = 0
    · rw [h0]
      decide
    · have h3 : z.natAbs < 2 ^ 20 := by
        have : (2 : Nat) ^ 20 = 1048576 := by decide
        omega
      have := (Nat.log2_lt h0).mpr h3
      omega
  refine ⟨(PyData.int z).shown, ?_⟩
  show (if _ then _ else _) = _
  exact if_pos ⟨by simp [PyData.showable, h2], by simp [PyData.depth], int_text_fits h2⟩
/-- reading, as the law does it -/
theorem read_good {x : Str} {d : D} (h : m_read_filter [.sh (.str x)] = .ok (.sh d) []) : m__law_read [.sh (.str x)] = .ok (.sh (.tup [d, .int (-1), .bl true])) [] := by
  simp [m__law_read, fnM_ap, List.replicate, h]
theorem eq4 : pEq (.lst [.bl true, .bl true, .bl false, .bl false]) (.lst [.bl true, .bl true, .bl false, .bl false]) = some (.sh (.bl true)) := rfl
theorem read_bad {x : Str} {z : Int} (h : m_read_filter [.sh (.str x)] = .err ⟨16, some z⟩ []) : m__law_read [.sh (.str x)] = .ok (.sh (.tup [.non, .int z, .bl true])) [] := by
  have i1 : isx_InvalidWords 16 = true := rfl
  have i2 : isx_SkipError 16 = true := rfl
  have i3 : isx_InvalidFilter 16 = false := rfl
  have i4 : isx_InvalidValue 16 = false := rfl
  have i5 : isx_ValueError 16 = true := rfl
  have pp : pPlace (.exc 16 (some z)) = some (.sh (.int z)) := rfl
  have ne : isNonD (.exc 16 (some z)) = false := rfl
  have ad : pAdd (.lst [.bl true, .bl true, .bl false]) (.lst [.bl false]) = some (.ol [.bl true, .bl true, .bl false, .bl false]) := add_ll (by simp)
  simp [m__law_read, fnM_ap, List.replicate, h, i1, i2, i3, i4, i5, pp, ne, ad, eq4]
/-- what is drawn: a filter -/
def Gf (f : Fl) : Prop := Okf 12 100 5 f ∧ nd f ≤ 12 ∧ tx f ≤ 8
theorem wds_Wb {f : Fl} (h : Gf f) : Wb 41 32 (wds f) := by
  obtain ⟨hk, h1, h2⟩ := h
  obtain ⟨_, l2⟩ := wds_len f
  exact ⟨by omega, fun w hw => by have := (wds_wd (mt := 12) (mg := 100) (by omega) (by omega) 5 f hk w hw).1.2; omega⟩
end Gk62
set_option maxRecDepth 100000
set_option maxHeartbeats 4000000
namespace Gk62
open PySem PySem.Spec PyProof.Rows L2 Mi
def fM : Nat → Nat → Nat
  | 0, M => M
  | m + 1, M => fM m (2 * M + 8)
theorem fM_le : ∀ (m M : Nat), M ≤ fM m M
  | 0, M => Nat.le_refl _
  | m + 1, M => by
    have := fM_le m (2 * M + 8)
    rw [fM]
    omega
noncomputable abbrev LC1 : SM := sSet 4 (eCallI m__law_changed [true] (aCons (eV 2) (aCons (eFz 4) (aCons (eCall m__law_odd_words aNil) aNil))))
section
variable {s c a3 a5 a7 a8 a9 b0 : W}
theorem turn_loop : ∀ (ds : List D) (ws : List Str) (n : Int) (w a6 : W) (M L : Nat), Hd n w → n + 100 * ds.length < 2 ^ 37 → Wb M L ws → 41 ≤ M → fM ds.length M ≤ 10000 → L + ds.length ≤ 10000 →
    ∃ (ws' : List Str) (w' a6' : W), forT (.nm 6) LC1 ds [s, c, w, a3, .ol (enc ws), a5, a6, a7, a8, a9, b0] = .ok .nx [s, c, w', a3, .ol (enc ws'), a5, a6', a7, a8, a9, b0] ∧ Hd (n + 100 * ds.length) w' ∧ Wb (fM ds.length M) (L + ds.length) ws'
  | [], ws, n, w, a6, M, L, h, _, hw, _, _, _ => ⟨ws, w, a6, rfl, by simpa using h, hw⟩
  | d :: ds, ws, n, w, a6, M, L, h, hn, hw, hM, h1, h2 => by
    simp only [List.length_cons] at hn h1 h2
    have g1 := fM_le ds.length (2 * M + 8)
    rw [fM] at h1
    obtain ⟨l, eo, ho, hne⟩ := odd_ok
    obtain ⟨ws1, w1, e1, hd1, hw1⟩ := changed h (by omega) hw (ho.mono hM (Nat.le_refl _)) hne (by omega) (by omega) (by omega)
    obtain ⟨ws', w', a6', e2, hd2, hw2⟩ := turn_loop ds ws1 (n + 100) w1 (.sh d) (2 * M + 8) (L + 1) hd1 (by omega) hw1 (by omega) h1 (by omega)
    refine ⟨ws', w', a6', ?_, hd2.mono (by simp only [List.length_cons]; omega), by rw [List.length_cons, fM]; exact hw2.mono (Nat.le_refl _) (by omega)⟩
    have eb : LC1 [s, c, w, a3, .ol (enc ws), a5, .sh d, a7, a8, a9, b0] = .ok .nx [s, c, w1, a3, .ol (enc ws1), a5, .sh d, a7, a8, a9, b0] := by
      obtain ⟨r, s0, q, rfl, _⟩ := h
      simp [LC1, eo, e1]
    rw [forT, asg_nm]
    show (LC1 [s, c, w, a3, .ol (enc ws), a5, .sh d, a7, a8, a9, b0]).bind _ = _
    rw [eb, bind_ok]
    exact e2
theorem law1 {ws : List Str} {n : Int} {w a6 : W} (h : Hd n w) (hn : n < 2 ^ 36) (hw : Wb 41 32 ws) : ∃ (ws' : List Str) (w' a6' : W), B_law_1 [s, c, w, a3, .ol (enc ws), a5, a6, a7, a8, a9, b0] = .ok .nx [s, c, w', a3, .ol (enc ws'), a5, a6', a7, a8, a9, b0] ∧ Wb 384 35 ws' := by
  obtain ⟨v, w1, e1, hd1, v0, v1⟩ := pick (k := 3) h (by omega) (by omega) (by omega)
  have hb : fM (1 + v).toNat 41 ≤ 384 ∧ (1 + v).toNat ≤ 3 := by
    have c : v = 0 ∨ v = 1 ∨ v = 2 := by omega
    rcases c with rfl | rfl | rfl <;> decide
  obtain ⟨q1, q3⟩ := hb
  obtain ⟨ws', w', a6', e2, hd2, hw2⟩ := turn_loop (s := s) (c := c) (a3 := a3) (a5 := a5) (a7 := a7) (a8 := a8) (a9 := a9) (b0 := b0) (rngD 0 (1 + v).toNat) ws (n + 1) w1 a6 41 32 hd1 (by rw [rngD_len]; omega) hw (Nat.le_refl _) (by rw [rngD_len]; omega) (by rw [rngD_len]; omega)
  rw [rngD_len] at hd2 hw2
  refine ⟨ws', w', a6', ?_, hw2.mono q1 (by omega)⟩
  obtain ⟨r, s0, q, rfl, _⟩ := h
  unfold B_law_1
  have z := sForR1_eqI (m := eP2 pAdd (eC (.int 1)) (eCallI m__law_pick [true] (aCons (eV 2) (aCons (eC (.int 3)) aNil)))) (t := .nm 6) (body := LC1) (z := 1 + v) (o := .val (.sh (.int (1 + v)))) (env := [s, c, .ol [.int r, .int s0, .int q], a3, .ol (enc ws), a5, a6, a7, a8, a9, b0]) (env1 := [s, c, w1, a3, .ol (enc ws), a5, a6, a7, a8, a9, b0]) (by simp [e1]) rfl (by omega) (by omega)
  exact z.trans e2
end
/-! what the law asks of a line -/
def pl (V : List Str) : Int := match readF V with
  | .ok _ _ => -1
  | .bad r => (V.length : Int) - r.length
structure Ask (x : Str) (V : List Str) : Prop where
  sp : pSplit [.str x, .str " "] = some (.ol (enc V))
  lp : m__law_place [.ol (enc V)] = .ok (.sh (.int (pl V))) []
  rd : (∃ f, pl V = -1 ∧ m__law_read [.sh (.str x)] = .ok (.sh (.tup [dD f, .int (-1), .bl true])) [] ∧ m__law_is_query 24 [.sh (dD f)] = .ok (.sh (.bl true)) [] ∧ m__law_words 24 [.sh (dD f)] = .ok (.ol (enc V)) [] ∧ pJoin [.str " ", .lst (enc V)] = some (.sh (.str x))) ∨
    (¬ pl V = -1 ∧ m__law_read [.sh (.str x)] = .ok (.sh (.tup [.non, .int (pl V), .bl true])) [])
  rp : ∃ s, pRepr [.int (pl V)] = some (.sh (.str s))
theorem bad_le {V r : List Str} (h : readF V = .bad r) : r.length ≤ V.length := by
  have hh := run_readF V
  rw [h] at hh
  have suf : ∀ (s : List Kd) (ws : List Str), runK s ws = some r → r.length ≤ ws.length := by
    intro s ws
    induction ws generalizing s with
    | nil =>
      intro z
      cases s with
      | nil => cases z
      | cons a s =>
        rw [runK] at z
        cases z
        exact Nat.le_refl _
    | cons w ws ih =>
      intro z
      cases s with
      | nil =>
        rw [runK] at z
        cases z
        exact Nat.le_refl _
      | cons a s =>
        rw [runK] at z
        cases e : stepK a w with
        | none =>
          rw [e] at z
          cases z
          exact Nat.le_refl _
        | some new =>
          rw [e] at z
          have := ih _ z
          simp only [List.length_cons]
          omega
  exact suf _ _ hh
theorem ask {x : Str} (hx : x.length ≤ 13900) : Ask x (Txt.split x " ") := by
  obtain ⟨hne, hl⟩ := split_facts x
  have hnum := split_num x
  have hjoin := join_split' x
  have hl2 : ∀ w ∈ Txt.split x " ", w.length ≤ 1000000 := fun w hw => by have := hl w hw; omega
  have er := read_R (x := x) (by omega) rfl hl2
  have lp := law_place hl2 (by omega)
  have sp := splitK (x := x) (by omega)
  generalize hV : Txt.split x " " = V at *
  have lp' : m__law_place [.ol (enc V)] = .ok (.sh (.int (pl V))) [] := lp
  refine ⟨sp, lp', ?_, ?_⟩
  · cases q : readF V with
    | ok f r =>
      left
      rw [q] at er
      have e1 : pl V = -1 := by unfold pl; rw [q]
      have hf : V = wds f ∧ Okf 40 999 20 f := by
        unfold readF at q
        cases q2 : pF 20 V with
        | bad r => rw [q2] at q; cases q
        | ok g r2 =>
          rw [q2] at q
          cases r2 with
          | cons w r2 => cases q
          | nil =>
            cases q
            have := pF_ok q2
            rw [List.append_nil] at this
            exact this
      obtain ⟨h1, h2⟩ := hf
      have wl : (wds f).length ≤ 1000000 := by rw [← h1]; omega
      have lw := lwords_ok (mt := 40) (mg := 999) (by omega) 20 24 f h2 (by omega) wl
      refine ⟨f, e1, read_good er, is_query_ok (mt := 40) (mg := 999) (by omega) (by omega) 20 24 f h2 (by omega), by rw [lw, ← h1]; rfl, ?_⟩
      have hw : ∀ w ∈ V, Wd w := by rw [h1]; exact wds_wd (mt := 40) (mg := 999) (by omega) (by omega) 20 f h2
      have pj := joinK (ws := V) (M := 40) (L := 13901) ⟨by omega, fun w hm => (hw w hm).1.2⟩ (by omega)
      rw [pj, hjoin]
    | bad r =>
      right
      rw [q] at er
      have e1 : pl V = (V.length : Int) - r.length := by unfold pl; rw [q]
      have hr := bad_le q
      have := read_bad er
      rw [e1]
      exact ⟨by omega, this⟩
  · refine rep_int ?_
    unfold pl
    cases q : readF V with
    | ok f r => simp
    | bad r =>
      have hr := bad_le q
      simp only
      omega
noncomputable abbrev LB : SM := sSeq (sSet 2 (eCall m__law_hand (aCons (eV 1) aNil)))
  (sSeq (sSet 3 (eCallI (m__law_query 24) [true, true, true] (aCons (eV 2) (aCons (eLst aNil) (aCons (eLst (aCons (eC (.int 12)) (aCons (eC (.int 8)) aNil))) (aCons (eC (.int 5)) aNil))))))
  (sSeq (sSet 4 (eCall (m__law_words 24) (aCons (eV 3) aNil)))
  (sSeq (sSet 5 (eMt isStr pJoin (eC (.str " ")) (aCons (eV 4) aNil)))
  (sSeq B_law_1
  (sSeq (sSet 7 (eMt isStr pJoin (eC (.str " ")) (aCons (eV 4) aNil)))
  (sSeq (sUnp [8, 9, 10] (eCall m__law_read (aCons (eV 7) aNil)))
  (sSeq (sIf (bOr (bNot (bE (eV 10))) (bE (eP2 pNe (ePrim pRepr (aCons (eV 9) aNil)) (ePrim pRepr (aCons (eCall m__law_place (aCons (eMt isStr pSplit (eV 7) (aCons (eC (.str " ")) aNil)) aNil)) aNil)))))
  (sRet (eC (.bl false)))
  sNx)
  (sSeq (sIf (bAnd (bE (eP2 pEq (eV 9) (eP1 pNeg (eC (.int 1))))) (bOr (bNot (bE (eCall (m__law_is_query 24) (aCons (eV 8) aNil)))) (bE (eP2 pNe (eMt isStr pJoin (eC (.str " ")) (aCons (eCall (m__law_words 24) (aCons (eV 8) aNil)) aNil)) (eV 7)))))
  (sRet (eC (.bl false)))
  sNx)
  (sIf (bE (eP2 pNe (ePrim pRepr (aCons (eCall m__law_read (aCons (eV 5) aNil)) aNil)) (ePrim pRepr (aCons (eTup (aCons (eV 3) (aCons (eP1 pNeg (eC (.int 1))) (aCons (eC (.bl true)) aNil)))) aNil))))
  (sRet (eC (.bl false)))
  sNx)))))))))
theorem q5 : qn 5 < 2 ^ 35 := by decide +kernel
def line (f : Fl) : Str := Txt.join " " (wds f)
structure Fx (f : Fl) : Prop where
  lw : m__law_words 24 [.sh (dD f)] = .ok (.ol (enc (wds f))) []
  pj : pJoin [.str " ", .lst (enc (wds f))] = some (.sh (.str (line f)))
  rd : m__law_read [.sh (.str (line f))] = .ok (.sh (.tup [dD f, .int (-1), .bl true])) []
  rp : ∃ s, pRepr [.tup [dD f, .int (-1), .bl true]] = some (.sh (.str s))
theorem fx {f : Fl} (h : Gf f) : Fx f := by
  obtain ⟨hk, h1, h2⟩ := h
  have hw : ∀ w ∈ wds f, Wd w := wds_wd (mt := 12) (mg := 100) (by omega) (by omega) 5 f hk
  obtain ⟨l1, l2⟩ := wds_len f
  have hne : wds f ≠ [] := fun z => by rw [z] at l1; simp at l1
  have hs := sum_wd hw
  have pj : pJoin [.str " ", .lst ((wds f).map .str)] = some (.sh (.str (line f))) := pJoin_ws (by omega)
  have hl : (line f).length ≤ 41 * (wds f).length := join_len hw
  have sp : Txt.split (line f) " " = wds f := split_join hne fun w hm => (hw w hm).1.1
  have i := init_s (x := line f) (by rw [sizeLine_eq]; omega) sp
  have t := take_ok (mt := 12) (mg := 100) (by omega) (by omega) 5 24 f 1 0 ((wds f).map .str) [] hk (by omega) (by omega) (by simp)
  have d := ended_s (ws := (wds f).map .str) (p := (wds f).length) (d := dD f) (by simp)
  simp only [Nat.zero_add] at t
  have e0 : ((0 : Nat) : Int) = 0 := rfl
  rw [e0] at t
  have rr : m_read_filter [.sh (.str (line f))] = .ok (.sh (dD f)) [] := by simp [m_read_filter, fnM_ap, List.replicate, i, t, d]
  refine ⟨lwords_ok (by omega) 5 24 f hk (by omega) (by omega), pj, read_good rr, ?_⟩
  have rf := fl_rp (mt := 12) (mg := 100) 5 f hk
  have ri : Rp (.int (-1)) 10 2 := ⟨.int (-1), by rw [toP], by decide +kernel, by decide +kernel, by decide +kernel, by decide +kernel⟩
  have rb : Rp (.bl true) 10 1 := rp_bl (Nat.le_refl _)
  exact rp_ok (Rps.tup (Rps.cons rf (Rps.cons ri (Rps.cons rb (Rps.nil (wt := 0)) (Nat.le_refl _)) (Nat.le_refl _)) (Nat.le_refl _))) (by omega) (by omega)
theorem sq {x y : SM} {e e1 : En} {r : Out Mi.Fl} (h : x e = .ok .nx e1) (h2 : y e1 = r) : sSeq x y e = r := by
  rw [sSeq_ap, h]
  exact h2
section
variable {s c a2 a3 a4 a5 a6 a7 a8 a9 b0 : W}
theorem st1 {x : Int} {w : W} (h : m__law_hand [.sh (.int x)] = .ok w []) (hw : Hd 0 w) : sSet 2 (eCall m__law_hand (aCons (eV 1) aNil)) [s, .sh (.int x), a2, a3, a4, a5, a6, a7, a8, a9, b0] = .ok .nx [s, .sh (.int x), w, a3, a4, a5, a6, a7, a8, a9, b0] := by
  obtain ⟨y0, y1, y2, rfl, _⟩ := hw
  simp [h]
theorem st2 {w w1 q1 q2 : W} {d : D} (hw : Hd 0 w) (h : m__law_query 24 [w, .ol [], .ol [.int 12, .int 8], .sh (.int 5)] = .ok (.sh d) [w1, q1, q2]) : sSet 3 (eCallI (m__law_query 24) [true, true, true] (aCons (eV 2) (aCons (eLst aNil) (aCons (eLst (aCons (eC (.int 12)) (aCons (eC (.int 8)) aNil))) (aCons (eC (.int 5)) aNil))))) [s, c, w, a3, a4, a5, a6, a7, a8, a9, b0] = .ok .nx [s, c, w1, .sh d, a4, a5, a6, a7, a8, a9, b0] := by
  obtain ⟨y0, y1, y2, rfl, _⟩ := hw
  simp [h]
theorem st3 {d : D} {ds : List D} (h : m__law_words 24 [.sh d] = .ok (.ol ds) []) : sSet 4 (eCall (m__law_words 24) (aCons (eV 3) aNil)) [s, c, a2, .sh d, a4, a5, a6, a7, a8, a9, b0] = .ok .nx [s, c, a2, .sh d, .ol ds, a5, a6, a7, a8, a9, b0] := by
  simp [h]
theorem st4 {x : Str} {ds : List D} (h : pJoin [.str " ", .lst ds] = some (.sh (.str x))) : sSet 5 (eMt isStr pJoin (eC (.str " ")) (aCons (eV 4) aNil)) [s, c, a2, a3, .ol ds, a5, a6, a7, a8, a9, b0] = .ok .nx [s, c, a2, a3, .ol ds, .sh (.str x), a6, a7, a8, a9, b0] := by
  simp [h]
theorem st6 {x : Str} {ds : List D} (h : pJoin [.str " ", .lst ds] = some (.sh (.str x))) : sSet 7 (eMt isStr pJoin (eC (.str " ")) (aCons (eV 4) aNil)) [s, c, a2, a3, .ol ds, a5, a6, a7, a8, a9, b0] = .ok .nx [s, c, a2, a3, .ol ds, a5, a6, .sh (.str x), a8, a9, b0] := by
  simp [h]
theorem st7 {x : Str} {d1 d2 d3 : D} (h : m__law_read [.sh (.str x)] = .ok (.sh (.tup [d1, d2, d3])) []) : sUnp [8, 9, 10] (eCall m__law_read (aCons (eV 7) aNil)) [s, c, a2, a3, a4, a5, a6, .sh (.str x), a8, a9, b0] = .ok .nx [s, c, a2, a3, a4, a5, a6, .sh (.str x), .sh d1, .sh d2, .sh d3] := by
  simp [h]
theorem st8a {F : FM} {x : Str} {ev : List D} {z : Int} (sp : pSplit [.str x, .str " "] = some (.ol ev)) (lp : F [.ol ev] = .ok (.sh (.int z)) []) : eCall F (aCons (eMt isStr pSplit (eV 7) (aCons (eC (.str " ")) aNil)) aNil) [s, c, a2, a3, a4, a5, a6, .sh (.str x), a8, .sh (.int z), .sh (.bl true)] = .ok (.val (.sh (.int z))) [s, c, a2, a3, a4, a5, a6, .sh (.str x), a8, .sh (.int z), .sh (.bl true)] := by
  simp [sp, lp]
theorem st8b {x t : Str} {z : Int} {m : EM} (h : m [s, c, a2, a3, a4, a5, a6, .sh (.str x), a8, .sh (.int z), .sh (.bl true)] = .ok (.val (.sh (.int z))) [s, c, a2, a3, a4, a5, a6, .sh (.str x), a8, .sh (.int z), .sh (.bl true)]) (rp : pRepr [.int z] = some (.sh (.str t))) : ePrim pRepr (aCons m aNil) [s, c, a2, a3, a4, a5, a6, .sh (.str x), a8, .sh (.int z), .sh (.bl true)] = .ok (.val (.sh (.str t))) [s, c, a2, a3, a4, a5, a6, .sh (.str x), a8, .sh (.int z), .sh (.bl true)] := by
  simp [h, rp]
theorem st8e {x t : Str} {z : Int} (rp : pRepr [.int z] = some (.sh (.str t))) : ePrim pRepr (aCons (eV 9) aNil) [s, c, a2, a3, a4, a5, a6, .sh (.str x), a8, .sh (.int z), .sh (.bl true)] = .ok (.val (.sh (.str t))) [s, c, a2, a3, a4, a5, a6, .sh (.str x), a8, .sh (.int z), .sh (.bl true)] := by
  simp [rp]
theorem st8c {x t : Str} {z : Int} {m1 m2 : EM} (h1 : m1 [s, c, a2, a3, a4, a5, a6, .sh (.str x), a8, .sh (.int z), .sh (.bl true)] = .ok (.val (.sh (.str t))) [s, c, a2, a3, a4, a5, a6, .sh (.str x), a8, .sh (.int z), .sh (.bl true)]) (h2 : m2 [s, c, a2, a3, a4, a5, a6, .sh (.str x), a8, .sh (.int z), .sh (.bl true)] = .ok (.val (.sh (.str t))) [s, c, a2, a3, a4, a5, a6, .sh (.str x), a8, .sh (.int z), .sh (.bl true)]) : bE (eP2 pNe m1 m2) [s, c, a2, a3, a4, a5, a6, .sh (.str x), a8, .sh (.int z), .sh (.bl true)] = .ok false [s, c, a2, a3, a4, a5, a6, .sh (.str x), a8, .sh (.int z), .sh (.bl true)] := by
  simp [h1, h2]
theorem st8d {x : Str} {z : Int} {m1 : BM} (h1 : m1 [s, c, a2, a3, a4, a5, a6, .sh (.str x), a8, .sh (.int z), .sh (.bl true)] = .ok false [s, c, a2, a3, a4, a5, a6, .sh (.str x), a8, .sh (.int z), .sh (.bl true)]) : sIf (bOr (bNot (bE (eV 10))) m1) (sRet (eC (.bl false))) sNx [s, c, a2, a3, a4, a5, a6, .sh (.str x), a8, .sh (.int z), .sh (.bl true)] = .ok .nx [s, c, a2, a3, a4, a5, a6, .sh (.str x), a8, .sh (.int z), .sh (.bl true)] := by
  simp [h1]
theorem st8 {x t : Str} {z : Int} {ev : List D} (sp : pSplit [.str x, .str " "] = some (.ol ev)) (lp : m__law_place [.ol ev] = .ok (.sh (.int z)) []) (rp : pRepr [.int z] = some (.sh (.str t))) :
    sIf (bOr (bNot (bE (eV 10))) (bE (eP2 pNe (ePrim pRepr (aCons (eV 9) aNil)) (ePrim pRepr (aCons (eCall m__law_place (aCons (eMt isStr pSplit (eV 7) (aCons (eC (.str " ")) aNil)) aNil)) aNil)))))
  (sRet (eC (.bl false)))
  sNx [s, c, a2, a3, a4, a5, a6, .sh (.str x), a8, .sh (.int z), .sh (.bl true)] = .ok .nx [s, c, a2, a3, a4, a5, a6, .sh (.str x), a8, .sh (.int z), .sh (.bl true)] := st8d (st8c (st8e rp) (st8b (st8a sp lp) rp))
noncomputable abbrev s9 : SM := sIf (bAnd (bE (eP2 pEq (eV 9) (eP1 pNeg (eC (.int 1))))) (bOr (bNot (bE (eCall (m__law_is_query 24) (aCons (eV 8) aNil)))) (bE (eP2 pNe (eMt isStr pJoin (eC (.str " ")) (aCons (eCall (m__law_words 24) (aCons (eV 8) aNil)) aNil)) (eV 7)))))
  (sRet (eC (.bl false)))
  sNx
theorem st9a {x : Str} {d : D} {ev : List D} (iq : m__law_is_query 24 [.sh d] = .ok (.sh (.bl true)) []) (lw : m__law_words 24 [.sh d] = .ok (.ol ev) []) (pj : pJoin [.str " ", .lst ev] = some (.sh (.str x))) :
    s9 [s, c, a2, a3, a4, a5, a6, .sh (.str x), .sh d, .sh (.int (-1)), b0] = .ok .nx [s, c, a2, a3, a4, a5, a6, .sh (.str x), .sh d, .sh (.int (-1)), b0] := by
  simp [s9, iq, lw, pj]
theorem st9b {z : Int} (hz : ¬ z = -1) : s9 [s, c, a2, a3, a4, a5, a6, a7, a8, .sh (.int z), b0] = .ok .nx [s, c, a2, a3, a4, a5, a6, a7, a8, .sh (.int z), b0] := by
  simp [s9, hz]
theorem st10 {x t : Str} {d : D} (h : m__law_read [.sh (.str x)] = .ok (.sh (.tup [d, .int (-1), .bl true])) []) (hr : pRepr [.tup [d, .int (-1), .bl true]] = some (.sh (.str t))) :
    sIf (bE (eP2 pNe (ePrim pRepr (aCons (eCall m__law_read (aCons (eV 5) aNil)) aNil)) (ePrim pRepr (aCons (eTup (aCons (eV 3) (aCons (eP1 pNeg (eC (.int 1))) (aCons (eC (.bl true)) aNil)))) aNil))))
  (sRet (eC (.bl false)))
  sNx [s, c, a2, .sh d, a4, .sh (.str x), a6, a7, a8, a9, b0] = .ok .nx [s, c, a2, .sh d, a4, .sh (.str x), a6, a7, a8, a9, b0] := by
  simp [h, hr]
theorem LB_s {x : Int} : ∃ (p2 p3 p4 p5 p6 p7 p8 p9 q0 : W), LB [s, .sh (.int x), a2, a3, a4, a5, a6, a7, a8, a9, b0] = .ok .nx [s, .sh (.int x), p2, p3, p4, p5, p6, p7, p8, p9, q0] := by
  obtain ⟨w, e0, hw⟩ := hand x
  have q5' := q5
  obtain ⟨f, w1, ts', r0', r1', e1, hd1, _, _, hk, a0, a1, c0, c1⟩ := query_ok 5 24 (by omega) (by omega) 0 w [] 12 8 hw (by omega) (fun t ht => by cases ht) (by simp) (by omega) (by omega) (by omega)
  have hg : Gf f := ⟨hk, by omega, by omega⟩
  obtain ⟨f1, f2, f3, ⟨t1, f4⟩⟩ := fx hg
  have e2 : m__law_query 24 [w, .ol [], .ol [.int 12, .int 8], .sh (.int 5)] = .ok (.sh (dD f)) [w1, .ol (encT ts'), rm r0' r1'] := e1
  obtain ⟨ws', w', a6', e3, hw3⟩ := law1 (s := s) (c := .sh (.int x)) (a3 := .sh (dD f)) (a5 := .sh (.str (line f))) (a6 := a6) (a7 := a7) (a8 := a8) (a9 := a9) (b0 := b0) hd1 (by omega) (wds_Wb hg)
  have pj := joinK hw3 (by omega)
  have jl := joinK_le hw3
  generalize Txt.join (" " : Str) ws' = y at pj jl
  obtain ⟨sp, lp, rd, ⟨t2, rp⟩⟩ := ask (x := y) (by omega)
  rcases rd with ⟨g, hz, rd, iq, lw, pj2⟩ | ⟨hz, rd⟩
  · rw [hz] at lp rp
    exact ⟨_, _, _, _, _, _, _, _, _, sq (st1 e0 hw) (sq (st2 hw e2) (sq (st3 f1) (sq (st4 f2) (sq e3 (sq (st6 pj) (sq (st7 rd) (sq (st8 sp lp rp) (sq (st9a iq lw pj2) (st10 f3 f4)))))))))⟩
  · exact ⟨_, _, _, _, _, _, _, _, _, sq (st1 e0 hw) (sq (st2 hw e2) (sq (st3 f1) (sq (st4 f2) (sq e3 (sq (st6 pj) (sq (st7 rd) (sq (st8 sp lp rp) (sq (st9b hz) (st10 f3 f4)))))))))⟩
end
theorem loop {s : W} : ∀ (xs : List Int) (a1 a2 a3 a4 a5 a6 a7 a8 a9 b0 : W), ∃ (p1 p2 p3 p4 p5 p6 p7 p8 p9 q0 : W), forT (.nm 1) LB (xs.map .int) [s, a1, a2, a3, a4, a5, a6, a7, a8, a9, b0] = .ok .nx [s, p1, p2, p3, p4, p5, p6, p7, p8, p9, q0]
  | [], a1, a2, a3, a4, a5, a6, a7, a8, a9, b0 => ⟨_, _, _, _, _, _, _, _, _, _, rfl⟩
  | x :: xs, a1, a2, a3, a4, a5, a6, a7, a8, a9, b0 => by
    obtain ⟨p2, p3, p4, p5, p6, p7, p8, p9, q0, e1⟩ := LB_s (s := s) (x := x) (a2 := a2) (a3 := a3) (a4 := a4) (a5 := a5) (a6 := a6) (a7 := a7) (a8 := a8) (a9 := a9) (b0 := b0)
    obtain ⟨r1, r2, r3, r4, r5, r6, r7, r8, r9, s0, e2⟩ := loop xs (.sh (.int x)) p2 p3 p4 p5 p6 p7 p8 p9 q0
    refine ⟨r1, r2, r3, r4, r5, r6, r7, r8, r9, s0, ?_⟩
    rw [List.map_cons, forT, asg_nm]
    show (LB [s, .sh (.int x), a2, a3, a4, a5, a6, a7, a8, a9, b0]).bind _ = _
    rw [e1, bind_ok]
    exact e2
theorem law_true (ns : List Int) (hn : ns.length ≤ 63) : m_law [.sh (.lst (ns.map .int))] = .ok (.sh (.bl true)) [] := by
  obtain ⟨p1, p2, p3, p4, p5, p6, p7, p8, p9, q0, e1⟩ := loop (s := .sh (.lst (ns.map .int))) (102 :: ns) .gone .gone .gone .gone .gone .gone .gone .gone .gone .gone
  have pa : pAdd (.lst [.int 102]) (.lst (ns.map .int)) = some (.ol ((102 :: ns).map .int)) := by
    show (if _ then _ else _) = _
    rw [if_pos (by simp; rw [sizeLine_eq]; omega)]
    rfl
  have E1 : B_law_2 [.sh (.lst (ns.map .int)), .gone, .gone, .gone, .gone, .gone, .gone, .gone, .gone, .gone, .gone] = .ok .nx [.sh (.lst (ns.map .int)), p1, p2, p3, p4, p5, p6, p7, p8, p9, q0] := by
    unfold B_law_2
    rw [sFor_T]
    simp [pa, seqD, -List.map_cons]
    exact e1
  simp [m_law, fnM_ap, List.replicate, E1]
end Gk62
theorem PySem.Challenge.cw_pageskips_k62_whole_words_that_cannot_st_holds : PySem.Challenge.rw_pageskips_k62_whole_words_that_cannot_st.Holds := by
  exact PySem.Challenge.cw_pageskips_k62_whole_words_that_cannot_st_of fun ns hn _ => Gk62.law_true ns hn
