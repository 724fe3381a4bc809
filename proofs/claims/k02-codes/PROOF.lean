import PyProof.Rows.All
import Wide.All
import OpenK.AllK
import Wide.FinOn
import HandS.ForMost
import HandS.ForExc
import HandS.Wide
import HandS.Walk
import HandS.StrMore
import HandS.Replace
import HandS.IsInst
import KE.GoesEnum
import KE.GoesMore
import HandS.Comp
import HandS.Style
import KE.KExcSuper
import HandS.ExcInit
import HandS.NestedK
import HandS.ExcField
import HandS.TryOnly
import HandS.WordsExc
import PySem.Challenge.RW_bestcodes_k02_codes
set_option Elab.async false
set_option linter.all false
set_option maxRecDepth 100000
set_option maxHeartbeats 4000000
/-! Part A. Pure data D, how it lies in the abstract heap (Rep), data that one name still owns and may change (O, Own), what a step of the program keeps (Stp), the slots of a def (Abs). -/
namespace Bc
open PySem PySem.Spec L2

/-- a key of a dict: a number, a text, a tuple of such -/
inductive DK where
  | i (n : Int)
  | s (w : List Nat)
  | t (ks : List (Sum Int (List Nat)))
  deriving DecidableEq
/-- pure data -/
inductive D where
  | non
  | bl (b : Bool)
  | int (i : Int)
  | str (s : List Nat)
  | lst (xs : List D)
  | tup (xs : List D)
  | dct (tk : Bool) (ks : List DK) (vs : List D)
  | obj (c : Nat) (fs : List D)
  | pen
  | scr (ns : List Int)
/-- data that may be owned by a name: frozen, or a list, a dict, an instance that is still written to -/
inductive O where
  | fz (d : D)
  | lst (os : List O)
  | dct (tk : Bool) (ks : List DK) (vs : List D)
  | ins (c : Nat) (fs : List D)
mutual
def O.toD : O → D
  | .fz d => d
  | .lst os => .lst (O.toDs os)
  | .dct tk ks vs => .dct tk ks vs
  | .ins c fs => .obj c fs
def O.toDs : List O → List D
  | [] => []
  | o :: os => O.toD o :: O.toDs os
end
theorem O.toDs_map : ∀ os : List O, O.toDs os = os.map O.toD
  | [] => by simp [O.toDs]
  | o :: os => by simp [O.toDs, O.toDs_map os]

def kAtom : Sum Int (List Nat) → Key
  | .inl n => .inl n
  | .inr w => .inr ⟨w.toArray⟩
theorem kAtom_inj : ∀ {a b : Sum Int (List Nat)}, kAtom a = kAtom b → a = b
  | .inl a, .inl b, h => by
    have q : a = b := Sum.inl.inj h
    rw [q]
  | .inr a, .inr b, h => by
    have q := Sum.inr.inj h
    have q2 : a.toArray = b.toArray := congrArg Str.cps q
    have q3 : a = b := by simpa using congrArg Array.toList q2
    rw [q3]
  | .inl _, .inr _, h => by cases h
  | .inr _, .inl _, h => by cases h
/-- a key that is a number or a text, as the layer's dicts have it -/
def DK.key : DK → Key
  | .i n => .inl n
  | .s w => .inr ⟨w.toArray⟩
  | .t _ => .inl 0
def DK.atom : DK → Bool
  | .t _ => false
  | _ => true
/-- a key that is a tuple -/
def DK.keyT : DK → List Key
  | .t ks => ks.map kAtom
  | _ => []
theorem DK.key_inj : ∀ {a b : DK}, a.atom = true → b.atom = true → a.key = b.key → a = b
  | .i a, .i b, _, _, h => by rw [Sum.inl.inj (show (Sum.inl a : Key) = Sum.inl b from h)]
  | .s a, .s b, _, _, h => by
    have q := kAtom_inj (a := .inr a) (b := .inr b) h
    rw [Sum.inr.inj q]
  | .i _, .s _, _, _, h => by cases h
  | .s _, .i _, _, _, h => by cases h
  | .t _, _, h, _, _ => by cases h
  | .i _, .t _, _, h, _ => by cases h
  | .s _, .t _, _, h, _ => by cases h
theorem map_inj {α β : Type} {f : α → β} (hf : ∀ a b, f a = f b → a = b) : ∀ {l m : List α}, l.map f = m.map f → l = m
  | [], [], _ => rfl
  | [], _ :: _, h => by cases h
  | _ :: _, [], h => by cases h
  | a :: l, b :: m, h => by
    rw [List.map_cons, List.map_cons, List.cons.injEq] at h
    rw [hf a b h.1, map_inj hf h.2]
theorem DK.keyT_inj : ∀ {a b : DK}, a.atom = false → b.atom = false → a.keyT = b.keyT → a = b
  | .t a, .t b, _, _, h => by
    have q : a = b := map_inj (fun _ _ e => kAtom_inj e) h
    rw [q]
  | .i _, _, h, _, _ => by cases h
  | .s _, _, h, _, _ => by cases h
  | .t _, .i _, _, h, _ => by cases h
  | .t _, .s _, _, h, _ => by cases h

/-- the program's classes and their fields, by numbers: one list for all laws -/
def fidT : Nat → List Nat
  | 0 => [0, 1, 2]
  | 1 => [0, 1, 3]
  | 2 => [4, 5]
  | 3 => [6, 5]
  | 4 => [7, 8, 9]
  | 5 => [7, 8, 5]
  | 6 => [10, 11]
  | 7 => [12, 13, 14, 15]
  | 8 => [16, 17, 18, 19, 3, 20, 21]
  | 9 => [19, 3, 1, 2]
  | 10 => [22, 23]
  | 11 => [8, 24, 25]
  | 12 => [26]
  | 13 => [27, 28]
  | 14 => [22, 29, 27, 28, 26]
  | _ => []
def fnameT : Nat → Str
  | 0 => "letters" | 1 => "rows" | 2 => "ends" | 3 => "good" | 4 => "most" | 5 => "prices" | 6 => "first" | 7 => "size" | 8 => "head" | 9 => "widths"
  | 10 => "one" | 11 => "other" | 12 => "code" | 13 => "words" | 14 => "factor" | 15 => "more" | 16 => "codes" | 17 => "shape" | 18 => "states" | 19 => "arrows"
  | 20 => "laps" | 21 => "lap_rows" | 22 => "bits" | 23 => "column" | 24 => "ring" | 25 => "tail" | 26 => "parts" | 27 => "pieces" | 28 => "last" | 29 => "per"
  | _ => "?"
/-- the errors' one field -/
def efT : Nat → Option Str
  | 0 => some "state" | 1 => some "place" | 2 => some "line" | 3 => some "what" | 4 => none | 5 => some "guard" | _ => none
def clsNames (c : Nat) : List Str := (fidT c).map fnameT

/-- where things stand: the written part, the pen's dict, the classes, the errors' classes -/
structure GE where
  K : PySem.W.Frag
  pa : Addr
  cls : Nat → Addr
  exc : Nat → Addr
  slf : Addr

mutual
/-- the value v is the frozen data d, as F tells -/
inductive Rep (g : GE) (F : Hp) : D → V → Prop
  | non : Rep g F .non .non
  | bl (b : Bool) : Rep g F (.bl b) (.bl b)
  | int (i : Int) : Rep g F (.int i) (.int i)
  | str (s : List Nat) : Rep g F (.str s) (.str ⟨s.toArray⟩)
  | lst {a : Addr} {vs : List V} {ds : List D} (h : F a = some (.lst vs)) (r : Reps g F ds vs) : Rep g F (.lst ds) (.ref a)
  | tup {a : Addr} {vs : List V} {ds : List D} (h : F a = some (.tup vs)) (r : Reps g F ds vs) : Rep g F (.tup ds) (.ref a)
  | dK {a : Addr} {kvs : List (Key × V)} {ks : List DK} {ds : List D} (h : F a = some (.dK kvs)) (hk : kvs.map Prod.fst = ks.map DK.key) (ha : ks.all DK.atom = true) (r : Reps g F ds (kvs.map Prod.snd)) : Rep g F (.dct false ks ds) (.ref a)
  | dT {a : Addr} {kvs : List (List Key × V)} {ks : List DK} {ds : List D} (h : F a = some (.dT kvs)) (hk : kvs.map Prod.fst = ks.map DK.keyT) (ha : ks.all (fun k => !k.atom) = true) (r : Reps g F ds (kvs.map Prod.snd)) : Rep g F (.dct true ks ds) (.ref a)
  | obj {a dx : Addr} {vs : List V} {c : Nat} {ds : List D} (h : F a = some (.ins (g.cls c) dx ((clsNames c).zip vs))) (r : Reps g F ds vs) : Rep g F (.obj c ds) (.ref a)
  | pen : Rep g F .pen (.ref g.pa)
  | scr {a : Addr} {ns : List Int} (h : SqL g.K F a (ns.map V.int)) : Rep g F (.scr ns) (.ref a)
inductive Reps (g : GE) (F : Hp) : List D → List V → Prop
  | nil : Reps g F [] []
  | cons {d : D} {v : V} {ds : List D} {vs : List V} (h : Rep g F d v) (r : Reps g F ds vs) : Reps g F (d :: ds) (v :: vs)
end
mutual
theorem Rep.mono {g : GE} {F F' : Hp} (e : Same F F') : ∀ {d : D} {v : V}, Rep g F d v → Rep g F' d v
  | _, _, .non => .non
  | _, _, .bl b => .bl b
  | _, _, .int i => .int i
  | _, _, .str s => .str s
  | _, _, .lst h r => .lst (e _ _ h) (r.mono e)
  | _, _, .tup h r => .tup (e _ _ h) (r.mono e)
  | _, _, .dK h hk ha r => .dK (e _ _ h) hk ha (r.mono e)
  | _, _, .dT h hk ha r => .dT (e _ _ h) hk ha (r.mono e)
  | _, _, .obj h r => .obj (e _ _ h) (r.mono e)
  | _, _, .pen => .pen
  | _, _, .scr h => .scr (e.seq h)
theorem Reps.mono {g : GE} {F F' : Hp} (e : Same F F') : ∀ {ds : List D} {vs : List V}, Reps g F ds vs → Reps g F' ds vs
  | _, _, .nil => .nil
  | _, _, .cons h r => .cons (h.mono e) (r.mono e)
end
theorem Reps.length {g : GE} {F : Hp} : ∀ {ds : List D} {vs : List V}, Reps g F ds vs → ds.length = vs.length
  | _, _, .nil => rfl
  | _, _, .cons _ r => by rw [List.length_cons, List.length_cons, r.length]
theorem Reps.get {g : GE} {F : Hp} : ∀ {ds : List D} {vs : List V} {i : Nat} {d : D}, Reps g F ds vs → ds[i]? = some d → ∃ v, vs[i]? = some v ∧ Rep g F d v
  | _, _, i, _, .nil, e => by simp at e
  | _, _, 0, _, .cons h _, e => by
    simp at e
    subst e
    exact ⟨_, rfl, h⟩
  | _, _, i + 1, _, .cons _ r, e => by
    obtain ⟨v, h1, h2⟩ := r.get (i := i) (by simpa using e)
    exact ⟨v, by simpa using h1, h2⟩
theorem Reps.get' {g : GE} {F : Hp} : ∀ {ds : List D} {vs : List V} {i : Nat} {v : V}, Reps g F ds vs → vs[i]? = some v → ∃ d, ds[i]? = some d ∧ Rep g F d v
  | _, _, i, _, .nil, e => by simp at e
  | _, _, 0, _, .cons h _, e => by
    simp at e
    subst e
    exact ⟨_, rfl, h⟩
  | _, _, i + 1, _, .cons _ r, e => by
    obtain ⟨v, h1, h2⟩ := r.get' (i := i) (by simpa using e)
    exact ⟨v, by simpa using h1, h2⟩
theorem Reps.append {g : GE} {F : Hp} : ∀ {ds es : List D} {vs ws : List V}, Reps g F ds vs → Reps g F es ws → Reps g F (ds ++ es) (vs ++ ws)
  | _, _, _, _, .nil, s => s
  | _, _, _, _, .cons h r, s => .cons h (r.append s)
theorem Reps.take {g : GE} {F : Hp} : ∀ {ds : List D} {vs : List V} (n : Nat), Reps g F ds vs → Reps g F (ds.take n) (vs.take n)
  | _, _, 0, _ => .nil
  | _, _, _ + 1, .nil => .nil
  | _, _, n + 1, .cons h r => .cons h (r.take n)
theorem Reps.drop {g : GE} {F : Hp} : ∀ {ds : List D} {vs : List V} (n : Nat), Reps g F ds vs → Reps g F (ds.drop n) (vs.drop n)
  | _, _, 0, r => r
  | _, _, _ + 1, .nil => .nil
  | _, _, n + 1, .cons _ r => r.drop n
theorem Reps.set {g : GE} {F : Hp} {d : D} {v : V} (q : Rep g F d v) : ∀ {ds : List D} {vs : List V} (n : Nat), Reps g F ds vs → Reps g F (ds.set n d) (vs.set n v)
  | _, _, _, .nil => .nil
  | _, _, 0, .cons _ r => .cons q r
  | _, _, n + 1, .cons h r => .cons h (Reps.set q n r)
theorem Reps.one {g : GE} {F : Hp} {d : D} {v : V} (h : Rep g F d v) : Reps g F [d] [v] := .cons h .nil

/-! ### owned data -/
mutual
/-- v is the data o; fp: the objects that the owner alone holds -/
inductive Own (g : GE) (F H : Hp) : O → V → List Addr → Prop
  | fz {d : D} {v : V} (r : Rep g F d v) : Own g F H (.fz d) v []
  | lst {a : Addr} {vs : List V} {os : List O} {fp : List Addr} (h : H a = some (.lst vs)) (r : Owns g F H os vs fp) : Own g F H (.lst os) (.ref a) (a :: fp)
  | dK {a : Addr} {kvs : List (Key × V)} {ks : List DK} {ds : List D} (h : H a = some (.dK kvs)) (hk : kvs.map Prod.fst = ks.map DK.key) (ha : ks.all DK.atom = true) (r : Reps g F ds (kvs.map Prod.snd)) : Own g F H (.dct false ks ds) (.ref a) [a]
  | dT {a : Addr} {kvs : List (List Key × V)} {ks : List DK} {ds : List D} (h : H a = some (.dT kvs)) (hk : kvs.map Prod.fst = ks.map DK.keyT) (ha : ks.all (fun k => !k.atom) = true) (r : Reps g F ds (kvs.map Prod.snd)) : Own g F H (.dct true ks ds) (.ref a) [a]
  | ins {a dx : Addr} {vs : List V} {c : Nat} {ds : List D} (h : H a = some (.ins (g.cls c) dx ((clsNames c).zip vs))) (hs : a = g.slf) (r : Reps g F ds vs) : Own g F H (.ins c ds) (.ref a) [a]
inductive Owns (g : GE) (F H : Hp) : List O → List V → List Addr → Prop
  | nil : Owns g F H [] [] []
  | cons {o : O} {v : V} {os : List O} {vs : List V} {f1 f2 : List Addr} (h : Own g F H o v f1) (r : Owns g F H os vs f2) : Owns g F H (o :: os) (v :: vs) (f1 ++ f2)
end
mutual
theorem Own.mono {g : GE} {F F' H H' : Hp} (e : Same F F') : ∀ {o : O} {v : V} {fp : List Addr}, Own g F H o v fp → (∀ a ∈ fp, H' a = H a) → Own g F' H' o v fp
  | _, _, _, .fz r, _ => .fz (r.mono e)
  | _, _, _, .lst h r, k => .lst ((k _ (by simp)).trans h) (r.mono e fun a ha => k a (List.mem_cons_of_mem _ ha))
  | _, _, _, .dK h hk ha r, k => .dK ((k _ (by simp)).trans h) hk ha (r.mono e)
  | _, _, _, .dT h hk ha r, k => .dT ((k _ (by simp)).trans h) hk ha (r.mono e)
  | _, _, _, .ins h hs r, k => .ins ((k _ (by simp)).trans h) hs (r.mono e)
theorem Owns.mono {g : GE} {F F' H H' : Hp} (e : Same F F') : ∀ {os : List O} {vs : List V} {fp : List Addr}, Owns g F H os vs fp → (∀ a ∈ fp, H' a = H a) → Owns g F' H' os vs fp
  | _, _, _, .nil, _ => .nil
  | _, _, _, .cons h r, k => .cons (h.mono e fun a ha => k a (List.mem_append_left _ ha)) (r.mono e fun a ha => k a (List.mem_append_right _ ha))
end
mutual
/-- what is owned becomes frozen: its objects go over into F' -/
theorem Own.freeze {g : GE} {F F' H : Hp} (e : Same F F') : ∀ {o : O} {v : V} {fp : List Addr}, Own g F H o v fp → (∀ a ∈ fp, F' a = H a) → Rep g F' o.toD v
  | _, _, _, .fz r, _ => by
    rw [O.toD]
    exact r.mono e
  | _, _, _, .lst h r, k => by
    rw [O.toD]
    exact .lst ((k _ (by simp)).trans h) (r.freeze e fun a ha => k a (List.mem_cons_of_mem _ ha))
  | _, _, _, .dK h hk ha r, k => by
    rw [O.toD]
    exact .dK ((k _ (by simp)).trans h) hk ha (r.mono e)
  | _, _, _, .dT h hk ha r, k => by
    rw [O.toD]
    exact .dT ((k _ (by simp)).trans h) hk ha (r.mono e)
  | _, _, _, .ins h _ r, k => by
    rw [O.toD]
    exact .obj ((k _ (by simp)).trans h) (r.mono e)
theorem Owns.freeze {g : GE} {F F' H : Hp} (e : Same F F') : ∀ {os : List O} {vs : List V} {fp : List Addr}, Owns g F H os vs fp → (∀ a ∈ fp, F' a = H a) → Reps g F' (O.toDs os) vs
  | _, _, _, .nil, _ => by
    rw [O.toDs]
    exact .nil
  | _, _, _, .cons h r, k => by
    rw [O.toDs]
    exact .cons (h.freeze e fun a ha => k a (List.mem_append_left _ ha)) (r.freeze e fun a ha => k a (List.mem_append_right _ ha))
end
mutual
theorem Own.there {g : GE} {F H : Hp} : ∀ {o : O} {v : V} {fp : List Addr}, Own g F H o v fp → ∀ a ∈ fp, ∃ u, H a = some u
  | _, _, _, .fz r => fun a ha => by simp at ha
  | _, _, _, .lst h r => fun a ha => by
    rcases List.mem_cons.mp ha with e | e
    · exact ⟨_, e ▸ h⟩
    · exact r.there a e
  | _, _, _, .dK h hk ha r => fun a hm => by
    have e := List.mem_singleton.mp hm
    exact ⟨_, e ▸ h⟩
  | _, _, _, .dT h hk ha r => fun a hm => by
    have e := List.mem_singleton.mp hm
    exact ⟨_, e ▸ h⟩
  | _, _, _, .ins h _ r => fun a hm => by
    have e := List.mem_singleton.mp hm
    exact ⟨_, e ▸ h⟩
theorem Owns.there {g : GE} {F H : Hp} : ∀ {os : List O} {vs : List V} {fp : List Addr}, Owns g F H os vs fp → ∀ a ∈ fp, ∃ u, H a = some u
  | _, _, _, .nil => fun a ha => by simp at ha
  | _, _, _, .cons h r => fun a ha => by
    rcases List.mem_append.mp ha with e | e
    · exact h.there a e
    · exact r.there a e
end
theorem Owns.length {g : GE} {F H : Hp} : ∀ {os : List O} {vs : List V} {fp : List Addr}, Owns g F H os vs fp → os.length = vs.length
  | _, _, _, .nil => rfl
  | _, _, _, .cons _ r => by rw [List.length_cons, List.length_cons, r.length]
/-- frozen items: nothing is owned below -/
theorem Owns.fzs {g : GE} {F H : Hp} : ∀ {ds : List D} {vs : List V}, Reps g F ds vs → Owns g F H (ds.map O.fz) vs []
  | _, _, .nil => .nil
  | _, _, .cons h r => Owns.cons (.fz h) (Owns.fzs r)
theorem Owns.append {g : GE} {F H : Hp} : ∀ {os ps : List O} {vs ws : List V} {f1 f2 : List Addr}, Owns g F H os vs f1 → Owns g F H ps ws f2 → Owns g F H (os ++ ps) (vs ++ ws) (f1 ++ f2)
  | _, _, _, _, _, _, .nil, s => s
  | _, _, _, _, _, _, .cons h r, s => by
    rw [List.append_assoc]
    exact .cons h (r.append s)
/-- one item of an owned list -/
theorem Owns.get {g : GE} {F H : Hp} : ∀ {os : List O} {vs : List V} {fp : List Addr} {i : Nat} {o : O}, Owns g F H os vs fp → os[i]? = some o → ∃ v f, vs[i]? = some v ∧ Own g F H o v f ∧ ∀ a ∈ f, a ∈ fp
  | _, _, _, i, _, .nil, e => by simp at e
  | _, _, _, 0, _, .cons h _, e => by
    simp at e
    subst e
    exact ⟨_, _, rfl, h, fun a ha => List.mem_append_left _ ha⟩
  | _, _, _, i + 1, _, .cons _ r, e => by
    obtain ⟨v, f, h1, h2, h3⟩ := r.get (i := i) (by simpa using e)
    exact ⟨v, f, by simpa using h1, h2, fun a ha => List.mem_append_right _ (h3 a ha)⟩
/-- all items frozen -/
def O.isFz : O → Option D
  | .fz d => some d
  | _ => none
def allFz : List O → Option (List D)
  | [] => some []
  | o :: os => match o.isFz, allFz os with
    | some d, some ds => some (d :: ds)
    | _, _ => none
theorem allFz_fz : ∀ ds : List D, allFz (ds.map O.fz) = some ds
  | [] => rfl
  | d :: ds => by rw [List.map_cons, allFz, allFz_fz ds]; rfl
theorem Owns.allFz {g : GE} {F H : Hp} : ∀ {os : List O} {vs : List V} {fp : List Addr} {ds : List D}, Owns g F H os vs fp → allFz os = some ds → Reps g F ds vs ∧ fp = []
  | _, _, _, _, .nil, e => by
    cases e
    exact ⟨.nil, rfl⟩
  | _, _, _, _, .cons h r, e => by
    rw [Bc.allFz] at e
    split at e
    · rename_i d ds h1 h2
      cases e
      cases h with
      | fz q =>
        cases h1
        obtain ⟨h3, h4⟩ := r.allFz h2
        exact ⟨.cons q h3, by rw [h4]; rfl⟩
      | lst _ _ => cases h1
      | dK _ _ _ _ => cases h1
      | dT _ _ _ _ => cases h1
      | ins _ _ => cases h1
    · cases e

/-! ### a step -/
structure Pen where
  cells : List Int
  at_ : Nat
  left : Nat
def PenAt (g : GE) (F H : Hp) (pn : Pen) : Prop := F g.pa = none ∧ ∃ ca, H g.pa = some (.dK [(Sum.inr "cells", .ref ca), (Sum.inr "at", .int pn.at_), (Sum.inr "left", .int pn.left)]) ∧ F ca = some (.lst (pn.cells.map V.int))
/-- from (F, H) to (F', H'): frozen things stay, all tracked things but the pen stay, new frozen things are new -/
structure Stp (g : GE) (F H F' H' : Hp) : Prop where
  ff : Same F F'
  fh : Same F' H'
  new : ∀ a u, F' a = some u → (∃ u, F a = some u) ∨ H a = none
  keep : ∀ a u, a ≠ g.pa → H a = some u → H' a = some u
  pk : ∀ l, H g.pa = some (.dK l) → ∃ l', H' g.pa = some (.dK l') ∧ l'.head? = l.head?
theorem Stp.refl {g : GE} {F H : Hp} (e : Same F H) : Stp g F H F H := ⟨Same.refl F, e, fun a u h => .inl ⟨u, h⟩, fun _ _ _ h => h, fun l h => ⟨l, h, rfl⟩⟩
theorem Stp.trans {g : GE} {F H F1 H1 F2 H2 : Hp} (hp : F2 g.pa = none) (a : Stp g F H F1 H1) (b : Stp g F1 H1 F2 H2) : Stp g F H F2 H2 where
  ff := a.ff.trans b.ff
  fh := b.fh
  new := fun x u h => by
    rcases b.new x u h with ⟨w, q⟩ | q
    · exact a.new x w q
    · cases e : H x with
      | none => exact .inr rfl
      | some w =>
        have ne : x ≠ g.pa := fun z => by
          rw [z, hp] at h
          cases h
        rw [a.keep x w ne e] at q
        cases q
  keep := fun x u ne h => b.keep x u ne (a.keep x u ne h)
  pk := fun l h => by
    obtain ⟨l1, h1, e1⟩ := a.pk l h
    obtain ⟨l2, h2, e2⟩ := b.pk l1 h1
    exact ⟨l2, h2, e2.trans e1⟩
/-- what is not in F' although it stands in H: nothing that was not frozen before becomes so -/
theorem Stp.out {g : GE} {F H F' H' : Hp} (s : Stp g F H F' H') {a : Addr} {u : HO} (h : H a = some u) (hf : F a = none) : F' a = none := by
  cases e : F' a with
  | none => rfl
  | some w =>
    rcases s.new a w e with ⟨x, q⟩ | q
    · rw [hf] at q
      cases q
    · rw [h] at q
      cases q
/-- owned, by objects that are new behind (F, H) -/
structure NewOwn (g : GE) (H F' H' : Hp) (o : O) (v : V) (fp : List Addr) : Prop where
  own : Own g F' H' o v fp
  nd : fp.Nodup
  fr : ∀ a ∈ fp, H a = none ∧ F' a = none
theorem NewOwn.fz {g : GE} {H F' H' : Hp} {d : D} {v : V} (r : Rep g F' d v) : NewOwn g H F' H' (.fz d) v [] := ⟨.fz r, .nil, fun a ha => by simp at ha⟩
theorem penNe {g : GE} {F H : Hp} {pn : Pen} (p : PenAt g F H pn) {a : Addr} (h : H a = none) : a ≠ g.pa := fun z => by
  obtain ⟨_, ca, h1, _⟩ := p
  rw [z, h1] at h
  cases h
theorem NewOwn.step {g : GE} {H F1 H1 F2 H2 : Hp} {o : O} {v : V} {fp : List Addr} (n : NewOwn g H F1 H1 o v fp) (s : Stp g F1 H1 F2 H2) (hp : ∀ a ∈ fp, a ≠ g.pa) : NewOwn g H F2 H2 o v fp where
  own := n.own.mono s.ff fun a ha => by
    obtain ⟨u, hu⟩ := n.own.there a ha
    rw [hu]
    exact s.keep a u (hp a ha) hu
  nd := n.nd
  fr := fun a ha => by
    obtain ⟨u, hu⟩ := n.own.there a ha
    exact ⟨(n.fr a ha).1, s.out hu (n.fr a ha).2⟩
/-- F with the objects at fp, as H has them -/
def more (F H : Hp) (fp : List Addr) : Hp := fun a => if a ∈ fp then H a else F a
theorem more_in {F H : Hp} {fp : List Addr} {a : Addr} (h : a ∈ fp) : more F H fp a = H a := if_pos h
theorem more_out {F H : Hp} {fp : List Addr} {a : Addr} (h : a ∉ fp) : more F H fp a = F a := if_neg h
/-- a new owned thing is frozen -/
theorem NewOwn.frz {g : GE} {F H F' H' : Hp} {o : O} {v : V} {fp : List Addr} {pn : Pen} (s : Stp g F H F' H') (p : PenAt g F' H' pn) (n : NewOwn g H F' H' o v fp) (hp : ∀ a ∈ fp, a ≠ g.pa) :
    ∃ F'', Stp g F H F'' H' ∧ PenAt g F'' H' pn ∧ Rep g F'' o.toD v ∧ Same F' F'' := by
  have sm : Same F' (more F' H' fp) := fun a u h => by
    by_cases ha : a ∈ fp
    · rw [(n.fr a ha).2] at h
      cases h
    · rw [more_out ha]
      exact h
  refine ⟨more F' H' fp, ⟨s.ff.trans sm, fun a u h => ?_, fun a u h => ?_, s.keep, s.pk⟩, ⟨?_, ?_⟩, n.own.freeze sm fun a ha => more_in ha, sm⟩
  · by_cases ha : a ∈ fp
    · rw [more_in ha] at h
      exact h
    · rw [more_out ha] at h
      exact s.fh a u h
  · by_cases ha : a ∈ fp
    · exact .inr (n.fr a ha).1
    · rw [more_out ha] at h
      exact s.new a u h
  · rw [more_out fun ha => hp _ ha rfl]
    exact p.1
  · obtain ⟨_, ca, h1, h2⟩ := p
    exact ⟨ca, h1, sm _ _ h2⟩

/-! ### the slots of a def -/
abbrev Sto := List (Option O)
inductive OwnSl (g : GE) (F H : Hp) : Sto → St → List Addr → Prop
  | nil : OwnSl g F H [] [] []
  | no {σ : Sto} {σV : St} {x : Option V} {fp : List Addr} (r : OwnSl g F H σ σV fp) : OwnSl g F H (none :: σ) (x :: σV) fp
  | yes {σ : Sto} {σV : St} {o : O} {v : V} {f fp : List Addr} (h : Own g F H o v f) (r : OwnSl g F H σ σV fp) : OwnSl g F H (some o :: σ) (some v :: σV) (f ++ fp)
theorem OwnSl.mono {g : GE} {F F' H H' : Hp} (e : Same F F') : ∀ {σ : Sto} {σV : St} {fp : List Addr}, OwnSl g F H σ σV fp → (∀ a ∈ fp, H' a = H a) → OwnSl g F' H' σ σV fp
  | _, _, _, .nil, _ => .nil
  | _, _, _, .no r, k => .no (r.mono e k)
  | _, _, _, .yes h r, k => .yes (h.mono e fun a ha => k a (List.mem_append_left _ ha)) (r.mono e fun a ha => k a (List.mem_append_right _ ha))
theorem OwnSl.there {g : GE} {F H : Hp} : ∀ {σ : Sto} {σV : St} {fp : List Addr}, OwnSl g F H σ σV fp → ∀ a ∈ fp, ∃ u, H a = some u
  | _, _, _, .nil => fun a ha => by simp at ha
  | _, _, _, .no r => r.there
  | _, _, _, .yes h r => fun a ha => by
    rcases List.mem_append.mp ha with e | e
    · exact h.there a e
    · exact r.there a e
theorem OwnSl.length {g : GE} {F H : Hp} : ∀ {σ : Sto} {σV : St} {fp : List Addr}, OwnSl g F H σ σV fp → σ.length = σV.length
  | _, _, _, .nil => rfl
  | _, _, _, .no r => by rw [List.length_cons, List.length_cons, r.length]
  | _, _, _, .yes _ r => by rw [List.length_cons, List.length_cons, r.length]
theorem OwnSl.get {g : GE} {F H : Hp} : ∀ {σ : Sto} {σV : St} {fp : List Addr} {i : Nat} {o : O}, OwnSl g F H σ σV fp → σ[i]? = some (some o) → ∃ v f, σV[i]? = some (some v) ∧ Own g F H o v f ∧ ∀ a ∈ f, a ∈ fp
  | _, _, _, i, _, .nil, e => by simp at e
  | _, _, _, 0, _, .no _, e => by simp at e
  | _, _, _, i + 1, _, .no r, e => by
    obtain ⟨v, f, h1, h2, h3⟩ := r.get (i := i) (by simpa using e)
    exact ⟨v, f, by simpa using h1, h2, h3⟩
  | _, _, _, 0, _, .yes h _, e => by
    simp at e
    subst e
    exact ⟨_, _, rfl, h, fun a ha => List.mem_append_left _ ha⟩
  | _, _, _, i + 1, _, .yes _ r, e => by
    obtain ⟨v, f, h1, h2, h3⟩ := r.get (i := i) (by simpa using e)
    exact ⟨v, f, by simpa using h1, h2, fun a ha => List.mem_append_right _ (h3 a ha)⟩
/-- slot i taken out and put anew: what the others own stays -/
theorem OwnSl.put {g : GE} {F H : Hp} {o : O} {v : V} {f : List Addr} (h : Own g F H o v f) (nf : f.Nodup) : ∀ {σ : Sto} {σV : St} {fp : List Addr} {i : Nat}, OwnSl g F H σ σV fp → fp.Nodup → (∀ a ∈ f, a ∉ fp) → i < σ.length →
    ∃ fp', OwnSl g F H (σ.set i (some o)) (σV.set i (some v)) fp' ∧ fp'.Nodup ∧ ∀ a ∈ fp', a ∈ f ∨ a ∈ fp
  | _, _, _, i, .nil, _, _, hi => by simp at hi
  | _, _, fp, 0, .no r, nd, dj, _ => ⟨f ++ fp, .yes h r, List.nodup_append.mpr ⟨nf, nd, fun a ha b hb e => dj a ha (e ▸ hb)⟩, fun a ha => List.mem_append.mp ha⟩
  | _, _, fp, i + 1, .no r, nd, dj, hi => by
    obtain ⟨fp', h1, h2, h3⟩ := OwnSl.put h nf (i := i) r nd dj (by simpa using hi)
    exact ⟨fp', .no h1, h2, h3⟩
  | _, _, _, 0, .yes (f := f0) (fp := fp0) h0 r, nd, dj, _ => by
    have nd' := List.nodup_append.mp nd
    refine ⟨f ++ fp0, .yes h r, List.nodup_append.mpr ⟨nf, nd'.2.1, fun a ha b hb e => dj a ha (List.mem_append_right _ (e ▸ hb))⟩, fun a ha => ?_⟩
    rcases List.mem_append.mp ha with e | e
    · exact .inl e
    · exact .inr (List.mem_append_right _ e)
  | _, _, _, i + 1, .yes (f := f0) (fp := fp0) h0 r, nd, dj, hi => by
    have nd' := List.nodup_append.mp nd
    obtain ⟨fp', h1, h2, h3⟩ := OwnSl.put h nf (i := i) r nd'.2.1 (fun a ha hb => dj a ha (List.mem_append_right _ hb)) (by simpa using hi)
    refine ⟨f0 ++ fp', .yes h0 h1, List.nodup_append.mpr ⟨nd'.1, h2, fun a ha b hb e => ?_⟩, fun a ha => ?_⟩
    · subst e
      rcases h3 a hb with q | q
      · exact dj a q (List.mem_append_left _ ha)
      · exact nd'.2.2 a ha a q rfl
    · rcases List.mem_append.mp ha with e | e
      · exact .inr (List.mem_append_left _ e)
      · rcases h3 a e with q | q
        · exact .inl q
        · exact .inr (List.mem_append_right _ q)
/-- slot i is forgotten -/
theorem OwnSl.drop {g : GE} {F H : Hp} {x : Option V} : ∀ {σ : Sto} {σV : St} {fp : List Addr} {i : Nat}, OwnSl g F H σ σV fp → fp.Nodup →
    ∃ fp', OwnSl g F H (σ.set i none) (σV.set i x) fp' ∧ fp'.Nodup ∧ ∀ a ∈ fp', a ∈ fp
  | _, _, _, i, .nil, _ => ⟨[], .nil, .nil, fun _ h => h⟩
  | _, _, fp, 0, .no r, nd => ⟨fp, .no r, nd, fun _ h => h⟩
  | _, _, fp, i + 1, .no r, nd => by
    obtain ⟨fp', h1, h2, h3⟩ := OwnSl.drop (i := i) r nd
    exact ⟨fp', .no h1, h2, h3⟩
  | _, _, _, 0, .yes (f := f0) (fp := fp0) h0 r, nd => ⟨fp0, .no r, (List.nodup_append.mp nd).2.1, fun a ha => List.mem_append_right _ ha⟩
  | _, _, _, i + 1, .yes (f := f0) (fp := fp0) h0 r, nd => by
    have nd' := List.nodup_append.mp nd
    obtain ⟨fp', h1, h2, h3⟩ := OwnSl.drop (i := i) r nd'.2.1
    refine ⟨f0 ++ fp', .yes h0 h1, List.nodup_append.mpr ⟨nd'.1, h2, fun a ha b hb e => nd'.2.2 a ha b (h3 b hb) e⟩, fun a ha => ?_⟩
    rcases List.mem_append.mp ha with e | e
    · exact List.mem_append_left _ e
    · exact List.mem_append_right _ (h3 a e)

/-- the state of a def whose entry was at (F0, H0) -/
structure Abs (g : GE) (F0 H0 : Hp) (σV : St) (H F : Hp) (σ : Sto) (pn : Pen) : Prop where
  base : Stp g F0 H0 F H
  pen : PenAt g F H pn
  own : ∃ fp, OwnSl g F H σ σV fp ∧ fp.Nodup ∧ ∀ a ∈ fp, a ≠ g.pa ∧ F a = none ∧ H0 a = none
theorem Abs.fh {g : GE} {F0 H0 : Hp} {σV : St} {H F : Hp} {σ : Sto} {pn : Pen} (A : Abs g F0 H0 σV H F σ pn) : Same F H := A.base.fh
theorem Abs.step {g : GE} {F0 H0 : Hp} {σV : St} {H F H' F' : Hp} {σ : Sto} {pn pn' : Pen} (A : Abs g F0 H0 σV H F σ pn) (s : Stp g F H F' H') (p : PenAt g F' H' pn') : Abs g F0 H0 σV H' F' σ pn' where
  base := A.base.trans p.1 s
  pen := p
  own := by
    obtain ⟨fp, h1, h2, h3⟩ := A.own
    refine ⟨fp, h1.mono s.ff fun a ha => ?_, h2, fun a ha => ?_⟩
    · obtain ⟨u, hu⟩ := h1.there a ha
      rw [hu]
      exact s.keep a u (h3 a ha).1 hu
    · obtain ⟨u, hu⟩ := h1.there a ha
      exact ⟨(h3 a ha).1, s.out hu (h3 a ha).2.1, (h3 a ha).2.2⟩
theorem Abs.get {g : GE} {F0 H0 : Hp} {σV : St} {H F : Hp} {σ : Sto} {pn : Pen} (A : Abs g F0 H0 σV H F σ pn) {i : Nat} {o : O} (h : σ[i]? = some (some o)) :
    ∃ v f, σV[i]? = some (some v) ∧ Own g F H o v f ∧ ∀ a ∈ f, a ≠ g.pa := by
  obtain ⟨fp, h1, h2, h3⟩ := A.own
  obtain ⟨v, f, q1, q2, q3⟩ := h1.get h
  exact ⟨v, f, q1, q2, fun a ha => (h3 a (q3 a ha)).1⟩
/-- slot i := a new value -/
theorem Abs.set {g : GE} {F0 H0 : Hp} {σV : St} {H F H' F' : Hp} {σ : Sto} {pn pn' : Pen} {i : Nat} {o : O} {v : V} {f : List Addr} (A : Abs g F0 H0 σV H F σ pn) (s : Stp g F H F' H') (p : PenAt g F' H' pn') (n : NewOwn g H F' H' o v f) (hi : i < σ.length) :
    Abs g F0 H0 (σV.set i (some v)) H' F' (σ.set i (some o)) pn' := by
  have B := A.step s p
  obtain ⟨fp, h1, h2, h3⟩ := B.own
  obtain ⟨fp0, k1, k2, k3⟩ := A.own
  have nin : ∀ a ∈ f, H a = none → F0 a = none ∧ H0 a = none := fun a ha hx => by
    have q2 : H0 a = none := by
      cases e : H0 a with
      | none => rfl
      | some u =>
        have ne : a ≠ g.pa := penNe A.pen (n.fr a ha).1
        rw [A.base.keep a u ne e] at hx
        cases hx
    refine ⟨?_, q2⟩
    cases e : F0 a with
    | none => rfl
    | some u =>
      have := A.fh a u (A.base.ff a u e)
      rw [hx] at this
      cases this
  -- what the other slots own stood in H; f is new
  obtain ⟨fp1, g1, g2, g3⟩ : ∃ fp1, OwnSl g F' H' σ σV fp1 ∧ fp1.Nodup ∧ ∀ a ∈ fp1, a ∈ fp0 := by
    refine ⟨fp0, k1.mono s.ff fun a ha => ?_, k2, fun a ha => ha⟩
    obtain ⟨u, hu⟩ := k1.there a ha
    rw [hu]
    exact s.keep a u (k3 a ha).1 hu
  obtain ⟨fp', h4, h5, h6⟩ := OwnSl.put n.own n.nd g1 g2 (fun a ha hb => by
    obtain ⟨u, hu⟩ := k1.there a (g3 a hb)
    rw [(n.fr a ha).1] at hu
    cases hu) hi
  refine ⟨B.base, p, fp', h4, h5, fun a ha => ?_⟩
  rcases h6 a ha with q | q
  · exact ⟨penNe A.pen (n.fr a q).1, (n.fr a q).2, (nin a q (n.fr a q).1).2⟩
  · have q0 := g3 a q
    obtain ⟨u, hu⟩ := k1.there a q0
    exact ⟨(k3 a q0).1, s.out hu (k3 a q0).2.1, (k3 a q0).2.2⟩
theorem Abs.clear {g : GE} {F0 H0 : Hp} {σV : St} {H F : Hp} {σ : Sto} {pn : Pen} {i : Nat} {x : Option V} (A : Abs g F0 H0 σV H F σ pn) : Abs g F0 H0 (σV.set i x) H F (σ.set i none) pn := by
  obtain ⟨fp, h1, h2, h3⟩ := A.own
  obtain ⟨fp', h4, h5, h6⟩ := h1.drop (i := i) (x := x) h2
  exact ⟨A.base, A.pen, fp', h4, h5, fun a ha => h3 a (h6 a ha)⟩
end Bc
set_option Elab.async false
set_option linter.all false
set_option maxRecDepth 100000
set_option maxHeartbeats 4000000
/-! Part B. The terms (IE, IS) and what they compute (ev, ex): plain functions. -/
namespace Bc
open PySem PySem.Spec L2

/-! ### results -/
structure Exc where
  c : Nat
  f : Option D
/-- none: outside what is served; else a value or an error, and the pen -/
def M (α : Type) := Pen → Option (Except Exc α × Pen)
def M.ret {α : Type} (a : α) : M α := fun p => some (.ok a, p)
def M.bind {α β : Type} (x : M α) (f : α → M β) : M β := fun p => match x p with
  | some (.ok a, p') => f a p'
  | some (.error e, p') => some (.error e, p')
  | none => none
def M.stuck {α : Type} : M α := fun _ => none
def M.exc {α : Type} (e : Exc) : M α := fun p => some (.error e, p)
def M.of {α : Type} : Option α → M α
  | some a => M.ret a
  | none => M.stuck
/-- no error may come -/
def M.safe {α : Type} (x : M α) : M α := fun p => match x p with
  | some (.ok a, p') => some (.ok a, p')
  | _ => none
theorem M.safe_ok {α : Type} {x : M α} {p : Pen} {r : Except Exc α × Pen} (h : M.safe x p = some r) : ∃ a p', r = (.ok a, p') ∧ x p = some (.ok a, p') := by
  unfold M.safe at h
  split at h
  · exact ⟨_, _, (Option.some.inj h).symm, by assumption⟩
  · cases h
instance : Monad M where
  pure := M.ret
  bind := M.bind

theorem M.bind_v {α β : Type} {x : M α} {f : α → M β} {p p' : Pen} {a : α} (h : x p = some (.ok a, p')) : M.bind x f p = f a p' := by
  unfold M.bind
  rw [h]
theorem M.bind_e {α β : Type} {x : M α} {f : α → M β} {p p' : Pen} {e : Exc} (h : x p = some (.error e, p')) : M.bind x f p = some (.error e, p') := by
  unfold M.bind
  rw [h]
theorem M.bind_ok {α β : Type} {x : M α} {f : α → M β} {p : Pen} {r : Except Exc β × Pen} (h : M.bind x f p = some r) :
    (∃ a p', x p = some (.ok a, p') ∧ f a p' = some r) ∨ (∃ e p', x p = some (.error e, p') ∧ r = (.error e, p')) := by
  unfold M.bind at h
  split at h
  · exact .inl ⟨_, _, by assumption, h⟩
  · exact .inr ⟨_, _, by assumption, (Option.some.inj h).symm⟩
  · cases h

/-! ### data as == sees it -/
mutual
def D.pd : D → PyData
  | .non => .none
  | .bl b => .bool b
  | .int i => .int i
  | .str s => .str ⟨s.toArray⟩
  | .lst xs => .list (D.pds xs)
  | .tup xs => .tuple (D.pds xs)
  | .dct _ _ _ => .none
  | .obj _ _ => .none
  | .pen => .none
  | .scr _ => .none
def D.pds : List D → List PyData
  | [] => []
  | x :: xs => D.pd x :: D.pds xs
end
mutual
/-- plain data at most n deep: == tells -/
def cokD : Nat → D → Bool
  | _, .non => true
  | _, .bl _ => true
  | _, .int _ => true
  | _, .str s => s.all fun c => decide (c < 0x110000)
  | n + 1, .lst xs => cokDs n xs
  | n + 1, .tup xs => cokDs n xs
  | _, _ => false
def cokDs : Nat → List D → Bool
  | _, [] => true
  | n, x :: xs => cokD n x && cokDs n xs
end
def eqD (d e : D) : Bool := PyData.eqv d.pd e.pd
def flatD : D → Bool
  | .non => true
  | .bl _ => true
  | .int _ => true
  | .str _ => true
  | _ => false
def inD (x : D) (xs : List D) : Bool := xs.any fun y => eqD y x

/-! ### operators -/
inductive BO where
  | add | sub | mul | fdiv | mod | pow
  deriving DecidableEq
inductive CO where
  | eq | ne | lt | le | gt | ge | isin | notin | isn | notn
  deriving DecidableEq
inductive BF where
  | len | list | tuple | int | sum | max | min | max2 | min2 | all | any | sorted | isbool
  deriving DecidableEq
inductive SM where
  | join | index
  deriving DecidableEq
abbrev lim : Nat := 1000000

def O.lst? : O → Option (List D)
  | .fz (.lst ds) => some ds
  | .lst os => allFz os
  | _ => none
/-- all items frozen -/
def O.tup? : O → Option (List D)
  | .fz (.tup ds) => some ds
  | _ => none
def addO : O → O → Option O
  | .fz (.int i), .fz (.int j) => some (.fz (.int (i + j)))
  | .fz (.str s), .fz (.str t) => if s.length + t.length ≤ lim then some (.fz (.str (s ++ t))) else none
  | x, y => match x.lst?, y.lst? with
    | some xs, some ys => if xs.length + ys.length ≤ lim then some (.lst ((xs ++ ys).map .fz)) else none
    | _, _ => none
def mulOk (i j : Int) : Prop := i.natAbs < 2 ^ 64 ∨ j.natAbs < 2 ^ 64 ∨ (i.natAbs < 2 ^ 4000 ∧ j.natAbs < 2 ^ 4000)
instance (i j : Int) : Decidable (mulOk i j) := by unfold mulOk; infer_instance
def divOk (j : Int) : Prop := 0 < j ∧ j.natAbs < 2 ^ 4000
instance (j : Int) : Decidable (divOk j) := by unfold divOk; infer_instance
def powOk (i j : Int) : Prop := 0 ≤ j ∧ j ≤ 1000000 ∧ i.natAbs < 2 ^ 64
instance (i j : Int) : Decidable (powOk i j) := by unfold powOk; infer_instance
def binI : BO → Int → Int → Option Int
  | .add, i, j => some (i + j)
  | .sub, i, j => some (i - j)
  | .mul, i, j => if mulOk i j then some (i * j) else none
  | .fdiv, i, j => if divOk j then some (i / j) else none
  | .mod, i, j => if 0 < j then some (i % j) else none
  | .pow, i, j => if powOk i j then some (i ^ j.toNat) else none
def asInt? : O → Option Int
  | .fz (.int i) => some i
  | _ => none
def intO (op : BO) (x y : O) : Option O := match asInt? x, asInt? y with
  | some i, some j => (binI op i j).map fun k => .fz (.int k)
  | _, _ => none
def repL {α : Type} (xs : List α) (k : Int) : List α := (List.replicate k.toNat xs).flatten
def mulO : O → O → Option O
  | .fz (.int i), .fz (.int j) => if mulOk i j then some (.fz (.int (i * j))) else none
  | .fz (.str s), .fz (.int k) => if k ≤ lim ∧ 0 ≤ k ∧ s.length * k.toNat ≤ lim then some (.fz (.str (repL s k))) else none
  | x, y => match x.lst?, asInt? y with
    | some xs, some k => if k ≤ lim ∧ 0 ≤ k ∧ xs.length * k.toNat ≤ lim then some (.lst ((repL xs k).map .fz)) else none
    | _, _ => none
def binO (op : BO) (x y : O) : Option O := if op = .add then addO x y else if op = .mul then mulO x y else intO op x y
/-- the key that a value is, if it is one -/
def atomK : D → Option (Sum Int (List Nat))
  | .int i => some (.inl i)
  | .str s => some (.inr s)
  | _ => none
def atomKs : List D → Option (List (Sum Int (List Nat)))
  | [] => some []
  | d :: ds => match atomK d, atomKs ds with
    | some k, some ks => some (k :: ks)
    | _, _ => none
def keyOf : D → Option DK
  | .int i => some (.i i)
  | .str s => some (.s s)
  | .tup ds => (atomKs ds).map .t
  | _ => none
def O.dct? : O → Option (Bool × List DK × List D)
  | .fz (.dct tk ks vs) => some (tk, ks, vs)
  | .dct tk ks vs => some (tk, ks, vs)
  | _ => none
def dlook (ks : List DK) (vs : List D) (k : DK) : Option D := (ks.zip vs).lookup k
/-- the items of a list or a tuple -/
def O.seq? (y : O) : Option (List D) := match y.lst? with
  | some ds => some ds
  | none => y.tup?
def sign? : O → Option Nat
  | .fz (.str [c]) => some c
  | _ => none
def text? : O → Option (List Nat)
  | .fz (.str s) => some s
  | _ => none
def inSeq (d : D) (ds : List D) : Option Bool := if flatD d && ds.all flatD then some (inD d ds) else none
def inDct (d : D) (t : Bool × List DK × List D) : Option Bool := match keyOf d with
  | some k => if k.atom = !t.1 then some (dlook t.2.1 t.2.2 k).isSome else none
  | none => none
def inO (x y : O) : Option Bool := match x.isFz with
  | none => none
  | some d => match y.seq? with
    | some ds => inSeq d ds
    | none => match y.dct? with
      | some t => inDct d t
      | none => match sign? x, text? y with
        | some c, some s => some (decide (c ∈ s))
        | _, _ => none
def ordO (f : Int → Int → Bool) (x y : O) : Option Bool := match asInt? x, asInt? y with
  | some i, some j => some (f i j)
  | _, _ => none
def D.isNon : D → Bool
  | .non => true
  | _ => false
def isnO : O → O → Option Bool
  | .fz d, .fz .non => some d.isNon
  | _, _ => none
def cmpO (op : CO) (x y : O) : Option Bool := match op with
  | .eq => if cokD 60 x.toD && cokD 60 y.toD then some (eqD x.toD y.toD) else none
  | .ne => if cokD 60 x.toD && cokD 60 y.toD then some (!eqD x.toD y.toD) else none
  | .lt => ordO (fun i j => decide (i < j)) x y
  | .le => ordO (fun i j => decide (i ≤ j)) x y
  | .gt => ordO (fun i j => decide (j < i)) x y
  | .ge => ordO (fun i j => decide (j ≤ i)) x y
  | .isin => inO x y
  | .notin => (inO x y).map (!·)
  | .isn => isnO x y
  | .notn => (isnO x y).map (!·)
/-- an item by its place, from the end for places below 0 -/
def subI (x : O) (i : Int) : Option O := match x with
  | .fz (.lst ds) => (atI ds i).map .fz
  | .fz (.tup ds) => (atI ds i).map .fz
  | .fz (.str s) => if s.length ≤ lim then (atI s i).map fun c => .fz (.str [c]) else none
  | .lst os => atI os i
  | _ => none
def subK (t : Bool × List DK × List D) (k : DK) : Option O := if k.atom = !t.1 then (dlook t.2.1 t.2.2 k).map .fz else none
def subO (x y : O) : Option O := match x.dct? with
  | some t => match y.isFz with
    | some d => match keyOf d with
      | some k => subK t k
      | none => none
    | none => none
  | none => match asInt? y with
    | some i => subI x i
    | none => none
def cutL {α : Type} (xs : List α) (lo hi : Option Int) : List α := (xs.drop (HT.sIx xs.length 0 lo)).take (HT.sIx xs.length xs.length hi - HT.sIx xs.length 0 lo)
def sliceO (x : O) (lo hi : Option Int) : Option O := match x with
  | .fz (.str s) => if s.length ≤ lim then some (.fz (.str (cutL s lo hi))) else none
  | x => match x.lst? with
    | some ds => some (.lst ((cutL ds lo hi).map .fz))
    | none => none
def ints? : List D → Option (List Int)
  | [] => some []
  | .int i :: ds => (ints? ds).map (i :: ·)
  | _ => none
def bls? : List D → Option (List Bool)
  | [] => some []
  | .bl b :: ds => (bls? ds).map (b :: ·)
  | _ => none
def strs? : List D → Option (List (List Nat))
  | [] => some []
  | .str s :: ds => (strs? ds).map (s :: ·)
  | _ => none
def insI (x : Int) : List Int → List Int
  | [] => [x]
  | y :: ys => if x ≤ y then x :: y :: ys else y :: insI x ys
def sortI : List Int → List Int
  | [] => []
  | x :: xs => insI x (sortI xs)
/-- order of texts by code points -/
def leS (a b : List Nat) : Bool := !ltCps b a
def insS (x : List Nat) : List (List Nat) → List (List Nat)
  | [] => [x]
  | y :: ys => if leS x y then x :: y :: ys else y :: insS x ys
def sortS : List (List Nat) → List (List Nat)
  | [] => []
  | x :: xs => insS x (sortS xs)
def maxI : Int → List Int → Int
  | m, [] => m
  | m, x :: xs => maxI (if m < x then x else m) xs
def minI : Int → List Int → Int
  | m, [] => m
  | m, x :: xs => minI (if x < m then x else m) xs
def lenO : O → Option Nat
  | .fz (.str s) => if s.length ≤ lim then some s.length else none
  | .fz (.tup ds) => some ds.length
  | .fz (.scr ns) => some ns.length
  | .fz (.lst ds) => some ds.length
  | .lst os => some os.length
  | .fz (.dct false ks _) => some ks.length
  | .dct false ks _ => some ks.length
  | _ => none
def fzI (n : Int) : O := .fz (.int n)
def fzB (b : Bool) : O := .fz (.bl b)
def listO (x : O) : Option O := (x.seq?).map fun ds => .lst (ds.map .fz)
def tupleO (x : O) : Option O := (x.seq?).map fun ds => .fz (.tup ds)
def intB (x : O) : Option O := match x with
  | .fz (.int i) => some (fzI i)
  | .fz (.bl b) => some (fzI (if b then 1 else 0))
  | _ => none
def intsL (x : O) : Option (List Int) := match x.lst? with
  | some ds => ints? ds
  | none => none
def blsL (x : O) : Option (List Bool) := match x.lst? with
  | some ds => bls? ds
  | none => none
def maxO (x : O) : Option O := match intsL x with
  | some (n :: ns) => some (fzI (maxI n ns))
  | _ => none
def minO (x : O) : Option O := match intsL x with
  | some (n :: ns) => some (fzI (minI n ns))
  | _ => none
def sortO (x : O) : Option O := match x.lst? with
  | none => none
  | some ds => if ds.length < 64 then match ints? ds with
      | some ns => some (.lst ((sortI ns).map fun n => .fz (.int n)))
      | none => (strs? ds).map fun ss => .lst ((sortS ss).map fun s => .fz (.str s))
    else none
def isBoolO (x : O) : Option O := match x with
  | .fz (.bl _) => some (fzB true)
  | .fz (.int _) => some (fzB false)
  | .fz (.str _) => some (fzB false)
  | .fz .non => some (fzB false)
  | _ => none
def int2 (f : Int → Int → Int) (x y : O) : Option O := match asInt? x, asInt? y with
  | some i, some j => some (fzI (f i j))
  | _, _ => none
def blt1 (b : BF) (x : O) : Option O := match b with
  | .len => (lenO x).map fun (n : Nat) => fzI (n : Int)
  | .list => listO x
  | .tuple => tupleO x
  | .int => intB x
  | .sum => (intsL x).map fun ns => fzI ns.sum
  | .max => maxO x
  | .min => minO x
  | .all => (blsL x).map fun bs => fzB (bs.all id)
  | .any => (blsL x).map fun bs => fzB (bs.any id)
  | .sorted => sortO x
  | .isbool => isBoolO x
  | .max2 => none
  | .min2 => none
def blt2 (b : BF) (x y : O) : Option O := match b with
  | .max2 => int2 (fun i j => if j > i then j else i) x y
  | .min2 => int2 (fun i j => if j < i then j else i) x y
  | _ => none
def bltO (b : BF) (os : List O) : Option O := match os with
  | [x] => blt1 b x
  | [x, y] => blt2 b x y
  | _ => none
def sumLen (ss : List (List Nat)) : Nat := (ss.map (·.length)).sum
def strs1? (x : O) : Option (List (List Nat)) := match x.seq? with
  | some ds => strs? ds
  | none => none
def smJoin (sep : List Nat) (ss : List (List Nat)) : Option O := if sumLen ss + ss.length * sep.length ≤ lim then some (.fz (.str (TL.joinL sep ss))) else none
def smIndex (s : List Nat) (c : Nat) : Option O := if s.length ≤ lim then (s.idxOf? c).map fun (n : Nat) => .fz (.int (n : Int)) else none
def sm1 (k : SM) (s : List Nat) (y : O) : Option O := match k with
  | .join => match strs1? y with
    | some ss => smJoin s ss
    | none => none
  | .index => match sign? y with
    | some c => smIndex s c
    | none => none
def smO (k : SM) (s : List Nat) (os : List O) : Option O := match os with
  | [y] => sm1 k s y
  | _ => none

/-! ### terms -/
/-- what a for walks -/
inductive IK where
  | seq | range1 | range2 | enum (start : Int) | zip
  deriving DecidableEq
/-- a target: names, or a tuple of such -/
inductive Tg where
  | nm (i : Nat)
  | tp (is : List Nat)
  deriving DecidableEq
inductive IE where
  | var (i : Nat)
  | con (d : D)
  | bin (op : BO) (a b : IE)
  | neg (a : IE)
  | cmp (op : CO) (a b : IE)
  | chain (op1 op2 : CO) (a b c : IE)
  | and_ (a b : IE)
  | or_ (a b : IE)
  | not_ (a : IE)
  | ite (c a b : IE)
  | sub (a b : IE)
  | slice (a : IE) (lo hi : List IE)
  | tup (es : List IE)
  | lst (es : List IE)
  | dnew (tk : Bool)
  | call (f : Nat) (es : List IE)
  | meth (m : Nat) (o : IE) (es : List IE)
  | fld (o : IE) (f : Nat)
  | blt (b : BF) (es : List IE)
  | sm (m : SM) (o : IE) (es : List IE)
  | lc (ik : IK) (ies : List IE) (tg : Tg) (cond : List IE) (elt : IE) (vs : List Nat)
  | pget (o : IE) (f : Nat)
  | oeq (a b : IE)
  | olen (a : IE)
  | isa (a : IE) (c : Nat)
/-- a place: a name, then items -/
structure Pl where
  i : Nat
  ks : List IE
/-- what is reckoned of an error that was caught -/
inductive HE where
  | con (d : D)
  | fld
  | isin (cs : List Nat)
  | feq (s : List Nat)
  | ite (c a b : HE)
  | tup (es : List HE)
inductive HS where
  | ret (e : HE)
  | asg (i : Nat) (e : HE)
inductive IS where
  | asg (i : Nat) (e : IE)
  | asgT (is : List Nat) (e : IE)
  | par (is : List Nat) (es : List IE)
  | aug (i : Nat) (op : BO) (e : IE)
  | app (i : Nat) (e : IE)
  | store (i : Nat) (k : IE) (e : IE)
  | pop (i j : Nat)
  | setf (i f : Nat) (e : IE)
  | ife (c : IE) (a b : List IS)
  | for_ (ik : IK) (ies : List IE) (tg : Tg) (body : List IS)
  | while_ (c : IE) (body : List IS)
  | ret (e : IE)
  | retN
  | raise_ (c : Nat) (es : List IE)
  | expr (e : IE)
  | brk
  | cont
  | pass
  | freeze (i : Nat)
  | stuck
  | pset (i f : Nat) (e : IE)
  | try_ (body : List IS) (c : Nat) (n : Option Nat) (h : HS)
  | appi (i : Nat) (k e : IE)
  | asgL (is : List Nat) (j : Nat) (e : IE)

/-! ### what they compute -/
/-- the defs, by their numbers; the method m of class c -/
structure Sem where
  fn : Nat → List D → M D
  mt : Nat → Nat → Option Nat
  cl : Nat → Bool
/-- the items that a for goes through -/
def seqD : D → Option (List D)
  | .lst ds => some ds
  | .tup ds => some ds
  | .str s => some (s.map fun c => .str [c])
  | _ => none
def intsFrom (lo : Int) : Nat → List D
  | 0 => []
  | n + 1 => .int lo :: intsFrom (lo + 1) n
def enumFrom (k : Int) : List D → List D
  | [] => []
  | d :: ds => .tup [.int k, d] :: enumFrom (k + 1) ds
def zipD (xs ys : List D) : List D := (xs.zip ys).map fun p => .tup [p.1, p.2]
def intD? : D → Option Int
  | .int i => some i
  | _ => none
def inRange (i : Int) : Bool := decide (-(2 ^ 62) ≤ i) && decide (i < 2 ^ 62)
def items1 (ik : IK) (x : D) : Option (List D) := match ik with
  | .seq => seqD x
  | .range1 => match intD? x with
    | some n => if inRange n then some (intsFrom 0 n.toNat) else none
    | none => none
  | .enum k => if inRange k then (seqD x).map (enumFrom k) else none
  | _ => none
def items2 (ik : IK) (x y : D) : Option (List D) := match ik with
  | .range2 => match intD? x, intD? y with
    | some a, some b => if inRange a && inRange b then some (intsFrom a (b - a).toNat) else none
    | _, _ => none
  | .zip => match seqD x, seqD y with
    | some a, some b => some (zipD a b)
    | _, _ => none
  | _ => none
def itemsOf (ik : IK) (ds : List D) : Option (List D) := match ds with
  | [x] => items1 ik x
  | [x, y] => items2 ik x y
  | _ => none
def setAll : List Nat → List D → Sto → Option Sto
  | [], [], σ => some σ
  | i :: is, d :: ds, σ => setAll is ds (σ.set i (some (.fz d)))
  | _, _, _ => none
def bindTg : Tg → D → Sto → Option Sto
  | .nm i, d, σ => some (σ.set i (some (.fz d)))
  | .tp is, .tup ds, σ => setAll is ds σ
  | .tp is, .lst ds, σ => setAll is ds σ
  | _, _, _ => none
def wipeO (σ : Sto) : List Nat → Sto
  | [] => σ
  | v :: vs => (wipeO σ vs).set v none
/-- a comprehension over the items left: f tells whether an item is kept and what it makes -/
def lcRun (f : D → M (Option O)) : List D → M (List O)
  | [] => M.ret []
  | d :: ds => M.bind (f d) fun r => M.bind (lcRun f ds) fun os => M.ret (match r with | some o => o :: os | none => os)
def bl? : O → Option Bool
  | .fz (.bl b) => some b
  | _ => none
def asBl (o : O) : M Bool := M.of (bl? o)
/-- a thing that is only looked at may be owned -/
def view (m : Bool) : O → Option O
  | .fz d => some (.fz d)
  | .lst os => if m then some (.lst os) else none
  | .dct tk ks vs => if m then some (.dct tk ks vs) else none
  | .ins c fs => if m then some (.ins c fs) else none
def slot? : Option (Option O) → Option O
  | some (some o) => some o
  | _ => none
def negO : O → Option O
  | .fz (.int i) => some (.fz (.int (-i)))
  | _ => none
def obj? : O → Option (Nat × List D)
  | .fz (.obj c fs) => some (c, fs)
  | _ => none
def fldO (cl : Nat → Bool) (f : Nat) : O → Option O
  | .fz (.obj c fs) => if cl c = true then (((fidT c).zip fs).lookup f).map .fz else none
  | .ins c fs => if cl c = true then (((fidT c).zip fs).lookup f).map .fz else none
  | _ => none
/-- the pen's cells, its place, what is left -/
def isPen : O → Option Unit
  | .fz .pen => some ()
  | _ => none
def penGet (f : Nat) : M O := fun p => match f with
  | 0 => some (.ok (.fz (.lst (p.cells.map .int))), p)
  | 1 => some (.ok (.fz (.int (p.at_ : Nat))), p)
  | 2 => some (.ok (.fz (.int (p.left : Nat))), p)
  | _ => none
def penSet (f : Nat) (d : D) : M Unit := fun p => match f, d with
  | 1, .int i => if 0 ≤ i then some (.ok (), { p with at_ := i.toNat }) else none
  | 2, .int i => if 0 ≤ i then some (.ok (), { p with left := i.toNat }) else none
  | _, _ => none
/-- what stands to the right of an own == -/
def eqSide (cl : Nat → Bool) : D → Bool
  | .tup _ => true
  | .str _ => true
  | .obj c _ => cl c
  | _ => false
def isBl? : D → Option Bool
  | .bl b => some b
  | _ => none
def isLen? : D → Option Int
  | .int n => if 0 ≤ n ∧ n < 2 ^ 62 then some n else none
  | _ => none
/-- isinstance(d, the class c) -/
def isaD (cl : Nat → Bool) (c : Nat) : D → Option Bool
  | .obj c' _ => if cl c' = true then some (decide (c' = c)) else none
  | .tup _ => some false
  | .lst _ => some false
  | .str _ => some false
  | .int _ => some false
  | .bl _ => some false
  | .non => some false
  | _ => none
/-- the methods __eq__ and __len__ by their numbers -/
def mEq : Nat := 12
def mLen : Nat := 13
def oeqM (S : Sem) (x y : O) : M O := M.bind (M.of (obj? x)) fun q => M.bind (M.of y.isFz) fun d => M.bind (M.of (S.mt q.1 mEq)) fun f =>
  M.bind (M.of (if (S.cl q.1 && eqSide S.cl d) = true then some () else none)) fun _ => M.bind (M.safe (S.fn f [.obj q.1 q.2, d])) fun r => M.bind (M.of (isBl? r)) fun b => M.ret (.fz (.bl b))
def olenM (S : Sem) (x : O) : M O := M.bind (M.of (obj? x)) fun q => M.bind (M.of (S.mt q.1 mLen)) fun f => M.bind (M.safe (S.fn f [.obj q.1 q.2])) fun r => M.bind (M.of (isLen? r)) fun n => M.ret (.fz (.int n))
mutual
/-- the value of a term; m: it is only looked at (then an owned thing may be seen) -/
def ev (S : Sem) (m : Bool) : IE → Sto → M O
  | .var i, σ => M.bind (M.of (slot? σ[i]?)) fun o => M.of (view m o)
  | .con d, _ => M.ret (.fz d)
  | .bin op a b, σ => M.bind (ev S true a σ) fun x => M.bind (ev S true b σ) fun y => M.of (binO op x y)
  | .neg a, σ => M.bind (ev S false a σ) fun x => M.of (negO x)
  | .cmp op a b, σ => M.bind (ev S true a σ) fun x => M.bind (ev S true b σ) fun y => M.of ((cmpO op x y).map fun c => .fz (.bl c))
  | .chain op1 op2 a b c, σ => M.bind (ev S true a σ) fun x => M.bind (ev S true b σ) fun y => M.bind (M.of (cmpO op1 x y)) fun r =>
    if r then M.bind (ev S true c σ) fun z => M.of ((cmpO op2 y z).map fun c => .fz (.bl c)) else M.ret (.fz (.bl false))
  | .and_ a b, σ => M.bind (ev S false a σ) fun x => M.bind (asBl x) fun c => if c then M.bind (ev S false b σ) fun y => M.bind (asBl y) fun e => M.ret (.fz (.bl e)) else M.ret (.fz (.bl false))
  | .or_ a b, σ => M.bind (ev S false a σ) fun x => M.bind (asBl x) fun c => if c then M.ret (.fz (.bl true)) else M.bind (ev S false b σ) fun y => M.bind (asBl y) fun e => M.ret (.fz (.bl e))
  | .not_ a, σ => M.bind (ev S false a σ) fun x => M.bind (asBl x) fun c => M.ret (.fz (.bl !c))
  | .ite c a b, σ => M.bind (ev S false c σ) fun x => M.bind (asBl x) fun t => if t then ev S m a σ else ev S m b σ
  | .sub a b, σ => M.bind (ev S true a σ) fun x => M.bind (ev S false b σ) fun i => M.bind (M.of (subO x i)) fun r => M.of (view m r)
  | .slice a lo hi, σ => M.bind (ev S true a σ) fun x => M.bind (evo S lo σ) fun l => M.bind (evo S hi σ) fun h => M.of (sliceO x l h)
  | .tup es, σ => M.bind (evs S es σ) fun ds => M.of (if ds.length ≤ lim then some (.fz (.tup ds)) else none)
  | .lst es, σ => M.bind (evs S es σ) fun ds => M.of (if ds.length ≤ lim then some (.lst (ds.map .fz)) else none)
  | .dnew tk, _ => M.ret (.dct tk [] [])
  | .call f es, σ => M.bind (evs S es σ) fun ds => M.bind (S.fn f ds) fun d => M.ret (.fz d)
  | .meth mm o es, σ => M.bind (ev S false o σ) fun x => M.bind (M.of (obj? x)) fun q => M.bind (M.of (S.mt q.1 mm)) fun f => M.bind (evs S es σ) fun ds => M.bind (S.fn f (.obj q.1 q.2 :: ds)) fun d => M.ret (.fz d)
  | .fld o f, σ => M.bind (ev S true o σ) fun x => M.of (fldO S.cl f x)
  | .blt b es, σ => M.bind (evv S es σ) fun os => M.of (bltO b os)
  | .sm k o es, σ => M.bind (ev S false o σ) fun x => M.bind (M.of (text? x)) fun s => M.bind (evv S es σ) fun os => M.of (smO k s os)
  | .lc ik ies tg cond elt vs, σ => M.bind (evs S ies σ) fun os => M.bind (M.of (itemsOf ik os)) fun ds =>
    M.bind (lcRun (fun d => M.safe (M.bind (M.of (bindTg tg d (wipeO σ vs))) fun σ' => M.bind (evc S cond σ') fun c => if c then M.bind (ev S false elt σ') fun o => M.ret (some o) else M.ret none)) ds) fun r => M.of (if ds.length ≤ lim then some (.lst r) else none)
  | .pget o f, σ => M.bind (ev S true o σ) fun x => M.bind (M.of (isPen x)) fun _ => penGet f
  | .oeq a b, σ => M.bind (ev S true a σ) fun x => M.bind (ev S true b σ) fun y => oeqM S x y
  | .olen a, σ => M.bind (ev S true a σ) fun x => olenM S x
  | .isa a c, σ => M.bind (ev S true a σ) fun x => M.bind (M.of x.isFz) fun d => M.bind (M.of (isaD S.cl c d)) fun b => M.ret (.fz (.bl b))
/-- arguments, from the left; each is frozen -/
def evs (S : Sem) : List IE → Sto → M (List D)
  | [], _ => M.ret []
  | e :: es, σ => M.bind (ev S false e σ) fun o => M.bind (evs S es σ) fun ds => M.ret (o.toD :: ds)
/-- arguments that are only looked at -/
def evv (S : Sem) : List IE → Sto → M (List O)
  | [], _ => M.ret []
  | e :: es, σ => M.bind (ev S true e σ) fun o => M.bind (evv S es σ) fun os => M.ret (o :: os)
/-- an end of a slice, if there is one -/
def evo (S : Sem) : List IE → Sto → M (Option Int)
  | [], _ => M.ret none
  | e :: _, σ => M.bind (ev S false e σ) fun o => M.bind (M.of (asInt? o)) fun i => M.ret (some i)
/-- the tests of a comprehension -/
def evc (S : Sem) : List IE → Sto → M Bool
  | [], _ => M.ret true
  | e :: _, σ => M.bind (ev S false e σ) asBl
end

/-! ### statements -/
inductive Fl where
  | nx
  | rt (d : D)
  | bk
  | ct
/-- for, over the items left -/
def forRun (f : D → Sto → M (Fl × Sto)) : List D → Sto → M (Fl × Sto)
  | [], σ => M.ret (.nx, σ)
  | d :: ds, σ => M.bind (f d σ) fun r => match r with
    | (.nx, σ') => forRun f ds σ'
    | (.ct, σ') => forRun f ds σ'
    | (.bk, σ') => M.ret (.nx, σ')
    | (.rt e, σ') => M.ret (.rt e, σ')
/-- while, at most n turns -/
def whN (c : Sto → M Bool) (f : Sto → M (Fl × Sto)) : Nat → Sto → M (Fl × Sto)
  | 0, _ => M.stuck
  | n + 1, σ => M.bind (c σ) fun b => if b then M.bind (f σ) fun r => match r with
      | (.nx, σ') => whN c f n σ'
      | (.ct, σ') => whN c f n σ'
      | (.bk, σ') => M.ret (.nx, σ')
      | (.rt e, σ') => M.ret (.rt e, σ')
    else M.ret (.nx, σ)
open Classical in
noncomputable def whRun (c : Sto → M Bool) (f : Sto → M (Fl × Sto)) (σ : Sto) : M (Fl × Sto) := fun p =>
  if h : ∃ n r, whN c f n σ p = some r then some (Classical.choose (Classical.choose_spec h)) else none
theorem M.bind_mono {α β : Type} {x : M α} {f g : α → M β} {p : Pen} {r : Except Exc β × Pen} (h : M.bind x f p = some r) (k : ∀ a p' r, f a p' = some r → g a p' = some r) : M.bind x g p = some r := by
  unfold M.bind at h ⊢
  split at h
  · exact k _ _ _ h
  · exact h
  · cases h
theorem whN_succ {c : Sto → M Bool} {f : Sto → M (Fl × Sto)} : ∀ {n : Nat} {σ : Sto} {p : Pen} {r : Except Exc (Fl × Sto) × Pen}, whN c f n σ p = some r → whN c f (n + 1) σ p = some r
  | 0, _, _, _, h => by cases h
  | n + 1, σ, p, r, h => by
    rw [whN] at h ⊢
    refine M.bind_mono h fun b p' r' h' => ?_
    split
    · rename_i hb
      rw [if_pos hb] at h'
      refine M.bind_mono h' fun a p2 r2 h2 => ?_
      split <;> (try exact whN_succ h2)
      all_goals exact h2
    · rename_i hb
      rw [if_neg hb] at h'
      exact h'
theorem whN_le {c : Sto → M Bool} {f : Sto → M (Fl × Sto)} {n : Nat} {σ : Sto} {p : Pen} {r : Except Exc (Fl × Sto) × Pen} (h : whN c f n σ p = some r) : ∀ {k : Nat}, n ≤ k → whN c f k σ p = some r := by
  intro k hk
  induction hk with
  | refl => exact h
  | step _ ih => exact whN_succ ih
theorem whRun_iff {c : Sto → M Bool} {f : Sto → M (Fl × Sto)} {σ : Sto} {p : Pen} {r : Except Exc (Fl × Sto) × Pen} : whRun c f σ p = some r ↔ ∃ n, whN c f n σ p = some r := by
  unfold whRun
  constructor
  · intro h
    split at h
    · rename_i hx
      refine ⟨Classical.choose hx, ?_⟩
      rw [← h]
      exact Classical.choose_spec (Classical.choose_spec hx)
    · cases h
  · rintro ⟨n, hn⟩
    have hx : ∃ n r, whN c f n σ p = some r := ⟨n, r, hn⟩
    rw [dif_pos hx]
    have h2 := Classical.choose_spec (Classical.choose_spec hx)
    have h3 := whN_le h2 (Nat.le_max_left (Classical.choose hx) n)
    have h4 := whN_le hn (Nat.le_max_right (Classical.choose hx) n)
    rw [h3] at h4
    exact h4
/-- one turn of a while -/
theorem whRun_eq (c : Sto → M Bool) (f : Sto → M (Fl × Sto)) (σ : Sto) : whRun c f σ = M.bind (c σ) fun b => if b then M.bind (f σ) fun r => match r with
      | (.nx, σ') => whRun c f σ'
      | (.ct, σ') => whRun c f σ'
      | (.bk, σ') => M.ret (.nx, σ')
      | (.rt e, σ') => M.ret (.rt e, σ')
    else M.ret (.nx, σ) := by
  funext p
  apply Option.ext
  intro r
  constructor
  · intro h
    obtain ⟨n, hn⟩ := whRun_iff.mp h
    cases n with
    | zero => cases hn
    | succ n =>
      rw [whN] at hn
      refine M.bind_mono hn fun b p' r' h' => ?_
      split
      · rename_i hb
        rw [if_pos hb] at h'
        refine M.bind_mono h' fun a p2 r2 h2 => ?_
        split <;> (try exact whRun_iff.mpr ⟨n, h2⟩)
        all_goals exact h2
      · rename_i hb
        rw [if_neg hb] at h'
        exact h'
  · intro h
    have key : ∃ n, whN c f (n + 1) σ p = some r := by
      rcases M.bind_ok h with ⟨b, p', h1, h2⟩ | ⟨e, p', h1, h2⟩
      · cases b with
        | false => exact ⟨0, by rw [whN, M.bind_v h1]; exact h2⟩
        | true =>
          rw [if_pos rfl] at h2
          rcases M.bind_ok h2 with ⟨a, p2, h3, h4⟩ | ⟨e, p2, h3, h4⟩
          · obtain ⟨fl, σ'⟩ := a
            cases fl with
            | nx =>
              obtain ⟨n, hn⟩ := whRun_iff.mp h4
              exact ⟨n, by rw [whN, M.bind_v h1, if_pos rfl, M.bind_v h3]; exact hn⟩
            | ct =>
              obtain ⟨n, hn⟩ := whRun_iff.mp h4
              exact ⟨n, by rw [whN, M.bind_v h1, if_pos rfl, M.bind_v h3]; exact hn⟩
            | bk => exact ⟨0, by rw [whN, M.bind_v h1, if_pos rfl, M.bind_v h3]; exact h4⟩
            | rt d => exact ⟨0, by rw [whN, M.bind_v h1, if_pos rfl, M.bind_v h3]; exact h4⟩
          · exact ⟨0, by rw [whN, M.bind_v h1, if_pos rfl, M.bind_e h3, h4]⟩
      · exact ⟨0, by rw [whN, M.bind_e h1, h2]⟩
    obtain ⟨n, hn⟩ := key
    exact whRun_iff.mpr ⟨n + 1, hn⟩
/-- an owned list -/
def ownL (σ : Sto) (i : Nat) : Option (List O) := match slot? σ[i]? with
  | some (.lst os) => some os
  | _ => none
def appL (os : List O) (d : D) : Option O := if os.length < lim then some (.lst (os ++ [.fz d])) else none
mutual
/-- lists of lists of what is frozen -/
def okLend : O → Bool
  | .fz _ => true
  | .lst os => okLends os
  | _ => false
def okLends : List O → Bool
  | [] => true
  | o :: os => okLend o && okLends os
end
mutual
/-- no list and no dict in it -/
def noMut : D → Bool
  | .non => true
  | .bl _ => true
  | .int _ => true
  | .str _ => true
  | .tup ds => noMuts ds
  | .obj _ ds => noMuts ds
  | _ => false
def noMuts : List D → Bool
  | [] => true
  | d :: ds => noMut d && noMuts ds
end
def lend1 (i : Nat) (σ : Sto) : Option Sto := match ownL σ i with
  | some os => if okLends os = true then some (σ.set i (some (.fz (O.lst os).toD))) else none
  | none => none
def lendAll : List Nat → Sto → Option Sto
  | [], σ => some σ
  | i :: is, σ => match lend1 i σ with
    | some σ' => lendAll is σ'
    | none => none
def noMutO (o : O) : Option D := match o.isFz with
  | some d => if noMut d = true then some d else none
  | none => none
/-- an owned list within an owned list, by its place -/
def ownAt (σ : Sto) (i : Nat) (k : O) : Option (List O × Nat × List O) := match ownL σ i with
  | none => none
  | some os => match asInt? k with
    | none => none
    | some z => match ixN os.length z with
      | none => none
      | some j => match os[j]? with
        | some (.lst xs) => some (os, j, xs)
        | _ => none
/-- the last item, the others -/
def popL (os : List O) : Option (D × List O) := match os.getLast? with
  | some (.fz d) => some (d, os.dropLast)
  | _ => none
def dput (ks : List DK) (vs : List D) (k : DK) (d : D) : List DK × List D :=
  if k ∈ ks then (ks, ((ks.zip vs).map fun p => if p.1 = k then d else p.2)) else (ks ++ [k], vs ++ [d])
def storeF (k d : D) : O → Option O
  | .lst os => match k with
    | .int i => (ixN os.length i).map fun j => .lst (os.set j (.fz d))
    | _ => none
  | .dct tk ks vs => match keyOf k with
    | some q => if q.atom = !tk then (if ks.length < lim then some (.dct tk (dput ks vs q d).1 (dput ks vs q d).2) else none) else none
    | none => none
  | _ => none
def setfO (cl : Nat → Bool) (f : Nat) (d : D) : O → Option O
  | .ins c fs => if cl c = true ∧ (fidT c)[fs.length]? = some f then some (.ins c (fs ++ [d])) else none
  | _ => none
def frzSt (i : Nat) (σ : Sto) : Sto := match slot? σ[i]? with
  | some o => σ.set i (some (.fz o.toD))
  | none => σ
def setOs : List Nat → List O → Sto → Option Sto
  | [], [], σ => some σ
  | i :: is, o :: os, σ => setOs is os (σ.set i (some o))
  | _, _, _ => none
/-- arguments that stay owned -/
def evf (S : Sem) : List IE → Sto → M (List O)
  | [], _ => M.ret []
  | e :: es, σ => M.bind (ev S false e σ) fun o => M.bind (evf S es σ) fun os => M.ret (o :: os)
def augO : BO → O → O → Option O
  | .add, .fz (.int i), .fz (.int j) => some (.fz (.int (i + j)))
  | .sub, .fz (.int i), .fz (.int j) => some (.fz (.int (i - j)))
  | _, _, _ => none
mutual
def hev : HE → Exc → Option D
  | .con d, _ => some d
  | .fld, e => e.f
  | .isin cs, e => some (.bl (cs.any fun c => c == e.c || c == 8))
  | .feq s, e => match e.f with
    | some (.str t) => some (.bl (decide (t = s)))
    | _ => none
  | .ite c a b, e => match hev c e with
    | some (.bl true) => hev a e
    | some (.bl false) => hev b e
    | _ => none
  | .tup es, e => (hevs es e).map .tup
def hevs : List HE → Exc → Option (List D)
  | [], _ => some []
  | h :: hs, e => match hev h e, hevs hs e with
    | some d, some ds => some (d :: ds)
    | _, _ => none
end
def HS.run (h : HS) (e : Exc) (σ : Sto) : Option (Fl × Sto) := match h with
  | .ret x => (hev x e).map fun d => (.rt d, σ)
  | .asg i x => (hev x e).map fun d => (.nx, σ.set i (some (.fz d)))
def clrO (n : Option Nat) (σ : Sto) : Sto := match n with
  | some i => σ.set i none
  | none => σ
def tryRun (c : Nat) (n : Option Nat) (h : HS) (σ : Sto) (x : M (Fl × Sto)) : M (Fl × Sto) := fun p => match x p with
  | some (.ok r, p') => some (.ok r, p')
  | some (.error e, p') => if c = e.c ∨ c = 8 then (h.run e (clrO n σ)).map fun r => (.ok (r.1, clrO n r.2), p') else some (.error e, p')
  | none => none
mutual
noncomputable def ex (S : Sem) : IS → Sto → M (Fl × Sto)
  | .asg i e, σ => M.bind (ev S false e σ) fun o => M.ret (.nx, σ.set i (some o))
  | .asgT is e, σ => M.bind (ev S false e σ) fun o => M.bind (M.of (bindTg (.tp is) o.toD σ)) fun σ' => M.ret (.nx, σ')
  | .par is es, σ => M.bind (evf S es σ) fun os => M.bind (M.of (setOs is os σ)) fun σ' => M.ret (.nx, σ')
  | .aug i op e, σ => M.bind (M.of (slot? σ[i]?)) fun x => M.bind (ev S false e σ) fun y => M.bind (M.of (augO op x y)) fun z => M.ret (.nx, σ.set i (some z))
  | .app i e, σ => M.bind (M.of (ownL σ i)) fun os => M.bind (ev S false e σ) fun o => M.bind (M.of (appL os o.toD)) fun q' => M.ret (.nx, σ.set i (some q'))
  | .store i k e, σ => M.bind (ev S false e σ) fun o => M.bind (M.of (slot? σ[i]?)) fun q => M.bind (ev S false k σ) fun kk => M.bind (M.of (storeF kk.toD o.toD q)) fun q' => M.ret (.nx, σ.set i (some q'))
  | .pop i j, σ => M.bind (M.of (ownL σ j)) fun os => M.bind (M.of (popL os)) fun r => M.ret (.nx, (σ.set j (some (.lst r.2))).set i (some (.fz r.1)))
  | .setf i f e, σ => M.bind (ev S false e σ) fun o => M.bind (M.of (slot? σ[i]?)) fun q => M.bind (M.of (setfO S.cl f o.toD q)) fun q' => M.ret (.nx, σ.set i (some q'))
  | .ife c a b, σ => M.bind (ev S false c σ) fun x => M.bind (asBl x) fun t => if t then exs S a σ else exs S b σ
  | .for_ ik ies tg body, σ => M.bind (evs S ies σ) fun os => M.bind (M.of (itemsOf ik os)) fun ds => forRun (fun d σ => M.bind (M.of (bindTg tg d σ)) fun σ' => exs S body σ') ds σ
  | .while_ c body, σ => whRun (fun σ => M.bind (ev S false c σ) asBl) (fun σ => exs S body σ) σ
  | .ret e, σ => M.bind (ev S false e σ) fun o => M.ret (.rt o.toD, σ)
  | .retN, σ => M.ret (.rt .non, σ)
  | .raise_ c es, σ => M.bind (evs S es σ) fun ds => M.exc ⟨c, ds.head?⟩
  | .expr e, σ => M.bind (ev S false e σ) fun _ => M.ret (.nx, σ)
  | .brk, σ => M.ret (.bk, σ)
  | .cont, σ => M.ret (.ct, σ)
  | .pass, σ => M.ret (.nx, σ)
  | .freeze i, σ => M.ret (.nx, frzSt i σ)
  | .stuck, _ => M.stuck
  | .pset i f e, σ => M.bind (ev S false e σ) fun o => M.bind (M.of (slot? σ[i]?)) fun q => M.bind (M.of (isPen q)) fun _ => M.bind (penSet f o.toD) fun _ => M.ret (.nx, σ)
  | .try_ body c n h, σ => tryRun c n h σ (exs S body σ)
  | .asgL is j e, σ => M.bind (M.of (lendAll is σ)) fun σf => M.bind (M.safe (ev S false e σf)) fun o => M.bind (M.of (noMutO o)) fun d => M.ret (.nx, σ.set j (some (.fz d)))
  | .appi i k e, σ => M.bind (M.of (ownL σ i)) fun _ => M.bind (ev S false k σ) fun kk => M.bind (M.of (ownAt σ i kk)) fun t => M.bind (ev S false e σ) fun o => M.bind (M.of (appL t.2.2 o.toD)) fun q' => M.ret (.nx, σ.set i (some (.lst (t.1.set t.2.1 q'))))
noncomputable def exs (S : Sem) : List IS → Sto → M (Fl × Sto)
  | [], σ => M.ret (.nx, σ)
  | s :: r, σ => M.bind (ex S s σ) fun q => match q with
    | (.nx, σ') => exs S r σ'
    | (fl, σ') => M.ret (fl, σ')
end
def flD : Fl → Option D
  | .nx => some .non
  | .rt d => some d
  | _ => none
/-- a def: its parameters are the first slots of N -/
noncomputable def runDef (S : Sem) (n : Nat) (body : List IS) (ds : List D) : M D := M.bind (exs S body (ds.map (fun d => some (.fz d)) ++ List.replicate (n - ds.length) none)) fun r => M.of (flD r.1)
end Bc
set_option Elab.async false
set_option linter.all false
set_option maxRecDepth 100000
set_option maxHeartbeats 4000000
/-! Part C. What a term's reading is, how readings follow one another, and the rules for operators, displays, subscripts, calls. -/
namespace Bc
open PySem PySem.Spec L2

/-! ### what is wanted behind a step -/
/-- an error of the program as it lies in the heap -/
def ExcAt (g : GE) (F H : Hp) (x : Exc) (c : Value) (d : Option Addr) : Prop :=
  c = .ref (g.exc x.c) ∧ match x.f with
    | none => True
    | some dd => ∃ n ad v, efT x.c = some n ∧ d = some ad ∧ H ad = some (.xd [(n, v)]) ∧ Rep g F dd v
/-- behind a step from (F, H) with the result r -/
def Res (g : GE) (F H : Hp) (E : XK) {α : Type} (K : α → Pen → Hp → Hp → Prop) : Except Exc α × Pen → Prop
  | (.ok a, p) => ∀ F' H', Stp g F H F' H' → PenAt g F' H' p → K a p F' H'
  | (.error x, p) => ∀ c d F' H', Stp g F H F' H' → PenAt g F' H' p → ExcAt g F' H' x c d → E c d H'
def After (g : GE) (F H : Hp) (E : XK) {α : Type} (r : Option (Except Exc α × Pen)) (K : α → Pen → Hp → Hp → Prop) : Prop := ∃ q, r = some q ∧ Res g F H E K q
section
variable {g : GE} {F H : Hp} {E : XK} {α β : Type}
theorem After.bind {x : M α} {f : α → M β} {pn : Pen} {K : β → Pen → Hp → Hp → Prop} (h : After g F H E (M.bind x f pn) K) : After g F H E (x pn) fun a p F1 H1 => After g F1 H1 E (f a p) K := by
  obtain ⟨q, h1, h2⟩ := h
  rcases M.bind_ok h1 with ⟨a, p, h3, h4⟩ | ⟨e, p, h3, h4⟩
  · refine ⟨_, h3, fun F1 H1 s1 p1 => ⟨q, h4, ?_⟩⟩
    obtain ⟨r, p'⟩ := q
    cases r with
    | ok b => exact fun F2 H2 s2 p2 => h2 F2 H2 (s1.trans p2.1 s2) p2
    | error x => exact fun c d F2 H2 s2 p2 => h2 c d F2 H2 (s1.trans p2.1 s2) p2
  · subst h4
    exact ⟨_, h3, fun c d F2 H2 s2 p2 ex => h2 c d F2 H2 s2 p2 ex⟩
theorem After.imp {r : Option (Except Exc α × Pen)} {K K' : α → Pen → Hp → Hp → Prop} (h : After g F H E r K) (k : ∀ a p F' H', Stp g F H F' H' → PenAt g F' H' p → K a p F' H' → K' a p F' H') : After g F H E r K' := by
  obtain ⟨⟨r, p⟩, h1, h2⟩ := h
  cases r with
  | ok a => exact ⟨_, h1, fun F' H' s q => k a p F' H' s q (h2 F' H' s q)⟩
  | error x => exact ⟨_, h1, h2⟩
theorem After.all {r : Option (Except Exc α × Pen)} {K K' : α → Pen → Hp → Hp → Prop} (h : After g F H E r K)
    (k : ∀ a p, (∀ F' H', Stp g F H F' H' → PenAt g F' H' p → K a p F' H') → ∀ F' H', Stp g F H F' H' → PenAt g F' H' p → K' a p F' H') : After g F H E r K' := by
  obtain ⟨⟨r, p⟩, h1, h2⟩ := h
  cases r with
  | ok a => exact ⟨_, h1, k a p h2⟩
  | error x => exact ⟨_, h1, h2⟩
theorem After.ret {a : α} {pn : Pen} {K : α → Pen → Hp → Hp → Prop} (h : After g F H E (M.ret a pn) K) (e : Same F H) (p : PenAt g F H pn) : K a pn F H := by
  obtain ⟨q, h1, h2⟩ := h
  cases h1
  exact h2 F H (Stp.refl e) p
theorem After.ret' {a : α} {pn : Pen} {K : α → Pen → Hp → Hp → Prop} (h : After g F H E (M.ret a pn) K) {F' H' : Hp} (s : Stp g F H F' H') (p : PenAt g F' H' pn) : K a pn F' H' := by
  obtain ⟨q, h1, h2⟩ := h
  cases h1
  exact h2 F' H' s p
theorem After.of {o : Option α} {pn : Pen} {K : α → Pen → Hp → Hp → Prop} (h : After g F H E (M.of o pn) K) : ∃ a, o = some a ∧ ∀ F' H', Stp g F H F' H' → PenAt g F' H' pn → K a pn F' H' := by
  obtain ⟨q, h1, h2⟩ := h
  cases o with
  | none => cases h1
  | some a =>
    cases h1
    exact ⟨a, rfl, h2⟩
theorem After.no {pn : Pen} {K : α → Pen → Hp → Hp → Prop} (h : After g F H E (M.stuck pn) K) : False := by
  obtain ⟨q, h1, _⟩ := h
  cases h1
end

/-- v is o behind a step from H: to be looked at (m), or new and its own -/
structure Got (g : GE) (m : Bool) (H F' H' : Hp) (o : O) (v : V) (fp : List Addr) : Prop where
  own : Own g F' H' o v fp
  np : ∀ a ∈ fp, a ≠ g.pa
  new : m = false → fp.Nodup ∧ ∀ a ∈ fp, H a = none ∧ F' a = none
section
variable {g : GE} {m : Bool} {H F F' H' F2 H2 : Hp} {o : O} {v : V} {fp : List Addr}
theorem Got.fz {d : D} (r : Rep g F' d v) : Got g m H F' H' (.fz d) v [] := ⟨.fz r, fun a ha => by simp at ha, fun _ => ⟨.nil, fun a ha => by simp at ha⟩⟩
theorem Got.rep {d : D} (n : Got g m H F' H' (.fz d) v fp) : Rep g F' d v := by
  cases n.own with
  | fz r => exact r
theorem Got.toNew (n : Got g false H F' H' o v fp) : NewOwn g H F' H' o v fp := ⟨n.own, (n.new rfl).1, (n.new rfl).2⟩
theorem Got.step (n : Got g m H F' H' o v fp) (s : Stp g F' H' F2 H2) : Got g m H F2 H2 o v fp where
  own := n.own.mono s.ff fun a ha => by
    obtain ⟨u, hu⟩ := n.own.there a ha
    rw [hu]
    exact s.keep a u (n.np a ha) hu
  np := n.np
  new := fun e => ⟨(n.new e).1, fun a ha => by
    obtain ⟨u, hu⟩ := n.own.there a ha
    exact ⟨((n.new e).2 a ha).1, s.out hu ((n.new e).2 a ha).2⟩⟩
/-- behind one more step ahead -/
theorem Got.back {H0 F0 : Hp} (n : Got g m H F' H' o v fp) (s : Stp g F0 H0 F H) {pn : Pen} (p : PenAt g F H pn) : Got g m H0 F' H' o v fp where
  own := n.own
  np := n.np
  new := fun e => ⟨(n.new e).1, fun a ha => by
    refine ⟨?_, ((n.new e).2 a ha).2⟩
    cases q : H0 a with
    | none => rfl
    | some u =>
      have := s.keep a u (n.np a ha) q
      rw [((n.new e).2 a ha).1] at this
      cases this⟩
theorem Got.frz {pn : Pen} (n : Got g false H F' H' o v fp) (s : Stp g F H F' H') (p : PenAt g F' H' pn) : ∃ F'', Stp g F H F'' H' ∧ PenAt g F'' H' pn ∧ Rep g F'' o.toD v ∧ Same F' F'' :=
  NewOwn.frz s p n.toNew n.np
end

/-! ### readings -/
def tEv (g : GE) (S : Sem) (E : WX) (m : Bool) (e : IE) : TE := fun σV H Q => ∃ F0 H0 F σ pn, Abs g F0 H0 σV H F σ pn ∧
  After g F H (WE E σV) (ev S m e σ pn) fun o p F' H' => ∀ v fp, Got g m H F' H' o v fp → Q v H'
def tEvs (g : GE) (S : Sem) (E : WX) (es : List IE) : TA := fun σV H Q => ∃ F0 H0 F σ pn, Abs g F0 H0 σV H F σ pn ∧
  After g F H (WE E σV) (evs S es σ pn) fun ds p F' H' => ∀ vs, Reps g F' ds vs → Q vs H'
/-- many things that are looked at -/
inductive Gots (g : GE) (F H : Hp) : List O → List V → Prop
  | nil : Gots g F H [] []
  | cons {o : O} {v : V} {os : List O} {vs : List V} {fp : List Addr} (h : Own g F H o v fp) (np : ∀ a ∈ fp, a ≠ g.pa) (r : Gots g F H os vs) : Gots g F H (o :: os) (v :: vs)
theorem Gots.step {g : GE} {F H F' H' : Hp} (s : Stp g F H F' H') : ∀ {os : List O} {vs : List V}, Gots g F H os vs → Gots g F' H' os vs
  | _, _, .nil => .nil
  | _, _, .cons h np r => .cons (h.mono s.ff fun a ha => by
      obtain ⟨u, hu⟩ := h.there a ha
      rw [hu]
      exact s.keep a u (np a ha) hu) np (r.step s)
def tEvv (g : GE) (S : Sem) (E : WX) (es : List IE) : TA := fun σV H Q => ∃ F0 H0 F σ pn, Abs g F0 H0 σV H F σ pn ∧
  After g F H (WE E σV) (evv S es σ pn) fun os p F' H' => ∀ vs, Gots g F' H' os vs → Q vs H'
/-- a test's -/
def tEvT (g : GE) (S : Sem) (E : WX) (e : IE) : TT := tB (tEv g S E false e)

theorem _root_.L2.PE.weak {X : Cx} {e : Expr} {t t' : TE} (h : PE X e t) (k : ∀ σ H Q, t' σ H Q → t σ H Q) : PE X e t' := ⟨fun pins s σ H Q I hw => h.run pins s σ H Q I (k σ H Q hw)⟩
theorem _root_.L2.PT.weak {X : Cx} {e : Expr} {t t' : TT} (h : PT X e t) (k : ∀ σ H Q, t' σ H Q → t σ H Q) : PT X e t' := ⟨fun pins s σ H Q I hw => h.run pins s σ H Q I (k σ H Q hw)⟩
theorem _root_.L2.PW.weak {X : Cx} {e : Expr} {t t' : TT} (h : PW X e t) (k : ∀ σ H Q, t' σ H Q → t σ H Q) : PW X e t' := ⟨fun wh pins s σ H Q I hw => h.run wh pins s σ H Q I (k σ H Q hw)⟩
theorem _root_.L2.PA.weak {X : Cx} {e : List Expr} {t t' : TA} (h : PA X e t) (k : ∀ σ H Q, t' σ H Q → t σ H Q) : PA X e t' := ⟨fun pos pins s σ H Q I hw => h.run pos pins s σ H Q I (k σ H Q hw)⟩
theorem _root_.L2.PS.weak {X : Cx} {e : Stmt} {t t' : TS} (h : PS X e t) (k : ∀ D σ H, t' D σ H → t D σ H) : PS X e t' := ⟨fun pins s σ H D I hw => h.run pins s σ H D I (k D σ H hw)⟩
theorem _root_.L2.PSs.weak {X : Cx} {e : List Stmt} {t t' : TS} (h : PSs X e t) (k : ∀ D σ H, t' D σ H → t D σ H) : PSs X e t' := ⟨fun pins s σ H D I hw => h.run pins s σ H D I (k D σ H hw)⟩

section
variable {X : Cx} {g : GE} {S : Sem} {E : WX} {m : Bool}
/-- what is new is looked at, too -/
theorem tEv_look {e : IE} {σ : St} {H : Hp} {Q : VK} (hm : ∀ σ, ev S true e σ = ev S false e σ) (h : tEv g S E true e σ H Q) : tEv g S E false e σ H Q := by
  obtain ⟨F0, H0, F, σO, pn, A, h⟩ := h
  rw [hm] at h
  exact ⟨F0, H0, F, σO, pn, A, h.imp fun o p F' H' s q k v fp n => k v fp ⟨n.own, n.np, fun z => nomatch z⟩⟩

/-! ### names, constants -/
theorem view_got {o o' : O} {v : V} {f : List Addr} {Hs F' H' : Hp} (h : view m o = some o') (n : Got g true Hs F' H' o v f) : Got g m H F' H' o' v f := by
  cases o with
  | fz d =>
    cases h
    cases n.own with
    | fz r => exact Got.fz r
  | lst os =>
    cases m with
    | true =>
      cases h
      exact ⟨n.own, n.np, fun z => nomatch z⟩
    | false => cases h
  | dct tk ks vs =>
    cases m with
    | true =>
      cases h
      exact ⟨n.own, n.np, fun z => nomatch z⟩
    | false => cases h
  | ins c fs =>
    cases m with
    | true =>
      cases h
      exact ⟨n.own, n.np, fun z => nomatch z⟩
    | false => cases h
theorem slot_some {x : Option (Option O)} {o : O} (h : slot? x = some o) : x = some (some o) := by
  cases x with
  | none => cases h
  | some y =>
    cases y with
    | none => cases h
    | some z => rw [Option.some.inj h]
theorem s_var {i : Nat} {x : Str} {pos : Pos} (h : PE X (.Name x pos) (tVar i)) : PE X (.Name x pos) (tEv g S E m (.var i)) := h.weak fun σ H Q ⟨F0, H0, F, σO, pn, A, h⟩ => by
  rw [ev] at h
  obtain ⟨o, h1, h2⟩ := h.bind.of
  obtain ⟨o', h3, h4⟩ := (h2 F H (Stp.refl A.fh) A.pen).of
  obtain ⟨v, f, q1, q2, q3⟩ := A.get (slot_some h1)
  exact ⟨v, q1, h4 F H (Stp.refl A.fh) A.pen v f (view_got (Hs := H) h3 ⟨q2, q3, fun z => nomatch z⟩)⟩
theorem s_con {d : D} {v : V} {e : Expr} (h : PE X e (tC v)) (r : ∀ F, Rep g F d v) : PE X e (tEv g S E m (.con d)) := h.weak fun σ H Q ⟨F0, H0, F, σO, pn, A, h⟩ => by
  rw [ev] at h
  exact h.ret A.fh A.pen v [] (Got.fz (r F))

/-! ### two operands -/
theorem s_bin2 {ia ib : IE} {r : R2} {mb : Bool} {f : O → O → M O} {σ : St} {H : Hp} {Q : VK}
    (hr : ∀ x y p F H1 Hs v1 v2 f1 f2, Same F H1 → PenAt g F H1 p → Got g true Hs F H1 x v1 f1 → Got g true Hs F H1 y v2 f2 → After g F H1 (WE E σ) (f x y p) (fun o p F' H' => ∀ v fp, Got g m H1 F' H' o v fp → Q v H') → r v1 v2 H1 Q)
    (h : ∃ F0 H0 F σO pn, Abs g F0 H0 σ H F σO pn ∧ After g F H (WE E σ) (M.bind (ev S true ia σO) (fun x => M.bind (ev S mb ib σO) fun y => f x y) pn) fun o p F' H' => ∀ v fp, Got g m H F' H' o v fp → Q v H') :
    tOp r (tEv g S E true ia) (tEv g S E mb ib) σ H Q := by
  obtain ⟨F0, H0, F, σO, pn, A, h⟩ := h
  refine ⟨F0, H0, F, σO, pn, A, h.bind.imp fun x p F1 H1 s1 p1 k v1 f1 n1 => ?_⟩
  refine ⟨F0, H0, F1, σO, p, A.step s1 p1, k.bind.imp fun y p' F2 H2 s2 p2 k2 v2 f2 n2 => ?_⟩
  have n1' : Got g true H F2 H2 x v1 f1 := n1.step s2
  have n2' : Got g true H F2 H2 y v2 f2 := ⟨n2.own, n2.np, fun z => nomatch z⟩
  refine hr x y p' F2 H2 H v1 v2 f1 f2 s2.fh p2 n1' n2' (k2.imp fun o p3 F3 H3 s3 q3 k3 v fp n => k3 v fp (n.back (s1.trans p2.1 s2) p2))
theorem After.now {α : Type} {F H : Hp} {E : XK} {o : Option α} {pn : Pen} {K : α → Pen → Hp → Hp → Prop} (h : After g F H E (M.of o pn) K) (e : Same F H) (p : PenAt g F H pn) : ∃ a, o = some a ∧ K a pn F H := by
  obtain ⟨a, h1, h2⟩ := h.of
  exact ⟨a, h1, h2 F H (Stp.refl e) p⟩
end
/-- a new object -/
theorem same_new {F H : Hp} {p : Addr} {o : HO} (e : Same F H) (h : H p = none) : Same F (upd H p o) := fun a u q => by
  rw [upd_ne (ne_of_none (e a u q) h)]
  exact e a u q
theorem alloc {g : GE} {F H : Hp} {pn : Pen} {p : Addr} {o : HO} (e : Same F H) (q : PenAt g F H pn) (h : H p = none) : Stp g F H F (upd H p o) ∧ PenAt g F (upd H p o) pn := by
  refine ⟨⟨Same.refl F, same_new e h, fun a u z => .inl ⟨u, z⟩, fun a u _ z => ?_, fun l z => ⟨l, by rw [upd_ne (ne_of_none z h)]; exact z, rfl⟩⟩, q.1, ?_⟩
  · rw [upd_ne (ne_of_none z h)]
    exact z
  · obtain ⟨_, ca, h1, h2⟩ := q
    refine ⟨ca, ?_, h2⟩
    rw [upd_ne (ne_of_none h1 h)]
    exact h1
/-- a new object that is frozen at once -/
theorem allocF {g : GE} {F H : Hp} {pn : Pen} {p : Addr} {o : HO} (e : Same F H) (q : PenAt g F H pn) (h : H p = none) : Stp g F H (upd F p o) (upd H p o) ∧ PenAt g (upd F p o) (upd H p o) pn := by
  have hf : F p = none := by
    cases z : F p with
    | none => rfl
    | some u =>
      rw [e p u z] at h
      cases h
  have sf : Same F (upd F p o) := same_new (Same.refl F) hf
  refine ⟨⟨sf, fun a u z => ?_, fun a u z => ?_, fun a u _ z => ?_, fun l z => ⟨l, by rw [upd_ne (ne_of_none z h)]; exact z, rfl⟩⟩, ?_, ?_⟩
  · by_cases ha : a = p
    · subst ha
      rw [upd_same] at z ⊢
      exact z
    · rw [upd_ne ha] at z ⊢
      exact e a u z
  · by_cases ha : a = p
    · subst ha
      exact .inr h
    · rw [upd_ne ha] at z
      exact .inl ⟨u, z⟩
  · rw [upd_ne (ne_of_none z h)]
    exact z
  · rw [upd_ne (Ne.symm (penNe q h))]
    exact q.1
  · obtain ⟨_, ca, h1, h2⟩ := q
    refine ⟨ca, ?_, sf _ _ h2⟩
    rw [upd_ne (ne_of_none h1 h)]
    exact h1
/-- a new list of frozen items is owned -/
theorem got_lst {g : GE} {m : Bool} {F H : Hp} {pn : Pen} {p : Addr} {ds : List D} {vs : List V} (e : Same F H) (q : PenAt g F H pn) (h : H p = none) (r : Reps g F ds vs) : Got g m H F (upd H p (.lst vs)) (.lst (ds.map .fz)) (.ref p) [p] := by
  have hf : F p = none := by
    cases z : F p with
    | none => rfl
    | some u =>
      rw [e p u z] at h
      cases h
  refine ⟨.lst upd_same (Owns.fzs r), fun a ha => ?_, fun _ => ⟨by simp, fun a ha => ?_⟩⟩
  · rw [List.mem_singleton.mp ha]
    exact penNe q h
  · rw [List.mem_singleton.mp ha]
    exact ⟨h, hf⟩
theorem got_fzF {g : GE} {m : Bool} {F H H' : Hp} {p : Addr} {o : HO} {d : D} {v : V} (r : Rep g (upd F p o) d v) : Got g m H (upd F p o) H' (.fz d) v [] := Got.fz r
theorem lst_at {g : GE} {F H : Hp} {x : O} {v : V} {fp : List Addr} {ds : List D} (e : Same F H) (n : Own g F H x v fp) (h : x.lst? = some ds) : ∃ a vs, v = .ref a ∧ H a = some (.lst vs) ∧ Reps g F ds vs := by
  cases n with
  | fz r =>
    cases r with
    | lst h1 r1 =>
      cases h
      exact ⟨_, _, rfl, e _ _ h1, r1⟩
    | non => cases h
    | bl _ => cases h
    | int _ => cases h
    | str _ => cases h
    | tup _ _ => cases h
    | dK _ _ _ _ => cases h
    | dT _ _ _ _ => cases h
    | obj _ _ => cases h
    | pen => cases h
    | scr _ => cases h
  | lst h1 r1 =>
    obtain ⟨h2, _⟩ := r1.allFz h
    exact ⟨_, _, rfl, h1, h2⟩
  | dK _ _ _ _ => cases h
  | dT _ _ _ _ => cases h
  | ins _ _ => cases h
theorem tup_at {g : GE} {F H : Hp} {x : O} {v : V} {fp : List Addr} {ds : List D} (e : Same F H) (n : Own g F H x v fp) (h : x.tup? = some ds) : ∃ a vs, v = .ref a ∧ H a = some (.tup vs) ∧ Reps g F ds vs := by
  cases n with
  | fz r =>
    cases r with
    | tup h1 r1 =>
      cases h
      exact ⟨_, _, rfl, e _ _ h1, r1⟩
    | non => cases h
    | bl _ => cases h
    | int _ => cases h
    | str _ => cases h
    | lst _ _ => cases h
    | dK _ _ _ _ => cases h
    | dT _ _ _ _ => cases h
    | obj _ _ => cases h
    | pen => cases h
    | scr _ => cases h
  | lst _ _ => cases h
  | dK _ _ _ _ => cases h
  | dT _ _ _ _ => cases h
  | ins _ _ => cases h
theorem int_at {g : GE} {F : Hp} {i : Int} {v : V} (r : Rep g F (.int i) v) : v = .int i := by cases r; rfl
theorem str_at {g : GE} {F : Hp} {s : List Nat} {v : V} (r : Rep g F (.str s) v) : v = .str ⟨s.toArray⟩ := by cases r; rfl
theorem bl_at {g : GE} {F : Hp} {b : Bool} {v : V} (r : Rep g F (.bl b) v) : v = .bl b := by cases r; rfl
theorem str_len (s : List Nat) : (⟨s.toArray⟩ : Str).length = s.length := by
  show s.toArray.size = s.length
  simp
theorem str_app (s t : List Nat) : ((⟨s.toArray⟩ : Str) ++ (⟨t.toArray⟩ : Str)) = ⟨(s ++ t).toArray⟩ := by
  show (⟨s.toArray ++ t.toArray⟩ : Str) = ⟨(s ++ t).toArray⟩
  simp
theorem lim_line {n : Nat} (h : n ≤ lim) : n ≤ sizeLine := Nat.le_trans h (by decide)
theorem lim_lt {n : Nat} (h : n < lim) : n < sizeLine := Nat.lt_of_lt_of_le h (by decide)

section
variable {X : Cx} {g : GE} {S : Sem} {E : WX} {m : Bool} {ea eb : Expr} {ia ib : IE} {pos : Pos}
def rStrA : R2 := fun x y H Q => ∃ i j, x = .str i ∧ y = .str j ∧ i.length + j.length ≤ sizeLine ∧ Q (.str (i ++ j)) H
theorem addO_cases {x y o : O} (h : addO x y = some o) : (∃ i j, x = .fz (.int i) ∧ y = .fz (.int j) ∧ o = .fz (.int (i + j))) ∨
    (∃ s t, x = .fz (.str s) ∧ y = .fz (.str t) ∧ s.length + t.length ≤ lim ∧ o = .fz (.str (s ++ t))) ∨
    (∃ xs ys, x.lst? = some xs ∧ y.lst? = some ys ∧ xs.length + ys.length ≤ lim ∧ o = .lst ((xs ++ ys).map .fz)) := by
  unfold addO at h
  split at h
  · exact .inl ⟨_, _, rfl, rfl, (Option.some.inj h).symm⟩
  · split at h
    · exact .inr (.inl ⟨_, _, rfl, rfl, by assumption, (Option.some.inj h).symm⟩)
    · cases h
  · split at h
    · split at h
      · exact .inr (.inr ⟨_, _, by assumption, by assumption, by assumption, (Option.some.inj h).symm⟩)
      · cases h
    · cases h
theorem s_add (ha : PE X ea (tEv g S E true ia)) (hb : PE X eb (tEv g S E true ib)) : PE X (.BinOp ea .Add eb pos) (tEv g S E m (.bin .add ia ib)) :=
  (pe_op (op_add.or (OpR.or op_add_str op_cat)) ha hb).weak fun σ H Q h => by
    simp only [tEv, ev] at h
    refine s_bin2 (f := fun x y => M.of (binO .add x y)) (fun x y p F H1 Hs v1 v2 f1 f2 e pe n1 n2 k => ?_) h
    obtain ⟨o, h1, h2⟩ := k.of
    rcases addO_cases h1 with ⟨i, j, rfl, rfl, rfl⟩ | ⟨s, t, rfl, rfl, hl, rfl⟩ | ⟨xs, ys, h3, h4, hl, rfl⟩
    · obtain rfl := int_at n1.rep
      obtain rfl := int_at n2.rep
      exact .inl ⟨i, j, rfl, rfl, h2 F H1 (Stp.refl e) pe _ [] (Got.fz (.int _))⟩
    · obtain rfl := str_at n1.rep
      obtain rfl := str_at n2.rep
      refine .inr (.inl ⟨_, _, rfl, rfl, ?_, ?_⟩)
      · rw [str_len, str_len]
        exact lim_line hl
      · rw [str_app]
        exact h2 F H1 (Stp.refl e) pe _ [] (Got.fz (.str _))
    · obtain ⟨a, vs, rfl, q1, r1⟩ := lst_at e n1.own h3
      obtain ⟨b, ws, rfl, q2, r2⟩ := lst_at e n2.own h4
      refine .inr (.inr ⟨a, b, vs, ws, rfl, rfl, q1, q2, ?_, fun p hp => ?_⟩)
      · rw [← r1.length, ← r2.length]
        exact lim_line hl
      · obtain ⟨s1, p1⟩ := alloc (o := .lst (vs ++ ws)) e pe hp
        exact h2 F _ s1 p1 _ [p] (got_lst e pe hp (r1.append r2))
theorem asInt_at {x : O} {i : Int} (h : asInt? x = some i) : x = .fz (.int i) := by
  unfold asInt? at h
  split at h
  · rw [Option.some.inj h]
  · cases h
theorem intO_cases {bo : BO} {x y o : O} (h : intO bo x y = some o) : ∃ i j k, x = .fz (.int i) ∧ y = .fz (.int j) ∧ binI bo i j = some k ∧ o = .fz (.int k) := by
  unfold intO at h
  split at h
  · rename_i i j h1 h2
    rw [Option.map_eq_some_iff] at h
    obtain ⟨k, h3, rfl⟩ := h
    exact ⟨i, j, k, asInt_at h1, asInt_at h2, h3, rfl⟩
  · cases h
/-- an operator on two numbers -/
theorem s_int2 {op : Operator} {bo : BO} {C : Int → Int → Prop} {f : Int → Int → Int} (hna : bo ≠ .add) (hnm : bo ≠ .mul) (hop : OpR X (binaryOp op) (rI C fun i j => .int (f i j)))
    (hb2 : ∀ i j k, binI bo i j = some k → C i j ∧ k = f i j)
    (ha : PE X ea (tEv g S E true ia)) (hb : PE X eb (tEv g S E true ib)) : PE X (.BinOp ea op eb pos) (tEv g S E m (.bin bo ia ib)) :=
  (pe_op hop ha hb).weak fun σ H Q h => by
    simp only [tEv, ev] at h
    refine s_bin2 (f := fun x y => M.of (binO bo x y)) (fun x y p F H1 Hs v1 v2 f1 f2 e pe n1 n2 k => ?_) h
    obtain ⟨o, h1, h2⟩ := k.of
    unfold binO at h1
    rw [if_neg hna, if_neg hnm] at h1
    obtain ⟨i, j, kk, rfl, rfl, hk, rfl⟩ := intO_cases h1
    obtain ⟨hc, rfl⟩ := hb2 i j kk hk
    obtain rfl := int_at n1.rep
    obtain rfl := int_at n2.rep
    exact ⟨i, j, rfl, rfl, hc, h2 F H1 (Stp.refl e) pe _ [] (Got.fz (.int _))⟩
theorem some_if {c : Prop} [Decidable c] {α : Type} {a b : α} (h : (if c then some a else none) = some b) : c ∧ b = a := by
  split at h
  · exact ⟨by assumption, (Option.some.inj h).symm⟩
  · cases h
theorem op_subT : OpR X (binaryOp .Sub) (rI (fun _ _ => True) fun i j => .int (i - j)) := fun pins s σ H x y v u Q I rx ry ⟨i, j, e1, e2, _, q⟩ => op_sub pins s σ H x y v u Q I rx ry ⟨i, j, e1, e2, q⟩
theorem log2_small {n k : Nat} (h : n < 2 ^ k) (hk : 0 < k) : n.log2 < k := PySem.Flt.log2_lt_of hk h
def CMulA (i j : Int) : Prop := CMul i j ∨ CMulW i j
theorem op_mulA : OpR X (binaryOp .Mult) (rI CMulA fun i j => .int (i * j)) := fun pins s σ H x y v u Q I rx ry ⟨i, j, e1, e2, hc, q⟩ => hc.elim
  (fun hc => op_mul pins s σ H x y v u Q I rx ry ⟨i, j, e1, e2, hc, q⟩) (fun hc => op_mulW pins s σ H x y v u Q I rx ry ⟨i, j, e1, e2, hc, q⟩)
theorem nat64 {i : Int} (h : i.natAbs < 2 ^ 64) : -(2 ^ 64) < i ∧ i < 2 ^ 64 := by omega
theorem mulOk_A {i j : Int} (h : mulOk i j) : CMulA i j := by
  rcases h with h | h | ⟨h1, h2⟩
  · exact .inl (.inl (nat64 h))
  · exact .inl (.inr (nat64 h))
  · exact .inr (wide_mul h1 h2 (by decide) (by decide) (by decide))
theorem s_sub (ha : PE X ea (tEv g S E true ia)) (hb : PE X eb (tEv g S E true ib)) : PE X (.BinOp ea .Sub eb pos) (tEv g S E m (.bin .sub ia ib)) :=
  s_int2 (by decide) (by decide) op_subT (fun i j k h => ⟨trivial, (Option.some.inj h).symm⟩) ha hb
theorem foldl_repN (its : List Nat) : ∀ (k : Nat) (acc : List Nat), List.foldl (fun x1 x2 => x1 ++ x2) acc.toArray (List.replicate k its.toArray) = (acc ++ (List.replicate k its).flatten).toArray
  | 0, acc => by simp
  | k + 1, acc => by
    have e : acc.toArray ++ its.toArray = (acc ++ its).toArray := by simp
    have e2 : (acc ++ its) ++ (List.replicate k its).flatten = acc ++ (List.replicate (k + 1) its).flatten := by
      rw [List.replicate_succ, List.flatten_cons, List.append_assoc]
    rw [← e2, ← foldl_repN its k (acc ++ its), ← e, List.replicate_succ, List.foldl_cons]
theorem txt_mul (s : List Nat) {k : Int} (h : 0 ≤ k) : Txt.mul ⟨s.toArray⟩ k = ⟨(repL s k).toArray⟩ := by
  unfold Txt.mul repL
  by_cases h1 : k < 1
  · have : k.toNat = 0 := by omega
    rw [if_pos h1, this]
    rfl
  · rw [if_neg h1]
    have hf := foldl_repN s k.toNat []
    rw [List.nil_append] at hf
    by_cases h2 : (k == 1 || (⟨s.toArray⟩ : Str).length == 0) = true
    · rw [if_pos h2]
      rw [Bool.or_eq_true, beq_iff_eq, beq_iff_eq] at h2
      rcases h2 with h2 | h2
      · subst h2
        simp
      · rw [str_len] at h2
        have : s = [] := List.length_eq_zero_iff.mp h2
        subst this
        simp
    · rw [if_neg h2]
      congr 1
def rRepS : R2 := fun x y H Q => ∃ (s : List Nat) (k : Int), x = .str ⟨s.toArray⟩ ∧ y = .int k ∧ k ≤ (lim : Nat) ∧ 0 ≤ k ∧ s.length * k.toNat ≤ lim ∧ Q (.str ⟨(repL s k).toArray⟩) H
theorem mulOkS {s : List Nat} {k : Int} (h1 : k ≤ (lim : Nat)) (h2 : 0 ≤ k) (h3 : s.length * k.toNat ≤ lim) : MulOk ⟨s.toArray⟩ k := by
  have hl : ((lim : Nat) : Int) = 1000000 := rfl
  refine ⟨?_, fun h4 h5 => ?_, fun h4 h5 => ?_⟩
  · have a : ¬ k < -(2 ^ 63 : Int) := by omega
    have b : ¬ k ≥ 2 ^ 63 := by omega
    rw [decide_eq_false a, decide_eq_false b]
    rfl
  · rw [str_len]
    have hk : 0 < k := by omega
    have hs : s.length ≤ lim := by
      have : 1 ≤ k.toNat := by omega
      exact Nat.le_trans (Nat.le_mul_of_pos_right _ this) h3
    have : (s.length : Int) * k ≤ 2 ^ 63 - 1 := by
      have e : (s.length : Int) * k = ((s.length * k.toNat : Nat) : Int) := by
        rw [Int.natCast_mul, Int.toNat_of_nonneg h2]
      rw [e]
      have : ((s.length * k.toNat : Nat) : Int) ≤ (lim : Nat) := by exact_mod_cast h3
      omega
    have := (Int.le_ediv_iff_mul_le hk).mpr this
    omega
  · rw [str_len]
    exact decide_eq_false (fun q => Nat.not_le_of_gt q (lim_line h3))
theorem op_repS {X : Cx} : OpR X (binaryOp .Mult) rRepS := by
  intro pins s σ H x y v u Q I rx ry ⟨t, k, e1, e2, h1, h2, h3, q⟩
  subst e1 e2
  obtain ⟨t1, rfl⟩ := rx
  obtain ⟨t2, rfl⟩ := ry
  refine SB.mul (mulOkS h1 h2 h3) fun t' tk => ?_
  rw [txt_mul t h2]
  exact ⟨.str ⟨(repL t k).toArray⟩, H, I.tok _, ⟨_, rfl⟩, q⟩
theorem mulO_cases {x y o : O} (h : mulO x y = some o) : (∃ i j, x = .fz (.int i) ∧ y = .fz (.int j) ∧ mulOk i j ∧ o = .fz (.int (i * j))) ∨
    (∃ s k, x = .fz (.str s) ∧ y = .fz (.int k) ∧ (k ≤ (lim : Nat) ∧ 0 ≤ k ∧ s.length * k.toNat ≤ lim) ∧ o = .fz (.str (repL s k))) ∨
    (∃ xs k, x.lst? = some xs ∧ y = .fz (.int k) ∧ (k ≤ (lim : Nat) ∧ 0 ≤ k ∧ xs.length * k.toNat ≤ lim) ∧ o = .lst ((repL xs k).map .fz)) := by
  unfold mulO at h
  split at h
  · obtain ⟨h1, h2⟩ := some_if h
    exact .inl ⟨_, _, rfl, rfl, h1, h2⟩
  · obtain ⟨h1, h2⟩ := some_if h
    exact .inr (.inl ⟨_, _, rfl, rfl, h1, h2⟩)
  · split at h
    · rename_i h3 h4
      obtain ⟨h1, h2⟩ := some_if h
      exact .inr (.inr ⟨_, _, h3, asInt_at h4, h1, h2⟩)
    · cases h
theorem reps_rep {g : GE} {F : Hp} {ds : List D} {vs : List V} (r : Reps g F ds vs) : ∀ n : Nat, Reps g F (List.replicate n ds).flatten (List.replicate n vs).flatten
  | 0 => .nil
  | n + 1 => by
    rw [List.replicate_succ, List.replicate_succ, List.flatten_cons, List.flatten_cons]
    exact r.append (reps_rep r n)
theorem s_mul (ha : PE X ea (tEv g S E true ia)) (hb : PE X eb (tEv g S E true ib)) : PE X (.BinOp ea .Mult eb pos) (tEv g S E m (.bin .mul ia ib)) :=
  (pe_op (op_mulA.or (OpR.or op_repS op_rep)) ha hb).weak fun σ H Q h => by
    simp only [tEv, ev] at h
    refine s_bin2 (f := fun x y => M.of (binO .mul x y)) (fun x y p F H1 Hs v1 v2 f1 f2 e pe n1 n2 k => ?_) h
    obtain ⟨o, h1, h2⟩ := k.of
    rcases mulO_cases h1 with ⟨i, j, rfl, rfl, hm, rfl⟩ | ⟨s, t, rfl, rfl, hl, rfl⟩ | ⟨xs, kk, h3, rfl, hl, rfl⟩
    · obtain rfl := int_at n1.rep
      obtain rfl := int_at n2.rep
      exact .inl ⟨i, j, rfl, rfl, mulOk_A hm, h2 F H1 (Stp.refl e) pe _ [] (Got.fz (.int _))⟩
    · obtain rfl := str_at n1.rep
      obtain rfl := int_at n2.rep
      exact .inr (.inl ⟨s, t, rfl, rfl, hl.1, hl.2.1, hl.2.2, h2 F H1 (Stp.refl e) pe _ [] (Got.fz (.str _))⟩)
    · obtain ⟨a, vs, rfl, q1, r1⟩ := lst_at e n1.own h3
      obtain rfl := int_at n2.rep
      have hlim : ((lim : Nat) : Int) = 1000000 := rfl
      refine .inr (.inr ⟨a, kk, vs, rfl, rfl, q1, by omega, by omega, ?_, fun p hp => ?_⟩)
      · rw [← r1.length]
        exact lim_line hl.2.2
      · obtain ⟨s1, p1⟩ := alloc (o := .lst (repL vs kk)) e pe hp
        exact h2 F _ s1 p1 _ [p] (got_lst e pe hp (reps_rep r1 _))
theorem s_fdiv (ha : PE X ea (tEv g S E true ia)) (hb : PE X eb (tEv g S E true ib)) : PE X (.BinOp ea .FloorDiv eb pos) (tEv g S E m (.bin .fdiv ia ib)) :=
  s_int2 (by decide) (by decide) op_fdivW (fun i j k h => by
    obtain ⟨h1, h2⟩ := some_if h
    exact ⟨wide_div h1.1 h1.2 (by decide) (by decide), h2⟩) ha hb
theorem s_mod (ha : PE X ea (tEv g S E true ia)) (hb : PE X eb (tEv g S E true ib)) : PE X (.BinOp ea .Mod eb pos) (tEv g S E m (.bin .mod ia ib)) :=
  s_int2 (by decide) (by decide) op_mod (fun i j k h => by
    obtain ⟨h1, h2⟩ := some_if h
    exact ⟨h1, h2⟩) ha hb
theorem s_pow (ha : PE X ea (tEv g S E true ia)) (hb : PE X eb (tEv g S E true ib)) : PE X (.BinOp ea .Pow eb pos) (tEv g S E m (.bin .pow ia ib)) :=
  s_int2 (by decide) (by decide) op_pow (fun i j k h => by
    obtain ⟨h1, h2⟩ := some_if h
    exact ⟨h1, h2⟩) ha hb
/-- one operand -/
theorem s_un {ia : IE} {mb : Bool} {r : V → Hp → VK → Prop} {f : O → M O} {σ : St} {H : Hp} {Q : VK}
    (hr : ∀ x p F H1 Hs v1 f1, Same F H1 → PenAt g F H1 p → Got g mb Hs F H1 x v1 f1 → After g F H1 (WE E σ) (f x p) (fun o p F' H' => ∀ v fp, Got g m H1 F' H' o v fp → Q v H') → r v1 H1 Q)
    (h : ∃ F0 H0 F σO pn, Abs g F0 H0 σ H F σO pn ∧ After g F H (WE E σ) (M.bind (ev S mb ia σO) (fun x => f x) pn) fun o p F' H' => ∀ v fp, Got g m H F' H' o v fp → Q v H') :
    tUn r (tEv g S E mb ia) σ H Q := by
  obtain ⟨F0, H0, F, σO, pn, A, h⟩ := h
  refine ⟨F0, H0, F, σO, pn, A, h.bind.imp fun x p F1 H1 s1 p1 k v1 f1 n1 => ?_⟩
  exact hr x p F1 H1 H v1 f1 s1.fh p1 n1 (k.imp fun o p3 F3 H3 s3 q3 k3 v fp n => k3 v fp (n.back s1 p1))
theorem s_neg (ha : PE X ea (tEv g S E false ia)) : PE X (.UnaryOp .USub ea pos) (tEv g S E m (.neg ia)) :=
  (pe_un un_neg ha).weak fun σ H Q h => by
    simp only [tEv, ev] at h
    refine s_un (f := fun x => M.of (negO x)) (fun x p F H1 Hs v1 f1 e pe n1 k => ?_) h
    obtain ⟨o, h1, h2⟩ := k.now e pe
    unfold negO at h1
    split at h1
    · obtain rfl := int_at n1.rep
      cases h1
      exact ⟨_, rfl, h2 _ [] (Got.fz (.int _))⟩
    · cases h1
end
end Bc
set_option Elab.async false
set_option linter.all false
set_option maxRecDepth 100000
set_option maxHeartbeats 4000000
/-! Part C2. Comparisons, items, slices. -/
namespace Bc
open PySem PySem.Spec L2

/-! ### == of data -/
mutual
theorem Rep.dp {g : GE} {F H : Hp} {K : PySem.W.Frag} (e : Same F H) : ∀ {d : D} {v : V} {n : Nat}, Rep g F d v → cokD n d = true → Dp K H v d.pd
  | _, _, _, .non, _ => .non
  | _, _, _, .bl b, _ => .bl b
  | _, _, _, .int i, _ => .int i
  | _, _, _, .str s, _ => .str _
  | _, _, 0, .lst h r, c => by rw [cokD] at c <;> first | cases c | simp
  | _, _, 0, .tup h r, c => by rw [cokD] at c <;> first | cases c | simp
  | _, _, n + 1, .lst h r, c => by
    rw [cokD] at c
    rw [D.pd]
    exact .lst (SqL.of (e _ _ h)) (r.dp e c)
  | _, _, n + 1, .tup h r, c => by
    rw [cokD] at c
    rw [D.pd]
    exact .tup (SqT.of (e _ _ h)) (r.dp e c)
  | _, _, n, .dK _ _ _ _, c => by cases n <;> cases c
  | _, _, n, .dT _ _ _ _, c => by cases n <;> cases c
  | _, _, n, .obj _ _, c => by cases n <;> cases c
  | _, _, n, .pen, c => by cases n <;> cases c
  | _, _, n, .scr _, c => by cases n <;> cases c
theorem Reps.dp {g : GE} {F H : Hp} {K : PySem.W.Frag} (e : Same F H) : ∀ {ds : List D} {vs : List V} {n : Nat}, Reps g F ds vs → cokDs n ds = true → DpAll K H vs (D.pds ds)
  | _, _, _, .nil, _ => by
    rw [D.pds]
    exact .nil
  | _, _, n, .cons h r, c => by
    rw [cokDs, Bool.and_eq_true] at c
    rw [D.pds]
    exact .cons (h.dp e c.1) (r.dp e c.2)
end
mutual
theorem Own.dp {g : GE} {F H : Hp} {K : PySem.W.Frag} (e : Same F H) : ∀ {o : O} {v : V} {fp : List Addr} {n : Nat}, Own g F H o v fp → cokD n o.toD = true → Dp K H v o.toD.pd
  | _, _, _, n, .fz r, c => by
    rw [O.toD] at c ⊢
    exact r.dp e c
  | _, _, _, 0, .lst h r, c => by
    rw [O.toD, cokD] at c <;> first | cases c | simp
  | _, _, _, n + 1, .lst h r, c => by
    rw [O.toD, cokD] at c
    rw [O.toD, D.pd]
    exact .lst (SqL.of h) (r.dp e c)
  | _, _, _, n, .dK _ _ _ _, c => by
    rw [O.toD] at c
    cases n <;> cases c
  | _, _, _, n, .dT _ _ _ _, c => by
    rw [O.toD] at c
    cases n <;> cases c
  | _, _, _, n, .ins _ _ _, c => by
    rw [O.toD] at c
    cases n <;> cases c
theorem Owns.dp {g : GE} {F H : Hp} {K : PySem.W.Frag} (e : Same F H) : ∀ {os : List O} {vs : List V} {fp : List Addr} {n : Nat}, Owns g F H os vs fp → cokDs n (O.toDs os) = true → DpAll K H vs (D.pds (O.toDs os))
  | _, _, _, _, .nil, _ => by
    rw [O.toDs, D.pds]
    exact .nil
  | _, _, _, n, .cons h r, c => by
    rw [O.toDs, cokDs, Bool.and_eq_true] at c
    rw [O.toDs, D.pds]
    exact .cons (h.dp e c.1) (r.dp e c.2)
end
mutual
theorem cok_lay : ∀ (n : Nat) (d : D), cokD n d = true → PyData.canLay0 d.pd = true ∧ d.pd.depth ≤ n
  | n, .non, _ => by simp [D.pd, PyData.canLay0, PyData.depth]
  | n, .bl b, _ => by simp [D.pd, PyData.canLay0, PyData.depth]
  | n, .int i, _ => by simp [D.pd, PyData.canLay0, PyData.depth]
  | n, .str s, c => by
    have c' : (s.all fun c => decide (c < 0x110000)) = true := by
      cases n <;> (rw [cokD] at c; exact c)
    simp only [D.pd, PyData.canLay0, PyData.depth]
    refine ⟨?_, Nat.zero_le _⟩
    unfold PyData.strOk
    simpa using c'
  | 0, .lst xs, c => by rw [cokD] at c <;> first | cases c | simp
  | 0, .tup xs, c => by rw [cokD] at c <;> first | cases c | simp
  | n + 1, .lst xs, c => by
    rw [cokD] at c
    obtain ⟨h1, h2⟩ := cok_lays n xs c
    simp only [D.pd, PyData.canLay0, PyData.depth]
    exact ⟨h1, by omega⟩
  | n + 1, .tup xs, c => by
    rw [cokD] at c
    obtain ⟨h1, h2⟩ := cok_lays n xs c
    simp only [D.pd, PyData.canLay0, PyData.depth]
    exact ⟨h1, by omega⟩
  | n, .dct _ _ _, c => by cases n <;> cases c
  | n, .obj _ _, c => by cases n <;> cases c
  | n, .pen, c => by cases n <;> cases c
  | n, .scr _, c => by cases n <;> cases c
theorem cok_lays : ∀ (n : Nat) (ds : List D), cokDs n ds = true → PyData.canLayAll0 (D.pds ds) = true ∧ PyData.depthAll (D.pds ds) ≤ n
  | n, [], _ => by simp [D.pds, PyData.canLayAll0, PyData.depthAll]
  | n, d :: ds, c => by
    rw [cokDs, Bool.and_eq_true] at c
    obtain ⟨h1, h2⟩ := cok_lay n d c.1
    obtain ⟨h3, h4⟩ := cok_lays n ds c.2
    simp only [D.pds, PyData.canLayAll0, PyData.depthAll]
    refine ⟨by rw [h1, h3]; rfl, by omega⟩
end
theorem cok_shaped {d : D} (h : cokD 60 d = true) : SeqAt.shaped d.pd = true := by
  obtain ⟨h1, h2⟩ := cok_lay 60 d h
  unfold SeqAt.shaped
  rw [h1, decide_eq_true (show d.pd.depth ≤ 64 by omega)]
  rfl

section
variable {X : Cx} {g : GE} {S : Sem} {E : WX} {m : Bool} {ea eb : Expr} {ia ib : IE} {pos : Pos}
/-- a comparison, by its operator's rule -/
theorem s_cmp {op : CmpOp} {co : CO} {r : R2} (ho : OpR X (compareOp op) r)
    (hr : ∀ x y b F H Hs v1 v2 f1 f2 (Q : VK), Same F H → Got g true Hs F H x v1 f1 → Got g true Hs F H y v2 f2 → cmpO co x y = some b → Q (.bl b) H → r v1 v2 H Q)
    (ha : PE X ea (tEv g S E true ia)) (hb : PE X eb (tEv g S E true ib)) (hm : behindInMarks op eb = false) : PE X (.Compare ea [op] [eb] pos) (tEv g S E m (.cmp co ia ib)) :=
  (pe_cmpR ho ha hb hm).weak fun σ H Q h => by
    simp only [tEv, ev] at h
    refine s_bin2 (f := fun x y => M.of ((cmpO co x y).map fun c => O.fz (.bl c))) (fun x y p F H1 Hs v1 v2 f1 f2 e pe n1 n2 k => ?_) h
    obtain ⟨o, h1, h2⟩ := k.now e pe
    rw [Option.map_eq_some_iff] at h1
    obtain ⟨b, h3, rfl⟩ := h1
    exact hr x y b F H1 Hs v1 v2 f1 f2 Q e n1 n2 h3 (h2 _ [] (Got.fz (.bl _)))
/-- the same as a test -/
theorem t_cmp {op : CmpOp} {co : CO} {r : R2} (ho : OpR X (compareOp op) r)
    (hr : ∀ x y b F H Hs v1 v2 f1 f2 (Q : VK), Same F H → Got g true Hs F H x v1 f1 → Got g true Hs F H y v2 f2 → cmpO co x y = some b → Q (.bl b) H → r v1 v2 H Q)
    (ha : PE X ea (tEv g S E true ia)) (hb : PE X eb (tEv g S E true ib)) (hm : behindInMarks op eb = false) : PT X (.Compare ea [op] [eb] pos) (tEvT g S E (.cmp co ia ib)) :=
  (pt_cmpR ho ha hb hm).weak fun σ H Q h => by
    simp only [tEvT, tB, tEv, ev] at h
    refine s_bin2 (m := false) (f := fun x y => M.of ((cmpO co x y).map fun c => O.fz (.bl c))) (fun x y p F H1 Hs v1 v2 f1 f2 e pe n1 n2 k => ?_) h
    obtain ⟨o, h1, h2⟩ := k.now e pe
    rw [Option.map_eq_some_iff] at h1
    obtain ⟨b, h3, rfl⟩ := h1
    exact hr x y b F H1 Hs v1 v2 f1 f2 _ e n1 n2 h3 (h2 _ [] (Got.fz (.bl _)))
theorem r_eq {x y : O} {b : Bool} {F H Hs : Hp} {v1 v2 : V} {f1 f2 : List Addr} {Q : VK} (e : Same F H) (n1 : Got g true Hs F H x v1 f1) (n2 : Got g true Hs F H y v2 f2) (h : cmpO .eq x y = some b) (q : Q (.bl b) H) : rEqD X.K v1 v2 H Q := by
  unfold cmpO at h
  obtain ⟨h1, h2⟩ := some_if h
  rw [Bool.and_eq_true] at h1
  subst h2
  exact ⟨_, _, n1.own.dp e h1.1, n2.own.dp e h1.2, cok_shaped h1.1, cok_shaped h1.2, q⟩
theorem r_ne {x y : O} {b : Bool} {F H Hs : Hp} {v1 v2 : V} {f1 f2 : List Addr} {Q : VK} (e : Same F H) (n1 : Got g true Hs F H x v1 f1) (n2 : Got g true Hs F H y v2 f2) (h : cmpO .ne x y = some b) (q : Q (.bl b) H) : rNeD X.K v1 v2 H Q := by
  unfold cmpO at h
  obtain ⟨h1, h2⟩ := some_if h
  rw [Bool.and_eq_true] at h1
  subst h2
  exact ⟨_, _, n1.own.dp e h1.1, n2.own.dp e h1.2, cok_shaped h1.1, cok_shaped h1.2, q⟩
/-- order of numbers -/
theorem r_ord {co : CO} {f : Int → Int → Bool} (hf : ∀ x y b, cmpO co x y = some b → ∃ i j, x = .fz (.int i) ∧ y = .fz (.int j) ∧ b = f i j) {x y : O} {b : Bool} {F H Hs : Hp} {v1 v2 : V} {f1 f2 : List Addr} {Q : VK} (n1 : Got g true Hs F H x v1 f1) (n2 : Got g true Hs F H y v2 f2) (h : cmpO co x y = some b) (q : Q (.bl b) H) :
    rI0 (fun i j => .bl (f i j)) v1 v2 H Q := by
  obtain ⟨i, j, rfl, rfl, rfl⟩ := hf x y b h
  obtain rfl := int_at n1.rep
  obtain rfl := int_at n2.rep
  exact ⟨i, j, rfl, rfl, q⟩
theorem ord_at {f : Int → Int → Bool} {x y : O} {b : Bool} (h : ordO f x y = some b) : ∃ i j, x = .fz (.int i) ∧ y = .fz (.int j) ∧ b = f i j := by
  unfold ordO at h
  split at h
  · rename_i i j h1 h2
    exact ⟨i, j, asInt_at h1, asInt_at h2, (Option.some.inj h).symm⟩
  · cases h
theorem isFz_at {x : O} {d : D} (h : x.isFz = some d) : x = .fz d := by
  cases x with
  | fz e =>
    cases h
    rfl
  | lst _ => cases h
  | dct _ _ _ => cases h
  | ins _ _ => cases h
/-! ### in -/
theorem seq_at {F H : Hp} {x : O} {v : V} {fp : List Addr} {ds : List D} {K : PySem.W.Frag} (e : Same F H) (n : Own g F H x v fp) (h : x.seq? = some ds) : ∃ a vs, v = .ref a ∧ (SqL K H a vs ∨ SqT K H a vs) ∧ Reps g F ds vs := by
  unfold O.seq? at h
  split at h
  · rename_i es h1
    cases h
    obtain ⟨a, vs, h2, h3, h4⟩ := lst_at e n h1
    exact ⟨a, vs, h2, .inl (SqL.of h3), h4⟩
  · obtain ⟨a, vs, h2, h3, h4⟩ := tup_at e n h
    exact ⟨a, vs, h2, .inr (SqT.of h3), h4⟩
theorem flat_at {F : Hp} {d : D} {v : V} (r : Rep g F d v) (h : flatD d = true) : flatV v = true := by
  cases r <;> first | rfl | cases h
theorem flats_at {F : Hp} : ∀ {ds : List D} {vs : List V}, Reps g F ds vs → ds.all flatD = true → vs.all flatV = true
  | _, _, .nil, _ => rfl
  | _, _, .cons r t, h => by
    rw [List.all_cons, Bool.and_eq_true] at h ⊢
    exact ⟨flat_at r h.1, flats_at t h.2⟩
theorem str_beq (s t : List Nat) : ((⟨s.toArray⟩ : Str) == (⟨t.toArray⟩ : Str)) = (s == t) := by
  rw [Bool.eq_iff_iff]
  simp
theorem eqV_at {F : Hp} {d e : D} {v w : V} (r : Rep g F d v) (q : Rep g F e w) (h1 : flatD d = true) (h2 : flatD e = true) : eqV v w = eqD d e := by
  cases r <;> first | (cases h1; done) | skip
  all_goals (cases q <;> first | (cases h2; done) | skip)
  all_goals (simp [eqV, eqD, D.pd, PyData.eqv]; done)
theorem inV_at {F : Hp} {d : D} {v : V} (r : Rep g F d v) (h : flatD d = true) : ∀ {ds : List D} {vs : List V}, Reps g F ds vs → ds.all flatD = true → inV v vs = inD d ds
  | _, _, .nil, _ => rfl
  | _, _, .cons q t, k => by
    rw [List.all_cons, Bool.and_eq_true] at k
    unfold inV inD
    rw [List.any_cons, List.any_cons, eqV_at q r k.1 h]
    have ih := inV_at r h t k.2
    unfold inV inD at ih
    rw [ih]
/-- what a dict of ours holds -/
theorem dlook_K {F : Hp} {kvs : List (Key × V)} {k : DK} (hk : k.atom = true) : ∀ {ks : List DK} {ds : List D}, kvs.map Prod.fst = ks.map DK.key → ks.all DK.atom = true → Reps g F ds (kvs.map Prod.snd) →
    (dlook ks ds k = none ∧ valV kvs k.key = none) ∨ ∃ d v, dlook ks ds k = some d ∧ valV kvs k.key = some v ∧ Rep g F d v := by
  induction kvs with
  | nil =>
    intro ks ds h1 h2 r
    cases ks with
    | nil => exact .inl ⟨rfl, rfl⟩
    | cons _ _ => cases h1
  | cons p r ih =>
    intro ks ds h1 h2 q
    cases ks with
    | nil => cases h1
    | cons k' ks =>
      rw [List.map_cons, List.map_cons, List.cons.injEq] at h1
      rw [List.all_cons, Bool.and_eq_true] at h2
      rw [List.map_cons] at q
      cases q with
      | cons qd qt =>
        rename_i d ds
        unfold dlook
        rw [List.zip_cons_cons, List.lookup_cons]
        by_cases e : k = k'
        · subst e
          rw [beq_self_eq_true]
          exact .inr ⟨d, p.2, rfl, valV_pos h1.1, qd⟩
        · rw [show (k == k') = false from beq_eq_false_iff_ne.mpr e]
          have ne : ¬ p.1 = k.key := fun z => e (DK.key_inj hk h2.1 (z.symm.trans h1.1))
          rw [valV_neg ne]
          exact ih h1.2 h2.2 qt
theorem dlook_T {F : Hp} {kvs : List (List Key × V)} {k : DK} (hk : k.atom = false) : ∀ {ks : List DK} {ds : List D}, kvs.map Prod.fst = ks.map DK.keyT → ks.all (fun k => !k.atom) = true → Reps g F ds (kvs.map Prod.snd) →
    (dlook ks ds k = none ∧ valV kvs k.keyT = none) ∨ ∃ d v, dlook ks ds k = some d ∧ valV kvs k.keyT = some v ∧ Rep g F d v := by
  induction kvs with
  | nil =>
    intro ks ds h1 h2 r
    cases ks with
    | nil => exact .inl ⟨rfl, rfl⟩
    | cons _ _ => cases h1
  | cons p r ih =>
    intro ks ds h1 h2 q
    cases ks with
    | nil => cases h1
    | cons k' ks =>
      rw [List.map_cons, List.map_cons, List.cons.injEq] at h1
      rw [List.all_cons, Bool.and_eq_true, Bool.not_eq_true'] at h2
      rw [List.map_cons] at q
      cases q with
      | cons qd qt =>
        rename_i d ds
        unfold dlook
        rw [List.zip_cons_cons, List.lookup_cons]
        by_cases e : k = k'
        · subst e
          rw [beq_self_eq_true]
          exact .inr ⟨d, p.2, rfl, valV_pos h1.1, qd⟩
        · rw [show (k == k') = false from beq_eq_false_iff_ne.mpr e]
          have ne : ¬ p.1 = k.keyT := fun z => e (DK.keyT_inj hk h2.1 (z.symm.trans h1.1))
          rw [valV_neg ne]
          exact ih h1.2 h2.2 qt
theorem keys_at {F : Hp} : ∀ {ds : List D} {vs : List V} {ks : List (Sum Int (List Nat))}, Reps g F ds vs → atomKs ds = some ks → vs = (ks.map kAtom).map kV
  | _, _, ks, .nil, h => by
    cases h
    rfl
  | d :: ds, _, ks, .cons q t, h => by
    rw [atomKs] at h
    split at h
    · rename_i k' ks' h3 h4
      cases h
      rw [List.map_cons, List.map_cons, ← keys_at t h4]
      congr 1
      cases q <;> first | (cases h3; rfl) | cases h3
    · cases h
/-- a key as a value -/
theorem key_at {F H : Hp} {d : D} {v : V} {k : DK} (e : Same F H) (r : Rep g F d v) (h : keyOf d = some k) : (k.atom = true ∧ v = kV k.key) ∨ (k.atom = false ∧ ∃ b, v = .ref b ∧ H b = some (.tup (k.keyT.map kV))) := by
  cases r with
  | int i =>
    cases h
    exact .inl ⟨rfl, rfl⟩
  | str s =>
    cases h
    exact .inl ⟨rfl, rfl⟩
  | tup h1 r1 =>
    unfold keyOf at h
    rw [Option.map_eq_some_iff] at h
    obtain ⟨ks, h2, rfl⟩ := h
    refine .inr ⟨rfl, _, rfl, ?_⟩
    rw [e _ _ h1]
    congr 2
    exact keys_at r1 h2
  | non => cases h
  | bl _ => cases h
  | lst _ _ => cases h
  | dK _ _ _ _ => cases h
  | dT _ _ _ _ => cases h
  | obj _ _ => cases h
  | pen => cases h
  | scr _ => cases h
/-- a dict read at a key -/
theorem dct_at {F H : Hp} {y : O} {v2 v1 : V} {fp : List Addr} {t : Bool × List DK × List D} {d : D} {k : DK} (e : Same F H) (n : Own g F H y v2 fp) (h : y.dct? = some t) (r : Rep g F d v1) (hk : keyOf d = some k) (ha : k.atom = !t.1) :
    ∃ a, v2 = .ref a ∧ ((dlook t.2.1 t.2.2 k = none ∧ DGet H a v1 none) ∨ ∃ x w, dlook t.2.1 t.2.2 k = some x ∧ DGet H a v1 (some w) ∧ Rep g F x w) := by
  have useK : ∀ {a : Addr} {kvs : List (Key × V)} {ks : List DK} {ds : List D}, H a = some (.dK kvs) → kvs.map Prod.fst = ks.map DK.key → ks.all DK.atom = true → Reps g F ds (kvs.map Prod.snd) → k.atom = true →
      ((dlook ks ds k = none ∧ DGet H a v1 none) ∨ ∃ x w, dlook ks ds k = some x ∧ DGet H a v1 (some w) ∧ Rep g F x w) := by
    intro a kvs ks ds h1 h2 h3 h4 h5
    rcases key_at e r hk with ⟨_, rfl⟩ | ⟨z, _⟩
    · rcases dlook_K h5 h2 h3 h4 with ⟨q1, q2⟩ | ⟨x, w, q1, q2, q3⟩
      · exact .inl ⟨q1, by rw [← q2]; exact DGet.k h1⟩
      · exact .inr ⟨x, w, q1, by rw [← q2]; exact DGet.k h1, q3⟩
    · rw [h5] at z
      cases z
  have useT : ∀ {a : Addr} {kvs : List (List Key × V)} {ks : List DK} {ds : List D}, H a = some (.dT kvs) → kvs.map Prod.fst = ks.map DK.keyT → ks.all (fun k => !k.atom) = true → Reps g F ds (kvs.map Prod.snd) → k.atom = false →
      ((dlook ks ds k = none ∧ DGet H a v1 none) ∨ ∃ x w, dlook ks ds k = some x ∧ DGet H a v1 (some w) ∧ Rep g F x w) := by
    intro a kvs ks ds h1 h2 h3 h4 h5
    rcases key_at e r hk with ⟨z, _⟩ | ⟨_, b, rfl, hb⟩
    · rw [h5] at z
      cases z
    · rcases dlook_T h5 h2 h3 h4 with ⟨q1, q2⟩ | ⟨x, w, q1, q2, q3⟩
      · exact .inl ⟨q1, by rw [← q2]; exact DGet.t h1 hb⟩
      · exact .inr ⟨x, w, q1, by rw [← q2]; exact DGet.t h1 hb, q3⟩
  cases n with
  | fz q =>
    cases q with
    | dK h1 h2 h3 h4 =>
      cases h
      exact ⟨_, rfl, useK (e _ _ h1) h2 h3 h4 (by simpa using ha)⟩
    | dT h1 h2 h3 h4 =>
      cases h
      exact ⟨_, rfl, useT (e _ _ h1) h2 h3 h4 (by simpa using ha)⟩
    | non => cases h
    | bl _ => cases h
    | int _ => cases h
    | str _ => cases h
    | lst _ _ => cases h
    | tup _ _ => cases h
    | obj _ _ => cases h
    | pen => cases h
    | scr _ => cases h
  | lst _ _ => cases h
  | dK h1 h2 h3 h4 =>
    cases h
    exact ⟨_, rfl, useK h1 h2 h3 h4 (by simpa using ha)⟩
  | dT h1 h2 h3 h4 =>
    cases h
    exact ⟨_, rfl, useT h1 h2 h3 h4 (by simpa using ha)⟩
  | ins _ _ => cases h
def rDIn (neg : Bool) : R2 := fun x y H Q => ∃ a o, y = .ref a ∧ DGet H a x o ∧ Q (.bl (if neg then !o.isSome else o.isSome)) H
theorem op_inD (hu : X.A.units + 1 < cLine) : OpR X (compareOp .In) (rDIn false) := by
  rintro pins s σ H x y v u Q I rx ry ⟨a, o, rfl, hd, q⟩
  obtain rfl : u = Value.ref a := ry
  exact d_in hu I hd rx fun s3 I3 => ⟨.bl o.isSome, H, I3, rfl, q⟩
theorem op_notInD (hu : X.A.units + 1 < cLine) : OpR X (compareOp .NotIn) (rDIn true) := by
  rintro pins s σ H x y v u Q I rx ry ⟨a, o, rfl, hd, q⟩
  obtain rfl : u = Value.ref a := ry
  exact d_notIn hu I hd rx fun s3 I3 => ⟨.bl (!o.isSome), H, I3, rfl, q⟩
def rSign (neg : Bool) : R2 := fun x y H Q => ∃ (c : Nat) (z : Str), x = .str ⟨#[c]⟩ ∧ y = .str z ∧ Q (.bl (if neg then !decide (c ∈ z.cps.toList) else decide (c ∈ z.cps.toList))) H
theorem op_inS : OpR X (compareOp .In) (rSign false) := op_in_sign
theorem op_notInS : OpR X (compareOp .NotIn) (rSign true) := op_notIn_sign
def rInA (K : PySem.W.Frag) (neg : Bool) : R2 := fun x y H Q => rIn K neg x y H Q ∨ rDIn neg x y H Q ∨ rSign neg x y H Q
theorem op_inA (hu : X.A.units + 1 < cLine) : OpR X (compareOp .In) (rInA X.K false) := op_in_seq.or ((op_inD hu).or op_inS)
theorem op_notInA (hu : X.A.units + 1 < cLine) : OpR X (compareOp .NotIn) (rInA X.K true) := op_notIn_seq.or ((op_notInD hu).or op_notInS)
theorem r_in {neg : Bool} {x y : O} {b : Bool} {F H Hs : Hp} {v1 v2 : V} {f1 f2 : List Addr} {Q : VK} (e : Same F H) (n1 : Got g true Hs F H x v1 f1) (n2 : Got g true Hs F H y v2 f2) (h : inO x y = some b) (q : Q (.bl (if neg then !b else b)) H) : rInA X.K neg v1 v2 H Q := by
  unfold inO at h
  split at h
  · cases h
  · rename_i d h1
    obtain rfl := isFz_at h1
    split at h
    · rename_i ds h2
      unfold inSeq at h
      obtain ⟨h3, rfl⟩ := some_if h
      rw [Bool.and_eq_true] at h3
      obtain ⟨a, vs, rfl, h4, r⟩ := seq_at (K := X.K) e n2.own h2
      refine .inl ⟨a, vs, rfl, h4, flat_at n1.rep h3.1, flats_at r h3.2, ?_⟩
      rw [inV_at n1.rep h3.1 r h3.2]
      exact q
    · split at h
      · rename_i t h2
        unfold inDct at h
        split at h
        · rename_i k hk
          obtain ⟨h3, rfl⟩ := some_if h
          obtain ⟨a, rfl, h4⟩ := dct_at e n2.own h2 n1.rep hk h3
          rcases h4 with ⟨h5, h6⟩ | ⟨x, w, h5, h6, _⟩
          · refine .inr (.inl ⟨a, none, rfl, h6, ?_⟩)
            rw [h5] at q
            exact q
          · refine .inr (.inl ⟨a, some w, rfl, h6, ?_⟩)
            rw [h5] at q
            exact q
        · cases h
      · split at h
        · rename_i c s h2 h3
          unfold sign? at h2
          split at h2
          · rename_i c' hx
            cases h2
            unfold text? at h3
            split at h3
            · rename_i s'
              cases h3
              obtain rfl := str_at n2.rep
              cases hx
              obtain rfl := str_at n1.rep
              cases h
              exact .inr (.inr ⟨c, _, rfl, rfl, q⟩)
            · cases h3
          · cases h2
        · cases h
theorem r_isn {x y : O} {b : Bool} {F H Hs : Hp} {v1 v2 : V} {f1 f2 : List Addr} {Q : VK} (n1 : Got g true Hs F H x v1 f1) (n2 : Got g true Hs F H y v2 f2) (h : isnO x y = some b) : v2 = .non ∧ decide (v1 = .non) = b := by
  unfold isnO at h
  split at h
  · cases h
    refine ⟨by cases n2.rep; rfl, ?_⟩
    cases n1.rep <;> rfl
  · cases h

/-! ### a[b] -/
def rDGet : R2 := fun x y H Q => ∃ a v, x = .ref a ∧ DGet H a y (some v) ∧ Q v H
theorem ix_dct (hu : X.A.units + 1 < cLine) : IxR X rDGet := by
  rintro value slice pins s σ H x y v u Q I rx ry ⟨a, w, rfl, hd, q⟩ hs
  obtain rfl : v = Value.ref a := rx
  exact PyProof.Rows.tail_any (dict_typeIs I hd) PySem.F.slot_dict_getitem.lookup (d_getItem hu I hd ry fun w' s3 I3 rw' => ⟨w, H, I3, rw', q⟩) hs
def rIxA (K : PySem.W.Frag) : R2 := fun x y H Q => rIx K x y H Q ∨ rDGet x y H Q
theorem ix_any (hu : X.A.units + 1 < cLine) : IxR X (rIxA X.K) := ix_seq.or (ix_dct hu)
theorem atI_reps {F : Hp} {ds : List D} {vs : List V} {i : Int} {d : D} (r : Reps g F ds vs) (h : atI ds i = some d) : ∃ v, atI vs i = some v ∧ Rep g F d v := by
  unfold atI at h ⊢
  rw [Option.bind_eq_some_iff] at h
  obtain ⟨j, h1, h2⟩ := h
  obtain ⟨v, h3, h4⟩ := r.get h2
  exact ⟨v, by rw [← r.length, h1]; exact h3, h4⟩
theorem atI_owns {F H : Hp} {os : List O} {vs : List V} {fp : List Addr} {i : Int} {o : O} (r : Owns g F H os vs fp) (h : atI os i = some o) : ∃ v f, atI vs i = some v ∧ Own g F H o v f ∧ ∀ a ∈ f, a ∈ fp := by
  unfold atI at h ⊢
  rw [Option.bind_eq_some_iff] at h
  obtain ⟨j, h1, h2⟩ := h
  obtain ⟨v, f, h3, h4, h5⟩ := r.get h2
  exact ⟨v, f, by rw [← r.length, h1]; exact h3, h4, h5⟩
theorem s_ix (hu : X.A.units + 1 < cLine) (ha : PE X ea (tEv g S E true ia)) (hb : PE X eb (tEv g S E false ib)) (hp : PlainIx eb) : PE X (.Subscript ea eb pos) (tEv g S E m (.sub ia ib)) :=
  (pe_ix (ix_any hu) ha hb hp).weak fun σ H Q h => by
    simp only [tEv, ev] at h
    refine s_bin2 (f := fun x y => M.bind (M.of (subO x y)) fun r => M.of (view m r)) (fun x y p F H1 Hs v1 v2 f1 f2 e pe n1 n2 k => ?_) h
    obtain ⟨o, h1, h2⟩ := k.bind.now e pe
    obtain ⟨o', h3, h4⟩ := h2.now e pe
    have fin : ∀ v f, Got g true H1 F H1 o v f → Q v H1 := fun v f n => h4 v f (view_got h3 n)
    unfold subO at h1
    split at h1
    · rename_i t ht
      split at h1
      · rename_i d hd
        obtain rfl := isFz_at hd
        split at h1
        · rename_i k hk
          unfold subK at h1
          split at h1
          · rename_i hak
            rw [Option.map_eq_some_iff] at h1
            obtain ⟨x2, h5, rfl⟩ := h1
            obtain ⟨a, rfl, h6⟩ := dct_at e n1.own ht n2.rep hk hak
            rcases h6 with ⟨h7, _⟩ | ⟨x3, w, h7, h8, h9⟩
            · rw [h7] at h5
              cases h5
            · rw [h7] at h5
              cases h5
              exact .inr ⟨a, w, rfl, h8, fin w [] (Got.fz h9)⟩
          · cases h1
        · cases h1
      · cases h1
    · split at h1
      · rename_i i hi
        obtain rfl := asInt_at hi
        obtain rfl := int_at n2.rep
        unfold subI at h1
        split at h1
        · rw [Option.map_eq_some_iff] at h1
          obtain ⟨d, h5, rfl⟩ := h1
          cases n1.rep with
          | lst q1 r1 =>
            obtain ⟨w, h6, h7⟩ := atI_reps r1 h5
            exact .inl (.inl ⟨_, _, i, w, rfl, rfl, SqL.of (e _ _ q1), h6, fin w [] (Got.fz h7)⟩)
        · rw [Option.map_eq_some_iff] at h1
          obtain ⟨d, h5, rfl⟩ := h1
          cases n1.rep with
          | tup q1 r1 =>
            obtain ⟨w, h6, h7⟩ := atI_reps r1 h5
            exact .inl (.inr (.inl ⟨_, _, i, w, rfl, rfl, SqT.of (e _ _ q1), h6, fin w [] (Got.fz h7)⟩))
        · split at h1
          · rename_i hl
            rw [Option.map_eq_some_iff] at h1
            obtain ⟨c, h5, rfl⟩ := h1
            obtain rfl := str_at n1.rep
            refine .inl (.inr (.inr ⟨_, i, c, rfl, rfl, ?_, h5, fin _ [] (Got.fz (.str [c]))⟩))
            rw [str_len]
            exact lim_line hl
          · cases h1
        · cases n1.own with
          | lst q1 r1 =>
            obtain ⟨w, f, h6, h7, h8⟩ := atI_owns r1 h1
            exact .inl (.inl ⟨_, _, i, w, rfl, rfl, SqL.of q1, h6, fin w f ⟨h7, fun a ha => n1.np a (List.mem_cons_of_mem _ (h8 a ha)), fun z => nomatch z⟩⟩)
        · cases h1
      · cases h1
end
end Bc
set_option Elab.async false
set_option linter.all false
set_option maxRecDepth 100000
set_option maxHeartbeats 4000000
/-! Part C3. and, or, not, if-else, chains, fields, argument lists, displays, calls. -/
namespace Bc
open PySem PySem.Spec L2

/-! ### shapes of expressions -/
def isStarE : Expr → Bool
  | .Starred _ _ => true
  | _ => false
def isCall0 : Expr → Bool
  | .Call _ _ _ _ => true
  | _ => false
def isSliceE : Expr → Bool
  | .Slice _ _ _ _ => true
  | _ => false
def isSetE : Expr → Bool
  | .Set _ _ _ => true
  | _ => false
def isCompE : Expr → Bool
  | .ListComp _ _ _ _ => true
  | .SetComp _ _ _ _ => true
  | .DictComp _ _ _ _ _ => true
  | _ => false
/-- tests that are read in their own way -/
def isTestE : Expr → Bool
  | .UnaryOp _ _ _ => true
  | .BoolOp _ _ _ => true
  | .IfExp _ _ _ _ => true
  | .Compare _ _ _ _ => true
  | _ => false
theorem star_eq {e : Expr} {es : List Expr} {env : Env} (h : isStarE e = false) : starEach (e :: es) env = (false, eval e env) :: starEach es env := by
  cases e <;> first | rfl | cases h
theorem star_plain {env : Env} {pos : Pos} : ∀ {es : List Expr}, es.all (fun e => !isStarE e) = true → (backTo pos (starEach es env)).any (·.1) = false
  | [], _ => rfl
  | e :: es, h => by
    rw [List.all_cons, Bool.and_eq_true, Bool.not_eq_true'] at h
    rw [star_eq h.1]
    show (false || (backTo pos (starEach es env)).any (·.1)) = false
    rw [star_plain h.2]
    rfl
theorem attr_eq {e : Expr} {f : Str} {env : Env} {w : PySem.Sem Value} (h : isCall0 e = false) : attributeBase e f env w = w := by
  cases e <;> first | rfl | cases h
theorem ix_plain {e : Expr} (h : isSliceE e = false) : PlainIx e := by
  intro o i
  cases e <;> first | rfl | cases h
theorem set_plain {e : Expr} {op : CmpOp} (h : isSetE e = false) : behindInMarks op e = false := by
  cases e <;> first | rfl | cases h
theorem test_plain {e : Expr} {env : Env} (h : isTestE e = false) : ∀ whole, isTrue e env whole = (do let v ← whole; standAt e.pos; holding [v] (truthy v)) := by
  intro whole
  cases e <;> first | rfl | cases h
theorem swap_none {e : Expr} {t : Option Expr} {l : Nat} {env : Env} (h : isCompE e = false) : swapsWith e t l env = pure false := by
  cases e <;> first | rfl | cases h

section
variable {X : Cx} {g : GE} {S : Sem} {E : WX} {m : Bool} {ea eb ec : Expr} {ia ib ic : IE} {pos : Pos}
theorem bl?_at {x : O} {c : Bool} (h : bl? x = some c) : x = .fz (.bl c) := by
  unfold bl? at h
  split at h
  · rw [Option.some.inj h]
  · cases h
theorem After.bl {F H : Hp} {Ek : XK} {α : Type} {x : O} {f : Bool → M α} {pn : Pen} {K : α → Pen → Hp → Hp → Prop} (h : After g F H Ek (M.bind (asBl x) f pn) K) (e : Same F H) (p : PenAt g F H pn) : ∃ c, x = .fz (.bl c) ∧ After g F H Ek (f c pn) K := by
  obtain ⟨c, h1, h2⟩ := h.bind.now e p
  exact ⟨c, bl?_at h1, h2⟩
theorem s_and {rest : List Expr} (ha : PE X ea (tEv g S E false ia)) (hb : PE X (.BoolOp .And (eb :: rest) pos) (tEv g S E false ib)) : PE X (.BoolOp .And (ea :: eb :: rest) pos) (tEv g S E m (.and_ ia ib)) :=
  (pe_and ha hb).weak fun σ H Q ⟨F0, H0, F, σO, pn, A, h⟩ => by
    rw [ev] at h
    refine ⟨F0, H0, F, σO, pn, A, h.bind.imp fun x p F1 H1 s1 p1 k v1 f1 n1 => ?_⟩
    obtain ⟨c, rfl, kk⟩ := k.bl s1.fh p1
    refine ⟨c, bl_at n1.rep, ?_⟩
    cases c with
    | true =>
      simp only [if_true] at kk ⊢
      refine ⟨F0, H0, F1, σO, p, A.step s1 p1, kk.bind.imp fun y p2 F2 H2 s2 q2 k2 v2 f2 n2 => ?_⟩
      obtain ⟨b, rfl, k3⟩ := k2.bl s2.fh q2
      exact k3.ret s2.fh q2 v2 [] (Got.fz n2.rep)
    | false =>
      simp only [Bool.false_eq_true, if_false] at kk ⊢
      exact kk.ret s1.fh p1 _ [] (Got.fz (.bl _))
theorem s_or {rest : List Expr} (ha : PE X ea (tEv g S E false ia)) (hb : PE X (.BoolOp .Or (eb :: rest) pos) (tEv g S E false ib)) : PE X (.BoolOp .Or (ea :: eb :: rest) pos) (tEv g S E m (.or_ ia ib)) :=
  (pe_or ha hb).weak fun σ H Q ⟨F0, H0, F, σO, pn, A, h⟩ => by
    rw [ev] at h
    refine ⟨F0, H0, F, σO, pn, A, h.bind.imp fun x p F1 H1 s1 p1 k v1 f1 n1 => ?_⟩
    obtain ⟨c, rfl, kk⟩ := k.bl s1.fh p1
    refine ⟨c, bl_at n1.rep, ?_⟩
    cases c with
    | true =>
      simp only [if_true] at kk ⊢
      exact kk.ret s1.fh p1 _ [] (Got.fz (.bl _))
    | false =>
      simp only [Bool.false_eq_true, if_false] at kk ⊢
      refine ⟨F0, H0, F1, σO, p, A.step s1 p1, kk.bind.imp fun y p2 F2 H2 s2 q2 k2 v2 f2 n2 => ?_⟩
      obtain ⟨b, rfl, k3⟩ := k2.bl s2.fh q2
      exact k3.ret s2.fh q2 v2 [] (Got.fz n2.rep)
theorem s_not (ha : PE X ea (tEv g S E false ia)) : PE X (.UnaryOp .Not ea pos) (tEv g S E m (.not_ ia)) :=
  (pe_not ha).weak fun σ H Q ⟨F0, H0, F, σO, pn, A, h⟩ => by
    rw [ev] at h
    refine ⟨F0, H0, F, σO, pn, A, h.bind.imp fun x p F1 H1 s1 p1 k v1 f1 n1 => ?_⟩
    obtain ⟨c, rfl, kk⟩ := k.bl s1.fh p1
    exact ⟨c, bl_at n1.rep, kk.ret s1.fh p1 _ [] (Got.fz (.bl _))⟩
/-- a one-item and, or -/
theorem s_one {op : BoolOp} (ha : PE X ea (tEv g S E m ia)) : PE X (.BoolOp op [ea] pos) (tEv g S E m ia) := pe_one ha
/-- what a test tells -/
theorem tT_of {ia : IE} {σ : St} {H : Hp} {Q : Bool → Hp → Prop} (h : ∃ F0 H0 F σO pn, Abs g F0 H0 σ H F σO pn ∧ After g F H (WE E σ) (M.bind (ev S false ia σO) asBl pn) fun c p F' H' => Q c H') : tEvT g S E ia σ H Q := by
  obtain ⟨F0, H0, F, σO, pn, A, h⟩ := h
  refine ⟨F0, H0, F, σO, pn, A, h.bind.imp fun x p F1 H1 s1 p1 k v1 f1 n1 => ?_⟩
  obtain ⟨c, h1, h2⟩ := k.now s1.fh p1
  obtain rfl := bl?_at h1
  exact ⟨c, bl_at n1.rep, h2⟩
theorem of_tT {ia : IE} {σ : St} {H : Hp} {Q : Bool → Hp → Prop} (h : tEvT g S E ia σ H Q) : ∃ F0 H0 F σO pn, Abs g F0 H0 σ H F σO pn ∧ After g F H (WE E σ) (ev S false ia σO pn) fun o p F' H' => ∀ v fp, Got g false H F' H' o v fp → ∃ c, v = .bl c ∧ Q c H' := h
theorem t_and {rest : List Expr} (ha : PT X ea (tEvT g S E ia)) (hb : PW X (.BoolOp .And (eb :: rest) pos) (tEvT g S E ib)) : PW X (.BoolOp .And (ea :: eb :: rest) pos) (tEvT g S E (.and_ ia ib)) :=
  (pw_and ha hb).weak fun σ H Q ⟨F0, H0, F, σO, pn, A, h⟩ => by
    rw [ev] at h
    refine ⟨F0, H0, F, σO, pn, A, h.bind.imp fun x p F1 H1 s1 p1 k v1 f1 n1 => ?_⟩
    obtain ⟨c, rfl, kk⟩ := k.bl s1.fh p1
    refine ⟨c, bl_at n1.rep, ?_⟩
    cases c with
    | true =>
      simp only [if_true] at kk ⊢
      refine ⟨F0, H0, F1, σO, p, A.step s1 p1, kk.bind.imp fun y p2 F2 H2 s2 q2 k2 v2 f2 n2 => ?_⟩
      obtain ⟨b, rfl, k3⟩ := k2.bl s2.fh q2
      exact k3.ret s2.fh q2 v2 [] (Got.fz n2.rep)
    | false =>
      simp only [Bool.false_eq_true, if_false] at kk ⊢
      obtain ⟨c, hc, q⟩ := kk.ret s1.fh p1 _ [] (Got.fz (.bl _))
      cases hc
      exact q
theorem t_or {rest : List Expr} (ha : PT X ea (tEvT g S E ia)) (hb : PW X (.BoolOp .Or (eb :: rest) pos) (tEvT g S E ib)) : PW X (.BoolOp .Or (ea :: eb :: rest) pos) (tEvT g S E (.or_ ia ib)) :=
  (pw_or ha hb).weak fun σ H Q ⟨F0, H0, F, σO, pn, A, h⟩ => by
    rw [ev] at h
    refine ⟨F0, H0, F, σO, pn, A, h.bind.imp fun x p F1 H1 s1 p1 k v1 f1 n1 => ?_⟩
    obtain ⟨c, rfl, kk⟩ := k.bl s1.fh p1
    refine ⟨c, bl_at n1.rep, ?_⟩
    cases c with
    | true =>
      simp only [if_true] at kk ⊢
      obtain ⟨c, hc, q⟩ := kk.ret s1.fh p1 _ [] (Got.fz (.bl _))
      cases hc
      exact q
    | false =>
      simp only [Bool.false_eq_true, if_false] at kk ⊢
      refine ⟨F0, H0, F1, σO, p, A.step s1 p1, kk.bind.imp fun y p2 F2 H2 s2 q2 k2 v2 f2 n2 => ?_⟩
      obtain ⟨b, rfl, k3⟩ := k2.bl s2.fh q2
      exact k3.ret s2.fh q2 v2 [] (Got.fz n2.rep)
theorem t_not (ha : PT X ea (tEvT g S E ia)) : PT X (.UnaryOp .Not ea pos) (tEvT g S E (.not_ ia)) :=
  (pt_not ha).weak fun σ H Q ⟨F0, H0, F, σO, pn, A, h⟩ => by
    rw [ev] at h
    refine ⟨F0, H0, F, σO, pn, A, h.bind.imp fun x p F1 H1 s1 p1 k v1 f1 n1 => ?_⟩
    obtain ⟨c, rfl, kk⟩ := k.bl s1.fh p1
    obtain ⟨c', hc, q⟩ := kk.ret s1.fh p1 _ [] (Got.fz (.bl _))
    cases hc
    exact ⟨c, bl_at n1.rep, q⟩
/-- any other expression as a test -/
theorem t_val (ha : PE X ea (tEv g S E false ia)) (h : isTestE ea = false) : PT X ea (tEvT g S E ia) := pt_val ha (test_plain h)
theorem s_ite (hc : PT X ec (tEvT g S E ic)) (ha : PE X ea (tEv g S E m ia)) (hb : PE X eb (tEv g S E m ib)) : PE X (.IfExp ec ea eb pos) (tEv g S E m (.ite ic ia ib)) :=
  (pe_ifExp hc ha hb).weak fun σ H Q ⟨F0, H0, F, σO, pn, A, h⟩ => by
    rw [ev] at h
    refine ⟨F0, H0, F, σO, pn, A, h.bind.imp fun x p F1 H1 s1 p1 k v1 f1 n1 => ?_⟩
    obtain ⟨c, rfl, kk⟩ := k.bl s1.fh p1
    refine ⟨c, bl_at n1.rep, ?_⟩
    cases c with
    | true =>
      simp only [if_true] at kk ⊢
      exact ⟨F0, H0, F1, σO, p, A.step s1 p1, kk.imp fun y p2 F2 H2 s2 q2 k2 v2 f2 n2 => k2 v2 f2 (n2.back s1 p1)⟩
    | false =>
      simp only [Bool.false_eq_true, if_false] at kk ⊢
      exact ⟨F0, H0, F1, σO, p, A.step s1 p1, kk.imp fun y p2 F2 H2 s2 q2 k2 v2 f2 n2 => k2 v2 f2 (n2.back s1 p1)⟩
/-- what a comparison's rule asks, of what is looked at -/
def CmpAt (X : Cx) (g : GE) (op : CmpOp) (co : CO) (r : R2) : Prop := OpR X (compareOp op) r ∧
  ∀ x y b F H Hs v1 v2 f1 f2 (Q : VK), Same F H → Got g true Hs F H x v1 f1 → Got g true Hs F H y v2 f2 → cmpO co x y = some b → Q (.bl b) H → r v1 v2 H Q
theorem chain_in {r1 r2 : R2} {op1 op2 : CmpOp} {c1 c2 : CO} (h1 : CmpAt X g op1 c1 r1) (h2 : CmpAt X g op2 c2 r2) {σ : St} {H : Hp} {Q : VK} (h : tEv g S E m (.chain c1 c2 ia ib ic) σ H Q) : tChain r1 r2 (tEv g S E true ia) (tEv g S E true ib) (tEv g S E true ic) σ H Q := by
  obtain ⟨F0, H0, F, σO, pn, A, h⟩ := h
  rw [ev] at h
  refine ⟨F0, H0, F, σO, pn, A, h.bind.imp fun x p F1 H1 s1 p1 k v1 f1 n1 => ?_⟩
  refine ⟨F0, H0, F1, σO, p, A.step s1 p1, k.bind.imp fun y p' F2 H2 s2 p2 k2 v2 f2 n2 => ?_⟩
  obtain ⟨b, h3, k3⟩ := k2.bind.now s2.fh p2
  have m1 : Got g true H2 F2 H2 x v1 f1 := ⟨(n1.step s2).own, n1.np, fun z => nomatch z⟩
  have m2 : Got g true H2 F2 H2 y v2 f2 := ⟨n2.own, n2.np, fun z => nomatch z⟩
  refine h1.2 x y b F2 H2 H2 v1 v2 f1 f2 _ s2.fh m1 m2 h3 ⟨b, rfl, ?_⟩
  cases b with
  | true =>
    simp only [if_true] at k3 ⊢
    refine ⟨F0, H0, F2, σO, p', (A.step s1 p1).step s2 p2, k3.bind.imp fun z p3 F3 H3 s3 q3 k4 v3 f3 n3 => ?_⟩
    obtain ⟨o, h4, k5⟩ := k4.now s3.fh q3
    rw [Option.map_eq_some_iff] at h4
    obtain ⟨b', h5, rfl⟩ := h4
    exact h2.2 y z b' F3 H3 H3 v2 v3 f2 f3 _ s3.fh ⟨(m2.step s3).own, n2.np, fun z => nomatch z⟩ ⟨n3.own, n3.np, fun z => nomatch z⟩ h5 (k5 _ [] (Got.fz (.bl _)))
  | false =>
    simp only [Bool.false_eq_true, if_false] at k3 ⊢
    exact k3.ret s2.fh p2 _ [] (Got.fz (.bl _))
theorem s_chain {r1 r2 : R2} {op1 op2 : CmpOp} {c1 c2 : CO} (h1 : CmpAt X g op1 c1 r1) (h2 : CmpAt X g op2 c2 r2) (ha : PE X ea (tEv g S E true ia)) (hb : PE X eb (tEv g S E true ib)) (hc : PE X ec (tEv g S E true ic)) (hm : lastMarks [op1, op2] [eb, ec] = false) :
    PE X (.Compare ea [op1, op2] [eb, ec] pos) (tEv g S E m (.chain c1 c2 ia ib ic)) := (pe_chain h1.1 h2.1 ha hb hc hm).weak fun σ H Q h => chain_in h1 h2 h
theorem t_chain {r1 r2 : R2} {op1 op2 : CmpOp} {c1 c2 : CO} (h1 : CmpAt X g op1 c1 r1) (h2 : CmpAt X g op2 c2 r2) (ha : PE X ea (tEv g S E true ia)) (hb : PE X eb (tEv g S E true ib)) (hc : PE X ec (tEv g S E true ic)) (hm : lastMarks [op1, op2] [eb, ec] = false) :
    PT X (.Compare ea [op1, op2] [eb, ec] pos) (tEvT g S E (.chain c1 c2 ia ib ic)) := (pt_chain h1.1 h2.1 ha hb hc hm).weak fun σ H Q h => chain_in (m := false) h1 h2 h

/-! ### fields -/
theorem fname_inj : ∀ a b, a < 30 → b < 30 → fnameT a = fnameT b → a = b := by
  have h : ∀ a : Fin 30, ∀ b : Fin 30, fnameT a.val = fnameT b.val → a = b := by decide +kernel
  intro a b ha hb e
  exact congrArg Fin.val (h ⟨a, ha⟩ ⟨b, hb⟩ e)
theorem fid_lt (c : Nat) : ∀ f ∈ fidT c, f < 30 := by
  unfold fidT
  split <;> (intro f hf; revert hf; revert f; decide)
theorem look_names {F : Hp} {f : Nat} (hf : f < 30) {d : D} : ∀ {fs : List Nat} {ds : List D} {vs : List V}, (∀ x ∈ fs, x < 30) → Reps g F ds vs → (fs.zip ds).lookup f = some d → ∃ v, ((fs.map fnameT).zip vs).lookup (fnameT f) = some v ∧ Rep g F d v
  | [], _, _, _, _, h => by simp at h
  | _ :: _, _, _, _, .nil, h => by simp at h
  | x :: fs, _, _, hx, .cons q r, h => by
    rw [List.zip_cons_cons, List.lookup_cons] at h
    rw [List.map_cons, List.zip_cons_cons, List.lookup_cons]
    by_cases e : f = x
    · subst e
      rw [beq_self_eq_true] at h ⊢
      cases h
      exact ⟨_, rfl, q⟩
    · rw [show (f == x) = false from beq_eq_false_iff_ne.mpr e] at h
      have ne : (fnameT f == fnameT x) = false := beq_eq_false_iff_ne.mpr fun z => e (fname_inj f x hf (hx x (by simp)) z)
      rw [ne]
      exact look_names hf (fun y hy => hx y (List.mem_cons_of_mem _ hy)) r h
end
end Bc
set_option Elab.async false
set_option linter.all false
set_option maxRecDepth 100000
set_option maxHeartbeats 4000000
/-! Part C4. Fields, argument lists, displays, calls of defs and methods. -/
namespace Bc
open PySem PySem.Spec L2

section
variable {X : Cx} {g : GE} {S : Sem} {E : WX} {m : Bool} {ea eb ec : Expr} {ia ib ic : IE} {pos : Pos}
/-! ### fields -/
structure ClsAt (X : Cx) (g : GE) (c : Nat) : Prop where
  cl : Cls X.K (g.cls c)
  no : ∀ f ∈ fidT c, NoAttr X.K (g.cls c) (fnameT f)
theorem zip_mem {f : Nat} {d : D} : ∀ {fs : List Nat} {ds : List D}, (fs.zip ds).lookup f = some d → f ∈ fs
  | [], _, h => by simp at h
  | _ :: _, [], h => by simp at h
  | x :: fs, _ :: ds, h => by
    rw [List.zip_cons_cons, List.lookup_cons] at h
    by_cases e : f = x
    · rw [e]
      exact List.mem_cons_self
    · rw [show (f == x) = false from beq_eq_false_iff_ne.mpr e] at h
      exact List.mem_cons_of_mem _ (zip_mem h)
theorem s_fld {f : Nat} {nm : Str} (hn : nm = fnameT f) (hc : ∀ c, S.cl c = true → ClsAt X g c) (ha : PE X ea (tEv g S E true ia)) (hp : isCall0 ea = false) : PE X (.Attribute ea nm pos) (tEv g S E m (.fld ia f)) :=
  (pe_fld ha (attr_eq hp)).weak fun σ H Q h => by
    subst hn
    simp only [tEv, ev] at h
    obtain ⟨F0, H0, F, σO, pn, A, h⟩ := h
    refine ⟨F0, H0, F, σO, pn, A, h.bind.imp fun x p F1 H1 s1 p1 k v1 f1 n1 => ?_⟩
    obtain ⟨o, h1, h2⟩ := k.now s1.fh p1
    have go : ∀ {a dx : Addr} {c : Nat} {ds : List D} {vs : List V} {d : D}, S.cl c = true → H1 a = some (.ins (g.cls c) dx ((clsNames c).zip vs)) → Reps g F1 ds vs → ((fidT c).zip ds).lookup f = some d → o = .fz d →
        ∃ a' C dx' fs v, V.ref a = .ref a' ∧ H1 a' = some (.ins C dx' fs) ∧ Cls X.K C ∧ NoAttr X.K C (fnameT f) ∧ fs.lookup (fnameT f) = some v ∧ Q v H1 := by
      intro a dx c ds vs d hcl ha r hl ho
      subst ho
      obtain ⟨v, h4, h5⟩ := look_names (fid_lt c f (zip_mem (fs := fidT c) (ds := ds) hl)) (fid_lt c) r hl
      exact ⟨a, _, dx, _, v, rfl, ha, (hc c hcl).cl, (hc c hcl).no f (zip_mem (fs := fidT c) (ds := ds) hl), h4, h2 v [] (Got.fz h5)⟩
    unfold fldO at h1
    split at h1
    · split at h1
      · rename_i hcl
        rw [Option.map_eq_some_iff] at h1
        obtain ⟨d, h3, ho⟩ := h1
        cases n1.rep with
        | obj q r => exact go hcl (s1.fh _ _ q) r h3 ho.symm
      · cases h1
    · split at h1
      · rename_i hcl
        rw [Option.map_eq_some_iff] at h1
        obtain ⟨d, h3, ho⟩ := h1
        cases n1.own with
        | ins q _ r => exact go hcl q r h3 ho.symm
      · cases h1
    · cases h1

/-! ### argument lists -/
theorem a_nil : PA X [] (tEvs g S E []) := pa_nil.weak fun σ H Q ⟨F0, H0, F, σO, pn, A, h⟩ => by
  rw [evs] at h
  exact h.ret A.fh A.pen [] .nil
theorem a_cons {es : List Expr} {ies : List IE} (hs : isStarE ea = false) (ha : PE X ea (tEv g S E false ia)) (hr : PA X es (tEvs g S E ies)) : PA X (ea :: es) (tEvs g S E (ia :: ies)) :=
  (pa_cons ha hr (star_eq hs)).weak fun σ H Q ⟨F0, H0, F, σO, pn, A, h⟩ => by
    rw [evs] at h
    refine ⟨F0, H0, F, σO, pn, A, h.bind.all fun x p k F1 H1 s1 p1 v1 f1 n1 => ?_⟩
    obtain ⟨F', s1', p1', r1, sm⟩ := n1.frz s1 p1
    refine ⟨F0, H0, F', σO, p, A.step s1' p1', (k F' H1 s1' p1').bind.imp fun ds p2 F2 H2 s2 p2' k2 vs rs => ?_⟩
    exact k2.ret s2.fh p2' _ (.cons (r1.mono s2.ff) rs)
theorem v_nil : PA X [] (tEvv g S E []) := pa_nil.weak fun σ H Q ⟨F0, H0, F, σO, pn, A, h⟩ => by
  rw [evv] at h
  exact h.ret A.fh A.pen [] .nil
theorem v_cons {es : List Expr} {ies : List IE} (hs : isStarE ea = false) (ha : PE X ea (tEv g S E true ia)) (hr : PA X es (tEvv g S E ies)) : PA X (ea :: es) (tEvv g S E (ia :: ies)) :=
  (pa_cons ha hr (star_eq hs)).weak fun σ H Q ⟨F0, H0, F, σO, pn, A, h⟩ => by
    rw [evv] at h
    refine ⟨F0, H0, F, σO, pn, A, h.bind.imp fun x p F1 H1 s1 p1 k v1 f1 n1 => ?_⟩
    refine ⟨F0, H0, F1, σO, p, A.step s1 p1, k.bind.imp fun os p2 F2 H2 s2 p2' k2 vs rs => ?_⟩
    exact k2.ret s2.fh p2' _ (.cons (n1.step s2).own n1.np rs)

/-! ### displays -/
theorem s_tup {es : List Expr} {ies : List IE} {x1 : Nat} (ha : PA X es (tEvs g S E ies)) : PE X (.Tuple es x1 pos) (tEv g S E m (.tup ies)) :=
  (pe_tup ha).weak fun σ H Q ⟨F0, H0, F, σO, pn, A, h⟩ => by
    rw [ev] at h
    refine ⟨F0, H0, F, σO, pn, A, h.bind.imp fun ds p F1 H1 s1 p1 k vs rs => ?_⟩
    obtain ⟨o, h1, h2⟩ := k.of
    obtain ⟨hl, rfl⟩ := some_if h1
    refine ⟨by rw [← rs.length]; exact lim_line hl, fun t ht => ?_⟩
    obtain ⟨s2, p2⟩ := allocF (o := .tup vs) s1.fh p1 ht
    exact h2 _ _ s2 p2 _ [] (Got.fz (.tup upd_same (rs.mono s2.ff)))
theorem s_lst {es : List Expr} {ies : List IE} (ha : PA X es (tEvs g S E ies)) : PE X (.List es pos) (tEv g S E m (.lst ies)) :=
  (pe_lst ha).weak fun σ H Q ⟨F0, H0, F, σO, pn, A, h⟩ => by
    rw [ev] at h
    refine ⟨F0, H0, F, σO, pn, A, h.bind.imp fun ds p F1 H1 s1 p1 k vs rs => ?_⟩
    obtain ⟨o, h1, h2⟩ := k.of
    obtain ⟨hl, rfl⟩ := some_if h1
    refine ⟨by rw [← rs.length]; exact lim_line hl, fun t ht => ?_⟩
    obtain ⟨s2, p2⟩ := alloc (o := .lst vs) s1.fh p1 ht
    exact h2 _ _ s2 p2 _ [t] ((got_lst s1.fh p1 ht rs).back s1 p1)
theorem s_dnew (tk : Bool) : PE X (.Dict [] [] pos) (tEv g S E m (.dnew tk)) := by
  have own : ∀ {σ : St} {H : Hp} {Q : VK}, tEv g S E m (.dnew tk) σ H Q → ∀ p, H p = none → Q (.ref p) (upd H p (if tk then .dT [] else .dK [])) := fun {σ H Q} ⟨F0, H0, F, σO, pn, A, h⟩ p hp => by
    rw [ev] at h
    have hf : F p = none := by
      cases z : F p with
      | none => rfl
      | some u =>
        rw [A.fh p u z] at hp
        cases hp
    obtain ⟨s2, p2⟩ := alloc (o := if tk then .dT [] else .dK []) A.fh A.pen hp
    refine h.ret' s2 p2 _ [p] ⟨?_, fun a ha => ?_, fun _ => ⟨by simp, fun a ha => ?_⟩⟩
    · cases tk with
      | true => exact .dT (kvs := []) (by rw [if_pos rfl]; exact upd_same) rfl rfl .nil
      | false => exact .dK (kvs := []) (by rw [if_neg Bool.false_ne_true]; exact upd_same) rfl rfl .nil
    · rw [List.mem_singleton.mp ha]
      exact penNe A.pen hp
    · rw [List.mem_singleton.mp ha]
      exact ⟨hp, hf⟩
  cases tk with
  | true => exact pe_dnewT.weak fun σ H Q h p hp => own h p hp
  | false => exact pe_dnewK.weak fun σ H Q h p hp => own h p hp

/-! ### calls -/
/-- what a def of ours promises: what f tells of the data -/
def spM (g : GE) (f : List D → M D) : Sp := fun vs H Q E => ∃ F pn ds, Same F H ∧ PenAt g F H pn ∧ Reps g F ds vs ∧ After g F H E (f ds pn) fun d p F' H' => ∀ v, Rep g F' d v → Q v H'
/-- a call of the value u, of which f is known -/
def CallAt (P : Program) (w : World) (K : PySem.W.Frag) (mg : Str → Option Value) (base : Heap) (g : GE) (k : Nat) (u : Value) (first : List V) (f : List D → M D) : Prop :=
  ∀ (X : Cx), X.prog = P → X.w = w → X.K = K → X.mg = mg → X.base = base → Room k X.A → ∀ (E : WX), Takes X E → ∀ (pins : List (Addr × Obj)) (s : Shared) (σ : St) (H : Hp) (Q : VK) (us : List Value) (vs : List V),
    Inv X pins σ H s → Vals (first ++ vs) us → spM g f (first ++ vs) H Q (WE E σ) → wpAny (model X.prog X.w) X.A (call u us) (EP X pins σ Q) X.xe s
/-- the global nm, called -/
structure FnAt (X : Cx) (g : GE) (k : Nat) (nm : Str) (f : List D → M D) : Prop where
  ex : ∃ a, X.mg nm = some (.ref a) ∧ PySem.W.keepIn X.K (.ref a) = true ∧ CallAt X.prog X.w X.K X.mg X.base g k (.ref a) [] f
theorem call_main {f k : Nat} {a : Addr} {first : List V} {fd : List D} {fn : List D → M D} (hc : CallAt X.prog X.w X.K X.mg X.base g k (.ref a) first fn) (hr : Room k X.A) (tk : Takes X E)
    {pins : List (Addr × Obj)} {σ : St} {H H1 F F1 : Hp} {Q : VK} {s1 : Shared} {us : List Value} {vs : List V} {ds : List D} {pn : Pen} (I : Inv X pins σ H1 s1) (r : Vals (first ++ vs) us) (st : Stp g F H F1 H1) (pe : PenAt g F1 H1 pn) (rf : Reps g F1 fd first) (rs : Reps g F1 ds vs)
    (h : After g F1 H1 (WE E σ) (M.bind (fn (fd ++ ds)) (fun d => M.ret (O.fz d)) pn) (fun o p F' H' => ∀ v fp, Got g m H F' H' o v fp → Q v H')) : wpAny (model X.prog X.w) X.A (call (.ref a) us) (EP X pins σ Q) X.xe s1 :=
  hc X rfl rfl rfl rfl rfl hr E tk pins s1 σ H1 Q us vs I r ⟨F1, pn, fd ++ ds, st.fh, pe, rf.append rs, h.bind.imp fun d p F2 H2 s2 p2 k2 v hv => k2.ret s2.fh p2 v [] (Got.fz hv)⟩
theorem s_call {nm : Str} {p : Pos} {e : Expr} {rest : List Expr} {ies : List IE} {f k : Nat} (hf : FnAt X g k nm (S.fn f)) (hg : Gl X nm) (hdb : (nm == ("__debug__" : Str)) = false) (hr : Room k X.A) (tk : Takes X E) (ha : PA X (e :: rest) (tEvs g S E ies)) (hs : (e :: rest).all (fun e => !isStarE e) = true) :
    PE X (.Call (.Name nm p) (e :: rest) [] pos) (tEv g S E m (.call f ies)) := by
  obtain ⟨a, hm, hk, hc⟩ := hf.ex
  refine ⟨fun pins s σ H Q I h => ?_⟩
  obtain ⟨F0, H0, F, σO, pn, A, h⟩ := h
  rw [ev] at h
  refine wpAny_Call_Name_kw (ld_glob I hg hm ?_ hdb)
  have hT : tEvs g S E ies σ H fun vs H1 => ∀ s1 us, Inv X pins σ H1 s1 → Vals vs us → wpAny (model X.prog X.w) X.A (call (.ref a) us) (EP X pins σ Q) X.xe s1 :=
    ⟨F0, H0, F, σO, pn, A, h.bind.imp fun ds p F1 H1 s1 p1 k vs rs sh us I1 r => call_main (first := []) (fd := []) (f := f) hc hr tk I1 r s1 p1 .nil rs k⟩
  rw [List.all_cons, Bool.and_eq_true, Bool.not_eq_true'] at hs
  exact PySem.W.callWith_K (h₀ := X.base) I.ok.mod.kin hk (thn (ha.run pos pins s σ H _ I hT) fun us s1 ⟨vs, H1, I1, r, q⟩ => ⟨I1.kIn, q s1 us I1 r⟩) (star_eq hs.1) (star_plain hs.2)
theorem s_call0 {nm : Str} {p : Pos} {f k : Nat} (hf : FnAt X g k nm (S.fn f)) (hg : Gl X nm) (hdb : (nm == ("__debug__" : Str)) = false) (hr : Room k X.A) (tk : Takes X E) :
    PE X (.Call (.Name nm p) [] [] pos) (tEv g S E m (.call f [])) := by
  obtain ⟨a, hm, hk, hc⟩ := hf.ex
  refine ⟨fun pins s σ H Q I h => ?_⟩
  obtain ⟨F0, H0, F, σO, pn, A, h⟩ := h
  rw [ev] at h
  refine wpAny_Call_Name_kw (ld_glob I hg hm ?_ hdb)
  have h2 := h.bind
  rw [evs] at h2
  have k := h2.ret A.fh A.pen
  exact PySem.W.callWith_K0 I.kIn hk (call_main (first := []) (fd := []) (ds := []) (f := f) (us := []) hc hr tk I .nil (Stp.refl A.fh) A.pen .nil .nil k)

/-! ### methods of own classes -/
theorem meth_eq {o : Expr} {nm : Str} {apos pos : Pos} {args : List Expr} {env : Env} (hb : attributeBase o nm env (eval o env) = eval o env) (hf : methodCallForm (args.length + 0) (backTo pos (starEach args env)) (backToKw pos (keywordEach [] env)) = true) (hl : (apos.endLine == pos.line) = true) :
    eval (.Call (.Attribute o nm apos) args [] pos) env = (do
      let ov ← eval o env
      standAt apos.atName
      let (f, first) ← holding [ov] (getMethod ov nm (do return (← importBound o env).getD true))
      callWith pos f first (backTo pos (starEach args env)) (backToKw pos (keywordEach [] env))) := by
  show (do
      let ov ← attributeBase o nm env (eval o env)
      standAt apos.atName
      methodCall o nm apos pos env ov (args.length + 0) (backTo pos (starEach args env)) (backToKw pos (keywordEach [] env))) = _
  rw [hb]
  unfold methodCall calleeOf methodCallPos
  rw [hf, hl]
  rfl
theorem form_ok {env : Env} {pos : Pos} : ∀ {es : List Expr}, es.all (fun e => !isStarE e) = true → (backTo pos (starEach es env)).all (fun x => !x.1) = true
  | [], _ => rfl
  | e :: es, h => by
    rw [List.all_cons, Bool.and_eq_true, Bool.not_eq_true'] at h
    rw [star_eq h.1]
    show (true && (backTo pos (starEach es env)).all (fun x => !x.1)) = true
    rw [form_ok h.2]
    rfl
theorem few_ok {env : Env} {pos : Pos} {es : List Expr} (h : es.all (fun e => !isStarE e) = true) (hl : es.length < 20) : methodCallForm (es.length + 0) (backTo pos (starEach es env)) (backToKw pos (keywordEach [] env)) = true := by
  unfold methodCallForm
  rw [form_ok h]
  show (true && true && decide (es.length + 0 + 0 < 30)) = true
  rw [decide_eq_true (by omega)]
  rfl
/-- the method nm of the class c, called on an instance -/
structure MtAt (X : Cx) (g : GE) (k : Nat) (c : Nat) (nm : Str) (f : List D → M D) : Prop where
  ex : ∃ a, Meth X.K (g.cls c) nm a ∧ Cls X.K (g.cls c) ∧ (∀ vs : List V, ((clsNames c).zip vs).lookup nm = none) ∧ ∀ v, CallAt X.prog X.w X.K X.mg X.base g k (.ref a) [v] f
theorem obj?_at {x : O} {q : Nat × List D} (h : obj? x = some q) : x = .fz (.obj q.1 q.2) := by
  unfold obj? at h
  split at h
  · cases h
    rfl
  · cases h
theorem s_meth {nm : Str} {apos : Pos} {o : Expr} {io : IE} {es : List Expr} {ies : List IE} {mm k : Nat} (hf : ∀ c f, S.mt c mm = some f → MtAt X g k c nm (S.fn f)) (ho : PE X o (tEv g S E false io)) (hp : isCall0 o = false) (hr : Room k X.A) (tk : Takes X E)
    (ha : PA X es (tEvs g S E ies)) (hs : es.all (fun e => !isStarE e) = true) (hl : es.length < 20) (hline : (apos.endLine == pos.line) = true) (he : es ≠ [] ∨ ies = []) :
    PE X (.Call (.Attribute o nm apos) es [] pos) (tEv g S E m (.meth mm io ies)) := by
  refine ⟨fun pins s σ H Q I h => ?_⟩
  have ho' : tEv g S E false io σ H fun x H1 => ∃ (a dx : Addr) (c f : Nat) (ds : List D) (vs : List V) (F0 H0 F1 : Hp) (σO : Sto) (p : Pen), x = .ref a ∧ S.mt c mm = some f ∧ Abs g F0 H0 σ H1 F1 σO p ∧ F1 a = some (.ins (g.cls c) dx ((clsNames c).zip vs)) ∧ Reps g F1 ds vs ∧
      After g F1 H1 (WE E σ) (M.bind (evs S ies σO) (fun es => M.bind (S.fn f (.obj c ds :: es)) fun d => M.ret (O.fz d)) p) (fun o p F' H' => ∀ v fp, Got g m H1 F' H' o v fp → Q v H') := by
    obtain ⟨F0, H0, F, σO, pn, A, h⟩ := h
    rw [ev] at h
    refine ⟨F0, H0, F, σO, pn, A, h.bind.imp fun x p F1 H1 s1 p1 k v1 f1 n1 => ?_⟩
    obtain ⟨q, h1, k1⟩ := k.bind.now s1.fh p1
    obtain rfl := obj?_at h1
    obtain ⟨f, h2, k2⟩ := k1.bind.now s1.fh p1
    cases n1.rep with
    | obj hq r => exact ⟨_, _, q.1, f, q.2, _, F0, H0, F1, σO, p, rfl, h2, A.step s1 p1, hq, r, k2.imp fun o p F' H' s p' k3 v fp n => k3 v fp (n.back s1 p1)⟩
  refine PySem.W.methodCall_KW (thn (ho.run pins s σ H _ I ho') fun u s1 ⟨x, H1, I1, rx, a, dx, c, f, ds, vs, F0, H0, F1, σO, p, ex, hmt, A1, ha1, r1, k1⟩ => ?_) (meth_eq (attr_eq hp) (few_ok hs hl) hline)
  subst ex
  obtain rfl : u = Value.ref a := rx
  obtain ⟨b, hm, hcl, hlk, hc⟩ := (hf c f hmt).ex
  refine getmeth_ok I1 (A1.fh _ _ ha1) hcl hm (hlk vs) ?_
  cases es with
  | nil =>
    have e0 : ies = [] := he.resolve_left fun z => z rfl
    subst e0
    have h2 := k1.bind
    rw [evs] at h2
    have k2 := h2.ret A1.fh A1.pen
    exact PySem.W.callWith_K0 (first := [.ref a]) I1.kIn hm.kp (call_main (first := [.ref a]) (fd := [.obj c ds]) (vs := []) (ds := []) (f := f) (hc _) hr tk I1 (.cons rfl .nil) (Stp.refl A1.fh) A1.pen (.cons (.obj ha1 r1) .nil) .nil k2)
  | cons e rest =>
    have hT : tEvs g S E ies σ H1 fun ws H2 => ∀ s2 us, Inv X pins σ H2 s2 → Vals ws us → wpAny (model X.prog X.w) X.A (call (.ref b) (.ref a :: us)) (EP X pins σ Q) X.xe s2 :=
      ⟨F0, H0, F1, σO, p, A1, k1.bind.imp fun es' p2 F2 H2 s2 p2' k2 ws rs s3 us I2 r =>
        call_main (first := [.ref a]) (fd := [.obj c ds]) (f := f) (hc _) hr tk I2 (.cons rfl r) s2 p2' (.cons (.obj (s2.ff _ _ ha1) (r1.mono s2.ff)) .nil) rs k2⟩
    rw [List.all_cons, Bool.and_eq_true, Bool.not_eq_true'] at hs
    exact PySem.W.callWith_K (first := [.ref a]) (h₀ := X.base) I1.ok.mod.kin hm.kp (thn (ha.run pos pins s1 σ H1 _ I1 hT) fun us s2 ⟨ws, H2, I2, r, q⟩ => ⟨I2.kIn, q s2 us I2 r⟩) (star_eq hs.1) (star_plain hs.2)
end
end Bc
set_option Elab.async false
set_option linter.all false
set_option maxRecDepth 100000
set_option maxHeartbeats 4000000
/-! Part C5. Slices, built-in functions, methods of texts. -/
namespace Bc
open PySem PySem.Spec L2

/-! ### orders -/
theorem perm_insI (x : Int) : ∀ ys : List Int, (insI x ys).Perm (x :: ys)
  | [] => .refl _
  | y :: ys => by
    rw [insI]
    split
    · exact .refl _
    · exact ((perm_insI x ys).cons y).trans (List.Perm.swap x y ys)
theorem perm_sortI : ∀ xs : List Int, (sortI xs).Perm xs
  | [] => .refl _
  | x :: xs => by
    rw [sortI]
    exact (perm_insI x _).trans ((perm_sortI xs).cons x)
theorem pw_insI (x : Int) : ∀ ys : List Int, ys.Pairwise (· ≤ ·) → (insI x ys).Pairwise (· ≤ ·)
  | [], _ => by simp [insI]
  | y :: ys, h => by
    rw [insI]
    split
    · rename_i hle
      refine List.pairwise_cons.mpr ⟨fun z hz => ?_, h⟩
      rcases List.mem_cons.mp hz with rfl | hz
      · exact hle
      · exact Int.le_trans hle ((List.pairwise_cons.mp h).1 z hz)
    · rename_i hle
      refine List.pairwise_cons.mpr ⟨fun z hz => ?_, pw_insI x ys (List.pairwise_cons.mp h).2⟩
      rcases List.mem_cons.mp ((perm_insI x ys).mem_iff.mp hz) with rfl | hz
      · omega
      · exact (List.pairwise_cons.mp h).1 z hz
theorem pw_sortI : ∀ xs : List Int, (sortI xs).Pairwise (· ≤ ·)
  | [] => .nil
  | x :: xs => by
    rw [sortI]
    exact pw_insI x _ (pw_sortI xs)
theorem sortI_of {xs ys : List Int} (h : ys.Perm xs) (p : ys.Pairwise (· ≤ ·)) : ys = sortI xs := List.Perm.eq_of_pairwise (fun a b _ _ h1 h2 => Int.le_antisymm h1 h2) p (pw_sortI xs) (h.trans (perm_sortI xs).symm)
theorem ltCps_irr : ∀ a : List Nat, ltCps a a = false
  | [] => rfl
  | x :: a => by simp [ltCps, ltCps_irr a]
theorem ltCps_tri : ∀ a b : List Nat, ltCps a b = true ∨ a = b ∨ ltCps b a = true
  | [], [] => .inr (.inl rfl)
  | [], _ :: _ => .inl rfl
  | _ :: _, [] => .inr (.inr rfl)
  | x :: a, y :: b => by
    rcases Nat.lt_trichotomy x y with h | rfl | h
    · left
      simp [ltCps, h]
    · rcases ltCps_tri a b with h | rfl | h
      · left
        simp [ltCps, h]
      · exact .inr (.inl rfl)
      · right
        right
        simp [ltCps, h]
    · right
      right
      simp [ltCps, h]
theorem ltCps_trans : ∀ {a b c : List Nat}, ltCps a b = true → ltCps b c = true → ltCps a c = true
  | [], [], _, h, _ => by cases h
  | [], _ :: _, [], _, h => by cases h
  | [], _ :: _, _ :: _, _, _ => rfl
  | _ :: _, [], _, h, _ => by cases h
  | _ :: _, _ :: _, [], _, h => by cases h
  | x :: a, y :: b, z :: c, h1, h2 => by
    simp only [ltCps, Bool.or_eq_true, decide_eq_true_eq, Bool.and_eq_true, beq_iff_eq] at h1 h2 ⊢
    rcases h1 with h1 | ⟨rfl, h1⟩
    · rcases h2 with h2 | ⟨rfl, h2⟩
      · exact .inl (by omega)
      · exact .inl h1
    · rcases h2 with h2 | ⟨rfl, h2⟩
      · exact .inl h2
      · exact .inr ⟨rfl, ltCps_trans h1 h2⟩
theorem leS_trans {a b c : List Nat} (h1 : leS a b = true) (h2 : leS b c = true) : leS a c = true := by
  unfold leS at *
  simp only [Bool.not_eq_true'] at *
  cases h : ltCps c a with
  | false => rfl
  | true =>
    rcases ltCps_tri a b with h3 | rfl | h3
    · rw [ltCps_trans h h3] at h2
      cases h2
    · rw [h2] at h
      cases h
    · rw [h3] at h1
      cases h1
theorem leS_anti {a b : List Nat} (h1 : leS a b = true) (h2 : leS b a = true) : a = b := by
  unfold leS at *
  simp only [Bool.not_eq_true'] at *
  rcases ltCps_tri a b with h3 | h3 | h3
  · rw [h3] at h2
    cases h2
  · exact h3
  · rw [h3] at h1
    cases h1
theorem leS_total (a b : List Nat) : leS a b = true ∨ leS b a = true := by
  unfold leS
  simp only [Bool.not_eq_true']
  cases h : ltCps b a with
  | false => exact .inl rfl
  | true =>
    right
    cases q : ltCps a b with
    | false => rfl
    | true =>
      have := ltCps_trans q h
      rw [ltCps_irr] at this
      cases this
theorem perm_insS (x : List Nat) : ∀ ys : List (List Nat), (insS x ys).Perm (x :: ys)
  | [] => .refl _
  | y :: ys => by
    rw [insS]
    split
    · exact .refl _
    · exact ((perm_insS x ys).cons y).trans (List.Perm.swap x y ys)
theorem perm_sortS : ∀ xs : List (List Nat), (sortS xs).Perm xs
  | [] => .refl _
  | x :: xs => by
    rw [sortS]
    exact (perm_insS x _).trans ((perm_sortS xs).cons x)
theorem pw_insS (x : List Nat) : ∀ ys : List (List Nat), ys.Pairwise (fun a b => leS a b = true) → (insS x ys).Pairwise (fun a b => leS a b = true)
  | [], _ => by simp [insS]
  | y :: ys, h => by
    rw [insS]
    split
    · rename_i hle
      refine List.pairwise_cons.mpr ⟨fun z hz => ?_, h⟩
      rcases List.mem_cons.mp hz with rfl | hz
      · exact hle
      · exact leS_trans hle ((List.pairwise_cons.mp h).1 z hz)
    · rename_i hle
      refine List.pairwise_cons.mpr ⟨fun z hz => ?_, pw_insS x ys (List.pairwise_cons.mp h).2⟩
      rcases List.mem_cons.mp ((perm_insS x ys).mem_iff.mp hz) with rfl | hz
      · exact (leS_total z y).resolve_left hle
      · exact (List.pairwise_cons.mp h).1 z hz
theorem pw_sortS : ∀ xs : List (List Nat), (sortS xs).Pairwise (fun a b => leS a b = true)
  | [] => .nil
  | x :: xs => by
    rw [sortS]
    exact pw_insS x _ (pw_sortS xs)
theorem rising_pw : ∀ (p : Str) (r : List Str), PyProof.Rows.risingS p r = true → ((p :: r).map TL.tl).Pairwise (fun a b => leS a b = true)
  | p, [], _ => by simp
  | p, x :: r, h => by
    unfold PyProof.Rows.risingS at h
    rw [Bool.and_eq_true] at h
    have ih := rising_pw x r h.2
    rw [List.map_cons]
    refine List.pairwise_cons.mpr ⟨fun z hz => ?_, ih⟩
    have hpx : leS (TL.tl p) (TL.tl x) = true := h.1
    rw [List.map_cons] at hz
    rcases List.mem_cons.mp hz with rfl | hz
    · exact hpx
    · exact leS_trans hpx ((List.pairwise_cons.mp ih).1 z hz)
theorem sortS_of {xs ys : List Str} (h : ys.Perm xs) (p : PyProof.Rows.sortedS ys = true) : ys.map TL.tl = sortS (xs.map TL.tl) := by
  have pw : (ys.map TL.tl).Pairwise (fun a b => leS a b = true) := by
    cases ys with
    | nil => exact .nil
    | cons y ys => exact rising_pw y ys p
  exact List.Perm.eq_of_pairwise (fun a b _ _ h1 h2 => leS_anti h1 h2) pw (pw_sortS _) ((h.map _).trans (perm_sortS _).symm)

/-! ### the first place of a sign -/
open PySem.StrLaws in
theorem occ_stays (s sub : Str) (hi : Nat) : ∀ (l : List Nat) (st : Array Nat × Nat), 1 ≤ st.fst.size → (forIn l st (occBody s sub hi 1)).run.fst = st.fst
  | [], st, _ => rfl
  | a :: l, st, h => by
    rw [List.forIn_cons]
    unfold occBody
    rw [if_neg (by omega)]
    exact occ_stays s sub hi l st h
open PySem.StrLaws in
theorem occ_find (x : Str) (c : Nat) : ∀ (m a : Nat), (forIn (List.range' a m) ((#[] : Array Nat), 0) (occBody x ⟨#[c]⟩ x.length 1)).run.fst.toList = ((List.range' a m).find? fun i => decide (x.cps.toList[i]? = some c)).toList
  | 0, a => rfl
  | m + 1, a => by
    rw [List.range'_succ, List.forIn_cons, List.find?_cons]
    unfold occBody
    by_cases h : x.cps.toList[a]? = some c
    · have h2 := (subAt_one x c a).mpr h
      rw [if_pos ⟨⟨⟨by simp, Nat.zero_le _⟩, h2.1⟩, h2.2⟩, decide_eq_true h]
      exact congrArg Array.toList (occ_stays x ⟨#[c]⟩ x.length _ _ (by simp))
    · rw [if_neg fun z => h ((subAt_one x c a).mp ⟨z.1.2, z.2⟩), decide_eq_false h]
      exact occ_find x c m (a + 1)
theorem find_same {p q : Nat → Bool} : ∀ {l : List Nat}, (∀ i ∈ l, p i = q i) → l.find? p = l.find? q
  | [], _ => rfl
  | x :: l, h => by
    rw [List.find?_cons, List.find?_cons, h x (by simp), find_same fun i hi => h i (List.mem_cons_of_mem _ hi)]
theorem find_idx (c : Nat) : ∀ (l : List Nat) (a n : Nat), l.length ≤ n → ((List.range' a n).find? fun i => decide (l[i - a]? = some c)) = (l.idxOf? c).map (· + a)
  | [], a, n, _ => by
    rw [List.find?_eq_none.mpr (by simp)]
    rfl
  | y :: l, a, 0, h => by simp at h
  | y :: l, a, n + 1, h => by
    rw [List.range'_succ, List.find?_cons, Nat.sub_self, List.idxOf?_cons]
    by_cases e : y = c
    · subst e
      simp
    · have h1 : ((y :: l)[0]? = some c) = False := by
        apply propext
        constructor
        · intro z
          exact e (Option.some.inj z)
        · exact False.elim
      rw [show decide ((y :: l)[0]? = some c) = false from decide_eq_false (by rw [h1]; exact id), show (y == c) = false from beq_eq_false_iff_ne.mpr e]
      have ih := find_idx c l (a + 1) n (by simpa using h)
      have key : (List.range' (a + 1) n).find? (fun i => decide ((y :: l)[i - a]? = some c)) = (List.range' (a + 1) n).find? (fun i => decide (l[i - (a + 1)]? = some c)) := by
        refine find_same fun i hi => ?_
        have := List.mem_range'.mp hi
        obtain ⟨j, _, rfl⟩ := this
        have e1 : a + 1 + 1 * j - a = (a + 1 + 1 * j - (a + 1)) + 1 := by omega
        rw [e1, List.getElem?_cons_succ]
      simp only [Bool.false_eq_true, if_false]
      rw [key, ih, Option.map_map]
      congr 1
      funext k
      show k + (a + 1) = k + 1 + a
      omega
theorem occ_index {s : List Nat} {c n : Nat} (h : s.idxOf? c = some n) : Builtin.Str.occurrences (⟨s.toArray⟩ : Str) ⟨#[c]⟩ 0 (⟨s.toArray⟩ : Str).length 1 = [n] := by
  rw [PySem.StrLaws.occ_eq, occ_find]
  have h2 := find_idx c s 0 ((⟨s.toArray⟩ : Str).length + 1 - 0) (by rw [str_len]; omega)
  simp only [Nat.sub_zero, Nat.add_zero] at h2
  rw [show ((⟨s.toArray⟩ : Str).length + 1 - 0) = (⟨s.toArray⟩ : Str).length + 1 from rfl]
  simp only [Nat.sub_zero]
  rw [h2, h]
  rfl
end Bc
set_option Elab.async false
set_option linter.all false
set_option maxRecDepth 100000
set_option maxHeartbeats 4000000
/-! Part C6. Slices, built-in functions and methods of texts as rules. -/
namespace Bc
open PySem PySem.Spec L2

section
variable {X : Cx} {g : GE} {S : Sem} {E : WX} {m : Bool} {ea eb ec : Expr} {ia ib ic : IE} {pos : Pos}
/-! ### slices -/
def tEvO (g : GE) (S : Sem) (E : WX) (es : List IE) : TO := fun σ H Q => ∃ F0 H0 F σO pn, Abs g F0 H0 σ H F σO pn ∧ After g F H (WE E σ) (evo S es σO pn) fun o p F' H' => Q o H'
theorem _root_.L2.PO.weak {X : Cx} {e : Option Expr} {t t' : TO} (h : PO X e t) (k : ∀ σ H Q, t' σ H Q → t σ H Q) : PO X e t' := ⟨fun pins s σ H Q I hw => h.run pins s σ H Q I (k σ H Q hw)⟩
theorem o_none : PO X none (tEvO g S E []) := po_none.weak fun σ H Q ⟨F0, H0, F, σO, pn, A, h⟩ => by
  rw [evo] at h
  exact h.ret A.fh A.pen
theorem o_some {r : List IE} (ha : PE X ea (tEv g S E false ia)) : PO X (some ea) (tEvO g S E (ia :: r)) := (po_some ha).weak fun σ H Q ⟨F0, H0, F, σO, pn, A, h⟩ => by
  rw [evo] at h
  refine ⟨F0, H0, F, σO, pn, A, h.bind.imp fun x p F1 H1 s1 p1 k v1 f1 n1 => ?_⟩
  obtain ⟨i, h1, h2⟩ := k.bind.now s1.fh p1
  obtain rfl := asInt_at h1
  exact ⟨i, int_at n1.rep, h2.ret s1.fh p1⟩
def rSlA (K : PySem.W.Frag) : V → Option Int → Option Int → Hp → VK → Prop := fun x lo hi H Q => rSlL K x lo hi H Q ∨ rSlS x lo hi H Q
theorem cut_str (s : List Nat) (lo hi : Option Int) : cutS ⟨s.toArray⟩ lo hi = ⟨(cutL s lo hi).toArray⟩ := by
  unfold cutS cutL
  rw [str_len]
theorem cut_reps {F : Hp} {ds : List D} {vs : List V} (r : Reps g F ds vs) (lo hi : Option Int) : Reps g F (cutL ds lo hi) (cutV vs lo hi) := by
  unfold cutL cutV
  rw [r.length]
  exact (r.drop _).take _
theorem s_slice {lo hi : Option Expr} {il ih : List IE} {p2 : Pos} (ha : PE X ea (tEv g S E true ia)) (hl : PO X lo (tEvO g S E il)) (hh : PO X hi (tEvO g S E ih)) : PE X (.Subscript ea (.Slice lo hi none p2) pos) (tEv g S E m (.slice ia il ih)) :=
  (pe_slice (sl_list.or sl_str) ha hl hh).weak fun σ H Q ⟨F0, H0, F, σO, pn, A, h⟩ => by
    rw [ev] at h
    refine ⟨F0, H0, F, σO, pn, A, h.bind.imp fun x p F1 H1 s1 p1 k v1 f1 n1 => ?_⟩
    refine ⟨F0, H0, F1, σO, p, A.step s1 p1, k.bind.imp fun l p2 F2 H2 s2 q2 k2 => ?_⟩
    refine ⟨F0, H0, F2, σO, p2, (A.step s1 p1).step s2 q2, k2.bind.imp fun u p3 F3 H3 s3 q3 k3 => ?_⟩
    have n3 := (n1.step s2).step s3
    have s13 := (s1.trans q2.1 s2).trans q3.1 s3
    obtain ⟨o, h1, h2⟩ := k3.of
    unfold sliceO at h1
    split at h1
    · split at h1
      · rename_i hle
        cases h1
        obtain rfl := str_at n3.rep
        refine .inr ⟨_, rfl, by rw [str_len]; exact lim_line hle, ?_⟩
        rw [cut_str]
        exact h2 F3 H3 (Stp.refl s3.fh) q3 _ [] (Got.fz (.str _))
      · cases h1
    · split at h1
      · rename_i ds hd
        cases h1
        obtain ⟨a, vs, rfl, q, r⟩ := lst_at s3.fh n3.own hd
        refine .inl ⟨a, vs, rfl, SqL.of q, fun t ht => ?_⟩
        obtain ⟨s4, p4⟩ := alloc (o := .lst (cutV vs l u)) s3.fh q3 ht
        exact h2 F3 _ s4 p4 _ [t] ((got_lst s3.fh q3 ht (cut_reps r l u)).back s13 q3)
      · cases h1

/-! ### built-in functions -/
/-- what the rule of a built-in function asks -/
def BltAt (X : Cx) (g : GE) (b : BF) (r : List V → Hp → VK → Prop) : Prop :=
  ∀ (m : Bool) (os : List O) (vs : List V) (o : O) (p : Pen) (F H : Hp) (Q : VK), Same F H → PenAt g F H p → Gots g F H os vs → bltO b os = some o → (∀ F' H', Stp g F H F' H' → PenAt g F' H' p → ∀ v fp, Got g m H F' H' o v fp → Q v H') → r vs H Q
theorem blt_in {b : BF} {r : List V → Hp → VK → Prop} (hb : BltAt X g b r) {ies : List IE} {σ : St} {H : Hp} {Q : VK} (h : tEv g S E m (.blt b ies) σ H Q) : tCB r (tEvv g S E ies) σ H Q := by
  obtain ⟨F0, H0, F, σO, pn, A, h⟩ := h
  rw [ev] at h
  refine ⟨F0, H0, F, σO, pn, A, h.bind.imp fun os p F1 H1 s1 p1 k vs rs => ?_⟩
  obtain ⟨o, h1, h2⟩ := k.of
  exact hb m os vs o p F1 H1 Q s1.fh p1 rs h1 fun F' H' s2 p2 v fp n => h2 F' H' s2 p2 v fp (n.back s1 p1)
/-- f(e, ..), f a built-in function; T(e, ..), T a built-in class -/
theorem s_blt {nm : Str} {id : String} {p : Pos} {b : BF} {r : List V → Hp → VK → Prop} {e : Expr} {rest : List Expr} {ies : List IE} (hc : CallR X (.builtin id) r) (hb : BltAt X g b r) (hg : Gl X nm) (hm : X.mg nm = none) (hv : bootBuiltins nm = some (.builtin id)) (hn : nm ≠ "__name__") (hdb : (nm == ("__debug__" : Str)) = false)
    (ha : PA X (e :: rest) (tEvv g S E ies)) (hs : (e :: rest).all (fun e => !isStarE e) = true) : PE X (.Call (.Name nm p) (e :: rest) [] pos) (tEv g S E m (.blt b ies)) := by
  rw [List.all_cons, Bool.and_eq_true, Bool.not_eq_true'] at hs
  exact (pe_callB hc hg hm hv ha hn hdb (star_eq hs.1) (star_plain hs.2)).weak fun σ H Q h => blt_in hb h
theorem s_bltT {nm : Str} {T : String} {p : Pos} {b : BF} {r : List V → Hp → VK → Prop} {e : Expr} {rest : List Expr} {ies : List IE} (hc : CallR X (.type T) r) (hb : BltAt X g b r) (hg : Gl X nm) (hm : X.mg nm = none) (hv : bootBuiltins nm = some (.type T)) (hn : nm ≠ "__name__") (hdb : (nm == ("__debug__" : Str)) = false)
    (ha : PA X (e :: rest) (tEvv g S E ies)) (hs : (e :: rest).all (fun e => !isStarE e) = true) : PE X (.Call (.Name nm p) (e :: rest) [] pos) (tEv g S E m (.blt b ies)) := by
  rw [List.all_cons, Bool.and_eq_true, Bool.not_eq_true'] at hs
  exact (pe_callTy hc hg hm hv ha hn hdb (star_eq hs.1) (star_plain hs.2)).weak fun σ H Q h => blt_in hb h
theorem gots1 {F H : Hp} {os : List O} {vs : List V} {x : O} (r : Gots g F H os vs) (h : os = [x]) : ∃ v fp, vs = [v] ∧ Own g F H x v fp ∧ ∀ a ∈ fp, a ≠ g.pa := by
  subst h
  cases r with
  | cons h np r =>
    cases r
    exact ⟨_, _, rfl, h, np⟩
theorem gots2 {F H : Hp} {os : List O} {vs : List V} {x y : O} (r : Gots g F H os vs) (h : os = [x, y]) : ∃ v w f1 f2, vs = [v, w] ∧ Own g F H x v f1 ∧ Own g F H y w f2 := by
  subst h
  cases r with
  | cons h np r =>
    cases r with
    | cons h2 np2 r =>
      cases r
      exact ⟨_, _, _, _, rfl, h, h2⟩
theorem ints_at {F : Hp} : ∀ {ds : List D} {vs : List V} {ns : List Int}, Reps g F ds vs → ints? ds = some ns → vs = ns.map V.int
  | _, _, _, .nil, h => by
    cases h
    rfl
  | _, _, _, .cons q t, h => by
    cases q with
    | int i =>
      rw [ints?, Option.map_eq_some_iff] at h
      obtain ⟨ns, h1, rfl⟩ := h
      rw [List.map_cons, ← ints_at t h1]
    | non => cases h
    | bl _ => cases h
    | str _ => cases h
    | lst _ _ => cases h
    | tup _ _ => cases h
    | dK _ _ _ _ => cases h
    | dT _ _ _ _ => cases h
    | obj _ _ => cases h
    | pen => cases h
    | scr _ => cases h
theorem bls_at {F : Hp} : ∀ {ds : List D} {vs : List V} {ns : List Bool}, Reps g F ds vs → bls? ds = some ns → vs = ns.map V.bl
  | _, _, _, .nil, h => by
    cases h
    rfl
  | _, _, _, .cons q t, h => by
    cases q with
    | bl i =>
      rw [bls?, Option.map_eq_some_iff] at h
      obtain ⟨ns, h1, rfl⟩ := h
      rw [List.map_cons, ← bls_at t h1]
    | non => cases h
    | int _ => cases h
    | str _ => cases h
    | lst _ _ => cases h
    | tup _ _ => cases h
    | dK _ _ _ _ => cases h
    | dT _ _ _ _ => cases h
    | obj _ _ => cases h
    | pen => cases h
    | scr _ => cases h
def mkS (s : List Nat) : Str := ⟨s.toArray⟩
theorem strs_at {F : Hp} : ∀ {ds : List D} {vs : List V} {ns : List (List Nat)}, Reps g F ds vs → strs? ds = some ns → vs = (ns.map mkS).map V.str
  | _, _, _, .nil, h => by
    cases h
    rfl
  | _, _, _, .cons q t, h => by
    cases q with
    | str i =>
      rw [strs?, Option.map_eq_some_iff] at h
      obtain ⟨ns, h1, rfl⟩ := h
      rw [List.map_cons, List.map_cons, ← strs_at t h1]
      rfl
    | non => cases h
    | int _ => cases h
    | bl _ => cases h
    | lst _ _ => cases h
    | tup _ _ => cases h
    | dK _ _ _ _ => cases h
    | dT _ _ _ _ => cases h
    | obj _ _ => cases h
    | pen => cases h
    | scr _ => cases h
theorem tl_mkS (s : List Nat) : TL.tl (mkS s) = s := rfl
theorem mkS_tl (x : Str) : mkS (TL.tl x) = x := rfl
theorem reps_ints {F : Hp} : ∀ ns : List Int, Reps g F (ns.map D.int) (ns.map V.int)
  | [] => .nil
  | n :: ns => .cons (.int n) (reps_ints ns)
theorem reps_strs {F : Hp} : ∀ ns : List (List Nat), Reps g F (ns.map D.str) ((ns.map mkS).map V.str)
  | [] => .nil
  | n :: ns => .cons (.str n) (reps_strs ns)
theorem blt_1 {b : BF} {os : List O} {o : O} (h : bltO b os = some o) (h2 : ∀ x y, blt2 b x y = none) : ∃ x, os = [x] ∧ blt1 b x = some o := by
  unfold bltO at h
  split at h
  · exact ⟨_, rfl, h⟩
  · rw [h2] at h
    cases h
  · cases h
theorem blt_2 {b : BF} {os : List O} {o : O} (h : bltO b os = some o) (h1 : ∀ x, blt1 b x = none) : ∃ x y, os = [x, y] ∧ blt2 b x y = some o := by
  unfold bltO at h
  split at h
  · rw [h1] at h
    cases h
  · exact ⟨_, _, rfl, h⟩
  · cases h
/-- len -/
def rLenA (K : PySem.W.Frag) : List V → Hp → VK → Prop := fun xs H Q => (∃ x n, xs = [x] ∧ LenV K x H n ∧ Q (.int n) H) ∨ ∃ a kvs, xs = [V.ref a] ∧ H a = some (.dK kvs) ∧ Q (.int kvs.length) H
theorem cr_lenA : CallR X (.builtin "len") (rLenA X.K) := CallR.or call_len call_lenD
theorem b_len (hK : X.K = g.K) : BltAt X g .len (rLenA X.K) := by
  intro m os vs o p F H Q e pe r h k
  obtain ⟨x, rfl, h⟩ := blt_1 h fun _ _ => rfl
  obtain ⟨n, h1, rfl⟩ := Option.map_eq_some_iff.mp h
  obtain ⟨v, fp, rfl, ho, _⟩ := gots1 r rfl
  have fin := k F H (Stp.refl e) pe (.int n) [] (Got.fz (.int _))
  unfold lenO at h1
  split at h1
  · split at h1
    · rename_i hl
      cases h1
      cases ho with
      | fz q =>
        obtain rfl := str_at q
        exact .inl ⟨_, _, rfl, ⟨by rw [str_len]; exact lim_line hl, by rw [str_len]⟩, fin⟩
    · cases h1
  · cases h1
    cases ho with
    | fz q => cases q with
      | tup q1 q2 => exact .inl ⟨_, _, rfl, .inr ⟨_, SqT.of (e _ _ q1), q2.length⟩, fin⟩
  · cases h1
    cases ho with
    | fz q => cases q with
      | scr q1 =>
        have q2 := e.seq q1
        rw [← hK] at q2
        exact .inl ⟨_, _, rfl, .inl ⟨_, q2, by rw [List.length_map]⟩, fin⟩
  · cases h1
    cases ho with
    | fz q => cases q with
      | lst q1 q2 => exact .inl ⟨_, _, rfl, .inl ⟨_, SqL.of (e _ _ q1), q2.length⟩, fin⟩
  · cases h1
    cases ho with
    | lst q1 q2 => exact .inl ⟨_, _, rfl, .inl ⟨_, SqL.of q1, q2.length⟩, fin⟩
  · cases h1
    cases ho with
    | fz q => cases q with
      | dK q1 q2 q3 q4 =>
        refine .inr ⟨_, _, rfl, e _ _ q1, ?_⟩
        have := congrArg List.length q2
        rw [List.length_map, List.length_map] at this
        rw [this]
        exact fin
  · cases h1
    cases ho with
    | dK q1 q2 q3 q4 =>
      refine .inr ⟨_, _, rfl, q1, ?_⟩
      have := congrArg List.length q2
      rw [List.length_map, List.length_map] at this
      rw [this]
      exact fin
  · cases h1
/-- a thing at an address that a list's rule reads -/
theorem b_of1 {b : BF} {r : List V → Hp → VK → Prop} (h2 : ∀ x y, blt2 b x y = none)
    (hr : ∀ (m : Bool) (x o : O) (v : V) (fp : List Addr) (p : Pen) (F H : Hp) (Q : VK), Same F H → PenAt g F H p → Own g F H x v fp → blt1 b x = some o → (∀ F' H', Stp g F H F' H' → PenAt g F' H' p → ∀ v fp, Got g m H F' H' o v fp → Q v H') → r [v] H Q) : BltAt X g b r := by
  intro m os vs o p F H Q e pe rs h k
  obtain ⟨x, rfl, h⟩ := blt_1 h h2
  obtain ⟨v, fp, rfl, ho, _⟩ := gots1 rs rfl
  exact hr m x o v fp p F H Q e pe ho h k
theorem b_list : BltAt X g .list (fun xs H Q => ∃ p ys, xs = [.ref p] ∧ (SqL X.K H p ys ∨ SqT X.K H p ys) ∧ ∀ l, H l = none → Q (.ref l) (upd H l (.lst ys))) :=
  b_of1 (fun _ _ => rfl) fun m x o v fp p F H Q e pe ho h k => by
    obtain ⟨ds, h1, rfl⟩ := Option.map_eq_some_iff.mp (show (x.seq?).map _ = some o from h)
    obtain ⟨a, vs, rfl, h2, r⟩ := seq_at (K := X.K) e ho h1
    refine ⟨a, vs, rfl, h2, fun l hl => ?_⟩
    obtain ⟨s4, p4⟩ := alloc (o := .lst vs) e pe hl
    exact k F _ s4 p4 _ [l] (got_lst e pe hl r)
theorem b_tuple : BltAt X g .tuple (fun xs H Q => ∃ p ys, xs = [.ref p] ∧ ((SqL X.K H p ys ∧ ∀ l, H l = none → Q (.ref l) (upd H l (.tup ys))) ∨ (SqT X.K H p ys ∧ Q (.ref p) H))) :=
  b_of1 (fun _ _ => rfl) fun m x o v fp p F H Q e pe ho h k => by
    obtain ⟨ds, h1, rfl⟩ := Option.map_eq_some_iff.mp (show (x.seq?).map _ = some o from h)
    unfold O.seq? at h1
    split at h1
    · rename_i es hx
      cases h1
      obtain ⟨a, vs, rfl, h2, r⟩ := lst_at e ho hx
      refine ⟨a, vs, rfl, .inl ⟨SqL.of h2, fun l hl => ?_⟩⟩
      obtain ⟨s4, p4⟩ := allocF (o := .tup vs) e pe hl
      exact k _ _ s4 p4 _ [] (Got.fz (.tup upd_same (r.mono s4.ff)))
    · cases x with
      | fz d =>
        cases d <;> first | cases h1 | skip
        cases ho with
        | fz q => cases q with
          | tup q1 q2 => exact ⟨_, _, rfl, .inr ⟨SqT.of (e _ _ q1), k F H (Stp.refl e) pe _ [] (Got.fz (.tup q1 q2))⟩⟩
      | lst _ => cases h1
      | dct _ _ _ => cases h1
      | ins _ _ => cases h1
theorem b_int : BltAt X g .int (fun xs H Q => (∃ i, xs = [.int i] ∧ Q (.int i) H) ∨ ∃ k, xs = [.bl k] ∧ Q (.int (if k then 1 else 0)) H) :=
  b_of1 (fun _ _ => rfl) fun m x o v fp p F H Q e pe ho h k => by
    change intB x = some o at h
    unfold intB at h
    split at h
    · cases h
      cases ho with
      | fz q =>
        obtain rfl := int_at q
        exact .inl ⟨_, rfl, k F H (Stp.refl e) pe _ [] (Got.fz (.int _))⟩
    · cases h
      cases ho with
      | fz q =>
        obtain rfl := bl_at q
        exact .inr ⟨_, rfl, k F H (Stp.refl e) pe _ [] (Got.fz (.int _))⟩
    · cases h
theorem intsL_at {F H : Hp} {x : O} {v : V} {fp : List Addr} {ns : List Int} (e : Same F H) (ho : Own g F H x v fp) (h : intsL x = some ns) : ∃ a, v = .ref a ∧ SqL X.K H a (ns.map V.int) := by
  unfold intsL at h
  split at h
  · rename_i ds hx
    obtain ⟨a, vs, rfl, h2, r⟩ := lst_at e ho hx
    obtain rfl := ints_at r h
    exact ⟨a, rfl, SqL.of h2⟩
  · cases h
theorem blsL_at {F H : Hp} {x : O} {v : V} {fp : List Addr} {ns : List Bool} (e : Same F H) (ho : Own g F H x v fp) (h : blsL x = some ns) : ∃ a, v = .ref a ∧ SqL X.K H a (ns.map V.bl) := by
  unfold blsL at h
  split at h
  · rename_i ds hx
    obtain ⟨a, vs, rfl, h2, r⟩ := lst_at e ho hx
    obtain rfl := bls_at r h
    exact ⟨a, rfl, SqL.of h2⟩
  · cases h
theorem b_sum : BltAt X g .sum (rSum X.K) :=
  b_of1 (fun _ _ => rfl) fun m x o v fp p F H Q e pe ho h k => by
    obtain ⟨ns, h1, rfl⟩ := Option.map_eq_some_iff.mp (show (intsL x).map _ = some o from h)
    obtain ⟨a, rfl, q⟩ := intsL_at (X := X) e ho h1
    exact ⟨a, ns, rfl, q, k F H (Stp.refl e) pe _ [] (Got.fz (.int _))⟩
theorem b_all : BltAt X g .all (rAll X.K) :=
  b_of1 (fun _ _ => rfl) fun m x o v fp p F H Q e pe ho h k => by
    obtain ⟨ns, h1, rfl⟩ := Option.map_eq_some_iff.mp (show (blsL x).map _ = some o from h)
    obtain ⟨a, rfl, q⟩ := blsL_at (X := X) e ho h1
    exact ⟨a, ns, rfl, q, k F H (Stp.refl e) pe _ [] (Got.fz (.bl _))⟩
theorem b_any : BltAt X g .any (rAny X.K) :=
  b_of1 (fun _ _ => rfl) fun m x o v fp p F H Q e pe ho h k => by
    obtain ⟨ns, h1, rfl⟩ := Option.map_eq_some_iff.mp (show (blsL x).map _ = some o from h)
    obtain ⟨a, rfl, q⟩ := blsL_at (X := X) e ho h1
    exact ⟨a, ns, rfl, q, k F H (Stp.refl e) pe _ [] (Got.fz (.bl _))⟩
theorem maxI_spec : ∀ (ns : List Int) (n : Int), (maxI n ns = n ∨ maxI n ns ∈ ns) ∧ n ≤ maxI n ns ∧ ∀ y ∈ ns, y ≤ maxI n ns
  | [], n => ⟨.inl rfl, Int.le_refl _, fun y hy => by simp at hy⟩
  | x :: ns, n => by
    rw [maxI]
    obtain ⟨h1, h2, h3⟩ := maxI_spec ns (if n < x then x else n)
    have u1 : n ≤ (if n < x then x else n) := by split <;> omega
    have u2 : x ≤ (if n < x then x else n) := by split <;> omega
    refine ⟨?_, ?_, fun y hy => ?_⟩
    · rcases h1 with h1 | h1
      · rw [h1]
        split
        · exact .inr (by simp)
        · exact .inl rfl
      · exact .inr (List.mem_cons_of_mem _ h1)
    · exact Int.le_trans u1 h2
    · rcases List.mem_cons.mp hy with rfl | hy
      · exact Int.le_trans u2 h2
      · exact h3 y hy
theorem minI_spec : ∀ (ns : List Int) (n : Int), (minI n ns = n ∨ minI n ns ∈ ns) ∧ minI n ns ≤ n ∧ ∀ y ∈ ns, minI n ns ≤ y
  | [], n => ⟨.inl rfl, Int.le_refl _, fun y hy => by simp at hy⟩
  | x :: ns, n => by
    rw [minI]
    obtain ⟨h1, h2, h3⟩ := minI_spec ns (if x < n then x else n)
    have u1 : (if x < n then x else n) ≤ n := by split <;> omega
    have u2 : (if x < n then x else n) ≤ x := by split <;> omega
    refine ⟨?_, ?_, fun y hy => ?_⟩
    · rcases h1 with h1 | h1
      · rw [h1]
        split
        · exact .inr (by simp)
        · exact .inl rfl
      · exact .inr (List.mem_cons_of_mem _ h1)
    · exact Int.le_trans h2 u1
    · rcases List.mem_cons.mp hy with rfl | hy
      · exact Int.le_trans h2 u2
      · exact h3 y hy
theorem maxI_is {n : Int} {ns : List Int} {mx : Int} (h1 : mx ∈ n :: ns) (h2 : ∀ y, y ∈ n :: ns → y ≤ mx) : mx = maxI n ns := by
  obtain ⟨a, b, c⟩ := maxI_spec ns n
  have u : maxI n ns ≤ mx := by
    rcases a with a | a
    · rw [a]
      exact h2 n (by simp)
    · exact h2 _ (List.mem_cons_of_mem _ a)
  have l : mx ≤ maxI n ns := by
    rcases List.mem_cons.mp h1 with rfl | h1
    · exact b
    · exact c _ h1
  omega
theorem minI_is {n : Int} {ns : List Int} {mx : Int} (h1 : mx ∈ n :: ns) (h2 : ∀ y, y ∈ n :: ns → mx ≤ y) : mx = minI n ns := by
  obtain ⟨a, b, c⟩ := minI_spec ns n
  have u : mx ≤ minI n ns := by
    rcases a with a | a
    · rw [a]
      exact h2 n (by simp)
    · exact h2 _ (List.mem_cons_of_mem _ a)
  have l : minI n ns ≤ mx := by
    rcases List.mem_cons.mp h1 with rfl | h1
    · exact b
    · exact c _ h1
  omega
theorem b_max : BltAt X g .max (rMax X.K) :=
  b_of1 (fun _ _ => rfl) fun m x o v fp p F H Q e pe ho h k => by
    change maxO x = some o at h
    unfold maxO at h
    split at h
    · rename_i n ns h1
      cases h
      obtain ⟨a, rfl, q⟩ := intsL_at (X := X) e ho h1
      refine ⟨a, n :: ns, rfl, q, by simp, fun mx hm hle => ?_⟩
      rw [maxI_is hm hle]
      exact k F H (Stp.refl e) pe _ [] (Got.fz (.int _))
    · cases h
theorem b_min : BltAt X g .min (rMin X.K) :=
  b_of1 (fun _ _ => rfl) fun m x o v fp p F H Q e pe ho h k => by
    change minO x = some o at h
    unfold minO at h
    split at h
    · rename_i n ns h1
      cases h
      obtain ⟨a, rfl, q⟩ := intsL_at (X := X) e ho h1
      refine ⟨a, n :: ns, rfl, q, by simp, fun mx hm hle => ?_⟩
      rw [minI_is hm hle]
      exact k F H (Stp.refl e) pe _ [] (Got.fz (.int _))
    · cases h
theorem b_int2 {b : BF} {f : Int → Int → Int} (h1 : ∀ x, blt1 b x = none) (h2 : ∀ x y, blt2 b x y = int2 f x y) : BltAt X g b (fun xs H Q => ∃ i j, xs = [.int i, .int j] ∧ Q (.int (f i j)) H) := by
  intro m os vs o p F H Q e pe rs h k
  obtain ⟨x, y, rfl, h'⟩ := blt_2 h h1
  rw [h2] at h'
  unfold int2 at h'
  split at h'
  · rename_i i j hi hj
    cases h'
    obtain rfl := asInt_at hi
    obtain rfl := asInt_at hj
    obtain ⟨v, w, f1, f2, rfl, ho1, ho2⟩ := gots2 rs rfl
    cases ho1 with
    | fz q1 =>
      cases ho2 with
      | fz q2 =>
        obtain rfl := int_at q1
        obtain rfl := int_at q2
        exact ⟨i, j, rfl, k F H (Stp.refl e) pe _ [] (Got.fz (.int _))⟩
  · cases h'
def rSortA (K : PySem.W.Frag) : List V → Hp → VK → Prop := fun xs H Q => rSorted K xs H Q ∨ rSortedS K xs H Q
theorem cr_sortA : CallR X (.builtin "sorted") (rSortA X.K) := CallR.or cr_sorted cr_sortedS
theorem b_sorted : BltAt X g .sorted (rSortA X.K) :=
  b_of1 (fun _ _ => rfl) fun m x o v fp p F H Q e pe ho h k => by
    change sortO x = some o at h
    unfold sortO at h
    split at h
    · cases h
    · rename_i ds hx
      split at h
      · rename_i hl
        obtain ⟨a, vs, rfl, q, r⟩ := lst_at e ho hx
        split at h
        · rename_i ns hn
          cases h
          obtain rfl := ints_at r hn
          have hl2 := r.length
          rw [List.length_map] at hl2
          refine .inl ⟨a, ns, rfl, SqL.of q, by omega, fun ns' t hp hs ht => ?_⟩
          rw [sortI_of hp hs]
          obtain ⟨s4, p4⟩ := alloc (o := .lst ((sortI ns).map V.int)) e pe ht
          have := got_lst (m := m) e pe ht (reps_ints (g := g) (F := F) (sortI ns))
          rw [List.map_map] at this
          exact k F _ s4 p4 _ [t] this
        · rw [Option.map_eq_some_iff] at h
          obtain ⟨ss, hs, rfl⟩ := h
          obtain rfl := strs_at r hs
          have hl2 := r.length
          rw [List.length_map, List.length_map] at hl2
          refine .inr ⟨a, ss.map mkS, rfl, SqL.of q, by rw [List.length_map]; omega, fun ys t hp hso ht => ?_⟩
          have e1 : ys = (sortS ss).map mkS := by
            have h5 := sortS_of hp hso
            rw [List.map_map, show (TL.tl ∘ mkS) = id from rfl, List.map_id] at h5
            rw [← h5, List.map_map, show (mkS ∘ TL.tl) = id from rfl, List.map_id]
          rw [e1]
          obtain ⟨s4, p4⟩ := alloc (o := .lst (((sortS ss).map mkS).map V.str)) e pe ht
          have q3 := got_lst (m := m) e pe ht (reps_strs (g := g) (F := F) (sortS ss))
          rw [show ((sortS ss).map D.str).map O.fz = (sortS ss).map (fun s => O.fz (D.str s)) from by rw [List.map_map]; rfl] at q3
          exact k F _ s4 p4 _ [t] q3
      · cases h
/-! ### methods of texts -/
theorem few20 {env : Env} {cpos : Pos} {e : Expr} {es : List Expr} (h : (e :: es).all (fun e => !isStarE e) = true) (hl : (e :: es).length < 20) : ((backTo cpos (starEach (e :: es) env)).all (fun x => !x.1) && (backToKw cpos (keywordEach [] env)).all (fun x => x.1.isSome)
      && decide ((e :: es).length + ([] : List Keyword).length + (if ([] : List Keyword).isEmpty then 0 else 1) < 30)) = true := by
  rw [form_ok h]
  show (true && true && decide ((e :: es).length + 0 + 0 < 30)) = true
  rw [decide_eq_true (by omega)]
  rfl
def SmAt (X : Cx) (g : GE) (k : SM) (r : V → List V → Hp → VK → Prop) : Prop :=
  ∀ (m : Bool) (s : List Nat) (os : List O) (vs : List V) (o : O) (p : Pen) (F H : Hp) (Q : VK), Same F H → PenAt g F H p → Gots g F H os vs → smO k s os = some o → (∀ F' H', Stp g F H F' H' → PenAt g F' H' p → ∀ v fp, Got g m H F' H' o v fp → Q v H') → r (.str (mkS s)) vs H Q
theorem text_at {x : O} {s : List Nat} (h : text? x = some s) : x = .fz (.str s) := by
  unfold text? at h
  split at h
  · cases h
    rfl
  · cases h
theorem sign_at {x : O} {c : Nat} (h : sign? x = some c) : x = .fz (.str [c]) := by
  unfold sign? at h
  split at h
  · cases h
    rfl
  · cases h
theorem s_sm {nm : Str} {id : String} {apos : Pos} {k : SM} {r : V → List V → Hp → VK → Prop} {o e : Expr} {io : IE} {rest : List Expr} {ies : List IE} (slot : Slot "str" nm id) (hty : typeOf (.builtin id) = pure (.type "method_descriptor")) (hm : MtR X id r) (hb : SmAt X g k r)
    (ho : PE X o (tEv g S E false io)) (hp : isCall0 o = false) (ha : PA X (e :: rest) (tEvv g S E ies)) (hs : (e :: rest).all (fun e => !isStarE e) = true) (hl : (e :: rest).length < 20) (hline : (apos.endLine == pos.line) = true) :
    PE X (.Call (.Attribute o nm apos) (e :: rest) [] pos) (tEv g S E m (.sm k io ies)) :=
  (pe_bm PySem.F.plainAttrs_str slot hty hm ho ha (attr_eq hp) (few20 hs hl) hline (star_eq (by
    rw [List.all_cons, Bool.and_eq_true, Bool.not_eq_true'] at hs
    exact hs.1)) (star_plain (by
    rw [List.all_cons, Bool.and_eq_true, Bool.not_eq_true'] at hs
    exact hs.2))).weak fun σ H Q ⟨F0, H0, F, σO, pn, A, h⟩ => by
    rw [ev] at h
    refine ⟨F0, H0, F, σO, pn, A, h.bind.imp fun x p F1 H1 s1 p1 k1 v1 f1 n1 => ?_⟩
    obtain ⟨s, hx, k2⟩ := k1.bind.now s1.fh p1
    obtain rfl := text_at hx
    obtain rfl := str_at n1.rep
    refine ⟨rfl, F0, H0, F1, σO, p, A.step s1 p1, k2.bind.imp fun os p2 F2 H2 s2 p2' k3 vs rs => ?_⟩
    obtain ⟨o, h1, h2⟩ := k3.of
    exact hb m s os vs o p2 F2 H2 Q s2.fh p2' rs h1 fun F' H' s3 p3 v fp n => h2 F' H' s3 p3 v fp ((n.back s2 p2').back s1 p1)
theorem sm_1 {k : SM} {s : List Nat} {os : List O} {o : O} (h : smO k s os = some o) : ∃ y, os = [y] ∧ sm1 k s y = some o := by
  unfold smO at h
  split at h
  · exact ⟨_, rfl, h⟩
  · cases h
theorem strs1_at {F H : Hp} {x : O} {v : V} {fp : List Addr} {ss : List (List Nat)} {K : PySem.W.Frag} (e : Same F H) (ho : Own g F H x v fp) (h : strs1? x = some ss) : ∃ a, v = .ref a ∧ (SqL K H a ((ss.map mkS).map V.str) ∨ SqT K H a ((ss.map mkS).map V.str)) := by
  unfold strs1? at h
  split at h
  · rename_i ds hx
    obtain ⟨a, vs, rfl, h2, r⟩ := seq_at (K := K) e ho hx
    obtain rfl := strs_at r h
    exact ⟨a, rfl, h2⟩
  · cases h
theorem m_join : SmAt X g .join (fun x xs H Q => ∃ a p, ∃ ys : List Str, x = .str a ∧ xs = [.ref p] ∧ (SqL X.K H p (ys.map V.str) ∨ SqT X.K H p (ys.map V.str)) ∧ (ys.map (·.length)).sum + ys.length * a.length ≤ 16777216 ∧ Q (.str (Txt.join a ys)) H) := by
  intro m s os vs o p F H Q e pe rs h k
  obtain ⟨y, rfl, h'⟩ := sm_1 h
  obtain ⟨v, fp, rfl, ho, _⟩ := gots1 rs rfl
  change (match strs1? y with | some ss => smJoin s ss | none => none) = some o at h'
  split at h'
  · rename_i ss hss
    unfold smJoin at h'
    obtain ⟨hl, rfl⟩ := some_if h'
    obtain ⟨a, rfl, q⟩ := strs1_at (K := X.K) e ho hss
    refine ⟨_, a, ss.map mkS, rfl, rfl, q, ?_, ?_⟩
    · have e1 : ((ss.map mkS).map (·.length)).sum = sumLen ss := by
        unfold sumLen
        rw [List.map_map]
        congr 1
      rw [e1, List.length_map, show (mkS s).length = s.length from str_len s]
      unfold lim at hl
      omega
    · have e2 : Txt.join (mkS s) (ss.map mkS) = mkS (TL.joinL s ss) := by
        apply TL.ext_tl
        rw [TL.join_eq, TL.tl_join, List.map_map, show (TL.tl ∘ mkS) = id from rfl, List.map_id]
        rfl
      rw [e2]
      exact k F H (Stp.refl e) pe _ [] (Got.fz (.str _))
  · cases h'
theorem m_index : SmAt X g .index (fun x xs H Q => ∃ a b i rest, x = .str a ∧ xs = [.str b] ∧ Builtin.Str.occurrences a b 0 a.length 1 = i :: rest ∧ Q (.int (i : Nat)) H) := by
  intro m s os vs o p F H Q e pe rs h k
  obtain ⟨y, rfl, h'⟩ := sm_1 h
  obtain ⟨v, fp, rfl, ho, _⟩ := gots1 rs rfl
  change (match sign? y with | some c => smIndex s c | none => none) = some o at h'
  split at h'
  · rename_i c hc
    unfold smIndex at h'
    split at h'
    · obtain ⟨n, hn, rfl⟩ := Option.map_eq_some_iff.mp h'
      obtain rfl := sign_at hc
      cases ho with
      | fz q =>
        obtain rfl := str_at q
        exact ⟨_, _, n, [], rfl, rfl, occ_index hn, k F H (Stp.refl e) pe _ [] (Got.fz (.int _))⟩
    · cases h'
  · cases h'
end
end Bc
set_option Elab.async false
set_option linter.all false
set_option maxRecDepth 100000
set_option maxHeartbeats 4000000
/-! Part C7. What a for walks: lists, tuples, texts, ranges, enumerate, zip. -/
namespace Bc
open PySem PySem.Spec L2

/-! ### sources -/
inductive Src where
  | lst (a : Addr)
  | tup (a : Addr)
  | txt (z : List Nat)
def Src.at (K : PySem.W.Frag) (H : Hp) : Src → List V → Prop
  | .lst a, xs => SqL K H a xs
  | .tup a, xs => SqT K H a xs
  | .txt z, xs => xs = z.map fun c => V.str ⟨#[c]⟩
def Src.ow : Src → List Addr
  | .lst a => [a]
  | .tup a => [a]
  | .txt _ => []
/-- the iterator's record -/
def Src.ir (it : Addr) (i : Nat) (h : Heap) : Src → Prop
  | .lst a => h.IsListIter it a i
  | .tup a => h.IsTupleIter it a i
  | .txt z => ∃ t, h.IsStrIter it (strIterType (mkS z)) (mkS z) t i
theorem Src.ir_obj {src : Src} {it : Addr} {i : Nat} {h : Heap} (r : src.ir it i h) : ∃ o, h.get? it = some o ∧ (∀ v, o.data ≠ .cell v) ∧ o.cls ≠ .type "enumerate" ∧ o.cls ≠ .type "zip" ∧ o.cls ≠ .type "tuple" ∧ o.cls ≠ .type "list" := by
  cases src with
  | lst a =>
    obtain ⟨o, ho, hc, hd⟩ := r
    exact ⟨o, ho, fun v q => (by rw [hd] at q; cases q), by rw [hc]; decide, by rw [hc]; decide, by rw [hc]; decide, by rw [hc]; decide⟩
  | tup a =>
    obtain ⟨o, ho, hc, hd⟩ := r
    exact ⟨o, ho, fun v q => (by rw [hd] at q; cases q), by rw [hc]; decide, by rw [hc]; decide, by rw [hc]; decide, by rw [hc]; decide⟩
  | txt z =>
    obtain ⟨t, o, ho, hc, hd⟩ := r
    refine ⟨o, ho, fun v q => (by rw [hd] at q; cases q), ?_, ?_, ?_, ?_⟩
    all_goals
      rw [hc]
      unfold strIterType
      split <;> decide
theorem Src.ir_keep {src : Src} {it : Addr} {i : Nat} {h h' : Heap} (r : src.ir it i h) (k : ∀ o, h.get? it = some o → h'.get? it = some o) : src.ir it i h' := by
  cases src with
  | lst a => exact r.at k
  | tup a => exact Heap.IsTupleIter.at r k
  | txt z =>
    obtain ⟨t, o, ho, q⟩ := r
    exact ⟨t, o, k o ho, q⟩
theorem Src.length {X : Cx} {pins : List (Addr × Obj)} {σ : St} {H : Hp} {s : Shared} (I : Inv X pins σ H s) {src : Src} {xs ys : List V} (h1 : src.at X.K H xs) (h2 : src.at X.K H ys) : xs = ys := by
  cases src with
  | lst a => exact I.list_inj h1 h2
  | tup a => exact I.tuple_inj h1 h2
  | txt z => exact h1.trans h2.symm
/-- what the iterator draws, for enumerate and zip -/
theorem Src.draws {X : Cx} {pins : List (Addr × Obj)} {σ : St} {H : Hp} {s : Shared} (I : Inv X pins σ H s) (hc : X.calm = true) {src : Src} {xs : List V} {it : Addr} {i : Nat} (h : src.at X.K H xs) (r : src.ir it i s.heap) :
    ∃ (fp : List Addr) (P : Nat → Value → Prop) (Q : Nat → Heap → Prop), Draws X.prog X.w X.A.in1 it fp xs.length P Q ∧ it ∈ fp ∧ Q i s.heap ∧ (∀ j v, P j v → ∃ x, xs[j]? = some x ∧ RelV x v) ∧ (∀ j h', Q j h' → src.ir it j h') ∧
      ∀ b ∈ fp, b = it ∨ b ∈ src.ow := by
  have hh : X.A.in1.handled = none := I.ok.hd hc
  obtain ⟨o0, ho0, _, _, _, nt, nl⟩ := Src.ir_obj r
  cases src with
  | lst a =>
    obtain ⟨its, rv, p, hz⟩ := I.list h
    have hl := rv.length
    obtain ⟨ol, hol, hcl, nl', hdl⟩ := p.isList
    have ne : a ≠ it := fun z => by
      rw [z, ho0] at hol
      cases hol
      exact nl hcl
    have D := Draws.list (prog := X.prog) (w := X.w) hh it a ne its.toArray
    rw [List.size_toArray, ← hl] at D
    refine ⟨_, _, _, D, by simp, ⟨r, p.isList⟩, fun j v hv => ?_, fun j h' q => q.1, fun b hb => ?_⟩
    · have hv' : its[j]? = some v := by simpa using hv
      cases e : xs[j]? with
      | none =>
        have := rv.none_of e
        rw [hv'] at this
        cases this
      | some x =>
        obtain ⟨u, hu, ru⟩ := rv.get e
        rw [hv'] at hu
        cases hu
        exact ⟨x, rfl, ru⟩
    · have hb' : b = it ∨ b = a := by simpa using hb
      rcases hb' with e | e
      · exact .inl e
      · exact .inr (by simp [Src.ow, e])
  | tup a =>
    obtain ⟨its, rv, p, hz⟩ := I.tuple h
    have hl := rv.length
    obtain ⟨ol, hol, hcl, nl', hdl⟩ := id p
    have ne : a ≠ it := fun z => by
      rw [z, ho0] at hol
      cases hol
      exact nt hcl
    have D := Draws.tuple (prog := X.prog) (w := X.w) hh it a ne its.toArray
    rw [List.size_toArray, ← hl] at D
    refine ⟨_, _, _, D, by simp, ⟨r, p⟩, fun j v hv => ?_, fun j h' q => q.1, fun b hb => ?_⟩
    · have hv' : its[j]? = some v := by simpa using hv
      cases e : xs[j]? with
      | none =>
        have := rv.none_of e
        rw [hv'] at this
        cases this
      | some x =>
        obtain ⟨u, hu, ru⟩ := rv.get e
        rw [hv'] at hu
        cases hu
        exact ⟨x, rfl, ru⟩
    · have hb' : b = it ∨ b = a := by simpa using hb
      rcases hb' with e | e
      · exact .inl e
      · exact .inr (by simp [Src.ow, e])
  | txt z =>
    obtain ⟨t, q⟩ := r
    subst h
    have D := Draws.text (prog := X.prog) (w := X.w) hh it (mkS z) t
    have hz : (mkS z).cps.size = (z.map fun c => V.str ⟨#[c]⟩).length := by
      rw [List.length_map]
      exact str_len z
    rw [hz] at D
    refine ⟨_, _, _, D, by simp, q, fun j v hv => ?_, fun j h' q => ⟨t, q⟩, fun b hb => .inl (by simpa using hb)⟩
    obtain ⟨c, u, h1, rfl⟩ := hv
    refine ⟨.str ⟨#[c]⟩, ?_, ⟨u, rfl⟩⟩
    rw [List.getElem?_map]
    have : z[j]? = some c := by simpa [mkS] using h1
    rw [this]
    rfl

theorem Src.ir_lt {src : Src} {it : Addr} {i : Nat} {h : Heap} (r : src.ir it i h) : it < h.objs.size := by
  obtain ⟨o, ho, _⟩ := Src.ir_obj r
  exact Heap.lt_size ho

/-! ### enumerate over a source -/
def Iten (K : PySem.W.Frag) (src : Src) (k : Int) : It :=
  ⟨fun i H => ∃ (xs : List V) (x : V), src.at K H xs ∧ xs[i]? = some x,
    fun i H v H' => ∃ T x, v = .ref T ∧ H T = none ∧ H' = upd H T (.tup [.int (k + (i : Nat)), x]) ∧ ∀ xs, src.at K H xs → xs[i]? = some x,
    fun i H => ∃ xs : List V, src.at K H xs ∧ xs.length = i⟩
theorem turn_enumS {P : Program} {w : World} {K : PySem.W.Frag} {elts : List Expr} {kk : Nat} {tpos : Pos} (src : Src) (k : Int) (e it : Addr) :
    Turn P w K (.Tuple elts kk tpos) (Iten K src k) [e, it] e (fun i h => (∃ old, IsEnum h e it (k + (i : Nat)) old) ∧ src.ir it i h ∧ e ≠ it ∧ e ∉ src.ow) where
  mem := by simp
  obj := fun i h st b hb => by
    obtain ⟨⟨old, he⟩, hi, _⟩ := st
    have e' : b = e ∨ b = it := by simpa using hb
    rcases e' with z | z
    · rw [z]; exact ⟨_, he, fun v q => nomatch q⟩
    · rw [z]
      obtain ⟨o, ho, nc, _⟩ := Src.ir_obj hi
      exact ⟨o, ho, nc⟩
  keep := fun i h h' st hk => let ⟨⟨old, he⟩, hi, hne⟩ := st; ⟨⟨old, hk e (by simp) _ he⟩, Src.ir_keep hi fun o q => hk it (by simp) o q, hne⟩
  item := by
    intro X hP hw hK hc i pins s σ H E I hf st hg
    subst hP hw hK
    obtain ⟨⟨old, he⟩, hit, hne, hno⟩ := st
    obtain ⟨xs, x, hq, hx⟩ := hg
    obtain ⟨fp, Pv, Qs, D, hif, hQ, hP, hQi, hfp⟩ := Src.draws I hc hq hit
    have hef : e ∉ fp := fun z => (hfp e z).elim hne hno
    have W := WalksT.enumFrom k D e hne hef hif
    have hi : i < xs.length := by
      have := List.getElem?_eq_some_iff.mp hx
      exact this.1
    refine W.item i s _ _ hi ⟨⟨old, he⟩, hQ⟩ fun T vals h' tk hp hTs hT hm hk => ?_
    obtain ⟨t, u, hu, rfl⟩ := hp
    obtain ⟨x', hx', ru⟩ := hP i u hu
    rw [hx] at hx'
    cases hx'
    refine ⟨_, rfl, W.go elts kk tpos i T { s with heap := h', toks := tk } _ _ hm fun h'' st' hk' => ?_⟩
    have hTn := W.apart i T h' hm
    have hT2 : h''.IsTuple T #[.int (k + (i : Int)) t, u] := Heap.IsTuple.at hT fun o q => hk' T o hTn q
    have fresh : H T = none := I.hok.fresh hTs
    have new : ObjOk X.prog X.w (upd H T (.tup [.int (k + (i : Nat)), x])) h'' T (.tup [.int (k + (i : Nat)), x]) :=
      ⟨by show 2 ≤ sizeLine; decide, [.int (k + (i : Nat)) t, u], .cons ⟨_, rfl⟩ (.cons ru .nil), hT2⟩
    have I1 : Inv X pins σ (upd H T (.tup [.int (k + (i : Nat)), x])) { s with heap := h'', toks := tk } :=
      I.turnedNew (ch := [e, it]) (fun b ob hb q => hk' b ob hb (hk b ob hb q)) hf hTs new
    obtain ⟨⟨old', he'⟩, hQ'⟩ := st'
    refine ⟨.ref T, _, I1, rfl, ⟨T, x, rfl, fresh, rfl, fun ys hy => (Src.length I hy hq) ▸ hx⟩, ⟨⟨old', he'⟩, hQi _ _ hQ', hne, hno⟩, fun b hb => ?_⟩
    have hb' : b < s.heap.objs.size := by
      have e' : b = e ∨ b = it := by simpa using hb
      rcases e' with z | z
      · rw [z]; exact Heap.lt_size he
      · rw [z]; exact Src.ir_lt hit
    rw [upd_ne (Nat.ne_of_lt (Nat.lt_of_lt_of_le hb' hTs))]
    exact (hf b hb).1
  done := by
    intro X hP hw hK hc i pins s σ H E I hf st hg
    subst hP hw hK
    obtain ⟨⟨old, he⟩, hit, hne, hno⟩ := st
    obtain ⟨xs, hq, hx⟩ := hg
    obtain ⟨fp, Pv, Qs, D, hif, hQ, hP, hQi, hfp⟩ := Src.draws I hc hq hit
    have hef : e ∉ fp := fun z => (hfp e z).elim hne hno
    have W := WalksT.enumFrom k D e hne hef hif
    subst hx
    exact W.done s _ _ ⟨⟨old, he⟩, hQ⟩ fun h' tk hk => ⟨rfl, I.turnedL (ch := [e, it]) (fun b ob hb q => hk b ob hb q) hf⟩
  self := fun A i s Q E st h => let ⟨⟨_, he⟩, _⟩ := st; wpAny_pyIter_enum he h

/-! ### zip of two sources -/
def Itzp (K : PySem.W.Frag) (s1 s2 : Src) : It :=
  ⟨fun i H => ∃ (xs ys : List V) (x y : V), s1.at K H xs ∧ s2.at K H ys ∧ xs[i]? = some x ∧ ys[i]? = some y,
    fun i H v H' => ∃ T x y, v = .ref T ∧ H T = none ∧ H' = upd H T (.tup [x, y]) ∧ (∀ xs, s1.at K H xs → xs[i]? = some x) ∧ ∀ ys, s2.at K H ys → ys[i]? = some y,
    fun i H => ∃ xs ys : List V, s1.at K H xs ∧ s2.at K H ys ∧ min xs.length ys.length = i⟩
/-- zip's five records stand apart, and from the sources -/
structure Zap (z TI TO i1 i2 : Addr) (o1 o2 : List Addr) : Prop where
  a : TI ≠ z
  b : TO ≠ z
  c : TI ≠ TO
  d : TI ≠ i1
  e : TI ≠ i2
  f : z ≠ i1
  g : z ≠ i2
  h : TO ≠ i1
  i : TO ≠ i2
  j : i1 ≠ i2
  u : ∀ b, b = z ∨ b = TO ∨ b = i1 ∨ b = i2 → b ∉ o1 ∧ b ∉ o2
theorem Zap.new {N : Nat} {o1 o2 : List Addr} (h1 : ∀ b ∈ o1, b < N) (h2 : ∀ b ∈ o2, b < N) : Zap (N + 4) (N + 2) (N + 3) N (N + 1) o1 o2 :=
  ⟨by show (N + 2 : Nat) ≠ N + 4; omega, by show (N + 3 : Nat) ≠ N + 4; omega, by show (N + 2 : Nat) ≠ N + 3; omega, by show (N + 2 : Nat) ≠ N; omega, by show (N + 2 : Nat) ≠ N + 1; omega,
    by show (N + 4 : Nat) ≠ N; omega, by show (N + 4 : Nat) ≠ N + 1; omega, by show (N + 3 : Nat) ≠ N; omega, by show (N + 3 : Nat) ≠ N + 1; omega, by show (N : Nat) ≠ N + 1; omega,
    fun b hb => by
      have hb' : N ≤ b := by
        rcases hb with z | z | z | z <;> rw [z] <;> first | exact Nat.le_add_right _ _ | exact Nat.le_refl _
      exact ⟨fun z => absurd (h1 b z) (Nat.not_lt.mpr hb'), fun z => absurd (h2 b z) (Nat.not_lt.mpr hb')⟩⟩
def Zst (s1 s2 : Src) (z TI TO i1 i2 : Addr) (i : Nat) (h : Heap) : Prop :=
  IsZip h z TI TO .none ∧ IsTupOf2 h TI (.ref i1) (.ref i2) ∧ (∃ x y, IsTupOf2 h TO x y) ∧ s1.ir i1 i h ∧ s2.ir i2 i h
theorem Zap.sep {z TI TO i1 i2 : Addr} {o1 o2 f1 f2 : List Addr} (D : Zap z TI TO i1 i2 o1 o2) (m1 : i1 ∈ f1) (m2 : i2 ∈ f2) (h1 : ∀ b ∈ f1, b = i1 ∨ b ∈ o1) (h2 : ∀ b ∈ f2, b = i2 ∨ b ∈ o2) : ZipSep2 z TI TO i1 i2 f1 f2 where
  TIz := D.a
  TOz := D.b
  TITO := D.c
  TIi1 := D.d
  mem1 := m1
  zf1 := fun q => (h1 _ q).elim D.f (D.u _ (.inl rfl)).1
  Tf1 := fun q => (h1 _ q).elim D.h (D.u _ (.inr (.inl rfl))).1
  TIi2 := D.e
  mem2 := m2
  zf2 := fun q => (h2 _ q).elim D.g (D.u _ (.inl rfl)).2
  Tf2 := fun q => (h2 _ q).elim D.i (D.u _ (.inr (.inl rfl))).2
  sep1_2 := fun q => (h2 _ q).elim D.j (D.u _ (.inr (.inr (.inl rfl)))).2
  sep2_1 := fun q => (h1 _ q).elim (Ne.symm D.j) (D.u _ (.inr (.inr (.inr rfl)))).1
theorem turn_zipS {P : Program} {w : World} {K : PySem.W.Frag} {elts : List Expr} {kk : Nat} {tpos : Pos} {s1 s2 : Src} {z TI TO i1 i2 : Addr} (D : Zap z TI TO i1 i2 s1.ow s2.ow) :
    Turn P w K (.Tuple elts kk tpos) (Itzp K s1 s2) [z, TI, TO, i1, i2] z (Zst s1 s2 z TI TO i1 i2) where
  mem := by simp
  obj := fun i h st c hc => by
    obtain ⟨hz, hTI, ⟨x, y, hTO⟩, h1, h2⟩ := st
    have e' : c = z ∨ c = TI ∨ c = TO ∨ c = i1 ∨ c = i2 := by simpa using hc
    rcases e' with q | q | q | q | q
    · rw [q]; exact ⟨_, hz, fun v q => nomatch q⟩
    · rw [q]; exact ⟨_, hTI, fun v q => nomatch q⟩
    · rw [q]; exact ⟨_, hTO, fun v q => nomatch q⟩
    · rw [q]
      obtain ⟨o, ho, nc, _⟩ := Src.ir_obj h1
      exact ⟨o, ho, nc⟩
    · rw [q]
      obtain ⟨o, ho, nc, _⟩ := Src.ir_obj h2
      exact ⟨o, ho, nc⟩
  keep := fun i h h' st k => by
    obtain ⟨hz, hTI, ⟨x, y, hTO⟩, h1, h2⟩ := st
    exact ⟨k z (by simp) _ hz, k TI (by simp) _ hTI, ⟨x, y, k TO (by simp) _ hTO⟩, Src.ir_keep h1 fun o q => k i1 (by simp) o q, Src.ir_keep h2 fun o q => k i2 (by simp) o q⟩
  item := by
    intro X hP hw hK hc i pins s σ H E I hf st hg
    subst hP hw hK
    obtain ⟨hz, hTI, hTO, h1, h2⟩ := st
    obtain ⟨xs, ys, x, y, hqx, hqy, hx, hy⟩ := hg
    obtain ⟨f1, P1, Q1, D1, m1, q1, hP1, hQ1, hf1⟩ := Src.draws I hc hqx h1
    obtain ⟨f2, P2, Q2, D2, m2, q2, hP2, hQ2, hf2⟩ := Src.draws I hc hqy h2
    have W := WalksT.zipD2 (D.sep m1 m2 hf1 hf2) D1 D2
    have l1 : i < xs.length := (List.getElem?_eq_some_iff.mp hx).1
    have l2 : i < ys.length := (List.getElem?_eq_some_iff.mp hy).1
    refine W.item i s _ _ (by omega) ⟨hz, hTI, hTO, q1, q2⟩ fun T vals h' tk hp hTs hT hm hk => ?_
    obtain ⟨u1, u2, hu1, hu2, rfl⟩ := hp
    obtain ⟨x', hx', ru⟩ := hP1 i u1 hu1
    rw [hx] at hx'
    cases hx'
    obtain ⟨y', hy', ru2⟩ := hP2 i u2 hu2
    rw [hy] at hy'
    cases hy'
    refine ⟨_, rfl, W.go elts kk tpos i T { s with heap := h', toks := tk } _ _ hm fun h'' st' hk' => ?_⟩
    have hTn := W.apart i T h' hm
    have hT2 : h''.IsTuple T #[u1, u2] := Heap.IsTuple.at hT fun o q => hk' T o hTn q
    have fresh : H T = none := I.hok.fresh hTs
    have new : ObjOk X.prog X.w (upd H T (.tup [x, y])) h'' T (.tup [x, y]) :=
      ⟨by show 2 ≤ sizeLine; decide, [u1, u2], .cons ru (.cons ru2 .nil), hT2⟩
    have sub : ∀ b, b ∉ [z, TI, TO, i1, i2] → b ∉ [z, TO, i1, i2] := fun b hb q => hb (by
      have q' : b = z ∨ b = TO ∨ b = i1 ∨ b = i2 := by simpa using q
      rcases q' with q' | q' | q' | q' <;> simp [q'])
    have I1 : Inv X pins σ (upd H T (.tup [x, y])) { s with heap := h'', toks := tk } :=
      I.turnedNew (ch := [z, TI, TO, i1, i2]) (fun b ob hb q => hk' b ob (sub b hb) (hk b ob (sub b hb) q)) hf hTs new
    obtain ⟨hz', hTI', hTO', q1', q2'⟩ := st'
    refine ⟨.ref T, _, I1, rfl, ⟨T, x, y, rfl, fresh, rfl, fun l hl => (Src.length I hl hqx) ▸ hx, fun l hl => (Src.length I hl hqy) ▸ hy⟩, ⟨hz', hTI', hTO', hQ1 _ _ q1', hQ2 _ _ q2'⟩, fun c hcm => ?_⟩
    have hlt : c < s.heap.objs.size := by
      have e' : c = z ∨ c = TI ∨ c = TO ∨ c = i1 ∨ c = i2 := by simpa using hcm
      obtain ⟨_, _, hTO⟩ := hTO
      rcases e' with q | q | q | q | q
      · rw [q]; exact Heap.lt_size hz
      · rw [q]; exact Heap.lt_size hTI
      · rw [q]; exact Heap.lt_size hTO
      · rw [q]; exact Src.ir_lt h1
      · rw [q]; exact Src.ir_lt h2
    rw [upd_ne (Nat.ne_of_lt (Nat.lt_of_lt_of_le hlt hTs))]
    exact (hf c hcm).1
  done := by
    intro X hP hw hK hc i pins s σ H E I hf st hg
    subst hP hw hK
    obtain ⟨hz, hTI, hTO, h1, h2⟩ := st
    obtain ⟨xs, ys, hqx, hqy, hend⟩ := hg
    obtain ⟨f1, P1, Q1, D1, m1, q1, hP1, hQ1, hf1⟩ := Src.draws I hc hqx h1
    obtain ⟨f2, P2, Q2, D2, m2, q2, hP2, hQ2, hf2⟩ := Src.draws I hc hqy h2
    have W := WalksT.zipD2 (D.sep m1 m2 hf1 hf2) D1 D2
    subst hend
    refine W.done s _ _ ⟨hz, hTI, hTO, q1, q2⟩ fun h' tk hk => ⟨rfl, I.turnedL (ch := [z, TI, TO, i1, i2]) (fun b ob hb q => hk b ob (fun q => hb (by
      have q' : b = z ∨ b = TO ∨ b = i1 ∨ b = i2 := by simpa using q
      rcases q' with q' | q' | q' | q' <;> simp [q'])) q) hf⟩
  self := fun A i s Q E st h => wpAny_pyIter_zip st.1 h

/-! ### how they begin -/
/-- the value that a source is -/
def Src.val : Src → V
  | .lst a => .ref a
  | .tup a => .ref a
  | .txt z => .str (mkS z)
theorem Src.begins {X : Cx} {pins : List (Addr × Obj)} {σ : St} {H : Hp} {s : Shared} (I : Inv X pins σ H s) {src : Src} {xs : List V} {u : Value} (h : src.at X.K H xs) (r : RelV src.val u) :
    ∃ (o : Obj) (Hh : Heap → Prop), Begins u o Hh ∧ Hh s.heap ∧ (∀ it h', h'.get? it = some o → src.ir it 0 h') ∧ ∀ b ∈ src.ow, b < s.heap.objs.size := by
  cases src with
  | lst a =>
    obtain ⟨its, rv, p, hz⟩ := I.list h
    obtain rfl : u = Value.ref a := r
    exact ⟨_, _, begins_list a its.toArray, p.isList, fun it h' e => ⟨_, e, rfl, rfl⟩, fun b hb => (List.mem_singleton.mp hb) ▸ p.lt⟩
  | tup a =>
    obtain ⟨its, rv, p, hz⟩ := I.tuple h
    obtain rfl : u = Value.ref a := r
    obtain ⟨o, ho, _⟩ := id p
    exact ⟨_, _, begins_tuple a its.toArray, p, fun it h' e => ⟨_, e, rfl, rfl⟩, fun b hb => (List.mem_singleton.mp hb) ▸ Heap.lt_size ho⟩
  | txt z =>
    obtain ⟨t, rfl⟩ := r
    exact ⟨_, _, begins_text (mkS z) t, trivial, fun it h' e => ⟨t, _, e, rfl, rfl⟩, fun b hb => by cases hb⟩
section
variable {prog : Program} {w : World} {A : Around} {E : Value → Shared → Prop} {s : Shared}
set_option maxHeartbeats 1000000 in
theorem meets_enum1 {v : Value} {o : Obj} {H : Heap → Prop} (B : Begins v o H) :
    Meets (Builtin.«enumerate.__new__» ⟨[.type "enumerate", v], []⟩) (fun _ R s => H s.heap ∧
      R (.ok (.ret (.ref (s.heap.push o).objs.size))) { s with heap := (s.heap.push o).push { cls := .type "enumerate", data := .fields #[.none, .bool false, .ref s.heap.objs.size, rawInt 0, .none, .none] } }) :=
  .of_wp fun prog w A R s h => by
    obtain ⟨hp, g, d, tk, os⟩ := s; obtain ⟨h1, h⟩ := h
    have hsub := sub_enumerate
    have q1 : ∀ {A' : Around} {E : Value → Shared → Prop} {Q : Value → Shared → Prop}, Q (.ref hp.objs.size) ⟨hp.push o, g, d, tk, os⟩ → wpAny (model prog w) A' (pyIter v) Q E ⟨hp, g, d, tk, os⟩ :=
      fun q => B.iter prog w _ _ ⟨hp, g, d, tk, os⟩ _ h1 q
    wp_walk using q1
    refine wpAny_stack_any fun st => wpAny_pure ?_
    split
    · rename_i c _ _ _ _ _
      cases (c == Value.type "enumerate")
      · wp_walk using q1
        exact ⟨_, rfl, h⟩
      · wp_walk using q1
        exact ⟨_, rfl, h⟩
    · wp_walk using q1
      exact ⟨_, rfl, h⟩
/-- enumerate(v): its two new cells -/
theorem enum_begins1 {v : Value} {o : Obj} {H : Heap → Prop} {Q : Value → Shared → Prop} (B : Begins v o H) (h1 : H s.heap)
    (h : ∀ h', IsEnum h' (s.heap.objs.size + 1) s.heap.objs.size 0 .none → h'.get? s.heap.objs.size = some o →
      (∀ b o, s.heap.get? b = some o → h'.get? b = some o) → Q (.ref (s.heap.objs.size + 1)) { s with heap := h' }) :
    wpAny (model prog w) A (call (.type "enumerate") [v]) Q E s := by
  refine callType_new F.called_enumerate (by decide) (F.typeCall_enumerate_1 _) (F.newCall_enumerate_1 _) (fun obj => F.args_object_init_2 obj _) F.entry_enumerate_new
    (meets_enum1 B) ⟨h1, ?_⟩
  have hz : (s.heap.push o).objs.size = s.heap.objs.size + 1 := Heap.size_push ..
  show _ ∧ _
  rw [hz]
  have he : IsEnum ((s.heap.push o).push { cls := .type "enumerate", data := .fields #[.none, .bool false, .ref s.heap.objs.size, rawInt 0, .none, .none] }) (s.heap.objs.size + 1) s.heap.objs.size 0 .none := by
    have := Heap.get?_push_size (s.heap.push o) (o := { cls := .type "enumerate", data := .fields #[.none, .bool false, .ref s.heap.objs.size, rawInt 0, .none, .none] }) rfl
    rw [hz] at this; exact this
  exact ⟨⟨_, he, rfl⟩, h _ he (Heap.get?_push_of_some _ (Heap.get?_push_size _ B.free)) fun b o x => Heap.get?_push_of_some _ (Heap.get?_push_of_some _ x)⟩
end
def iEnS (K : PySem.W.Frag) (ta : TA) : TI := fun σ H R => ta σ H fun vs H1 => ∃ src xs, vs = [src.val] ∧ src.at K H1 xs ∧ R (Iten K src 0) H1
theorem pi_enumS {X : Cx} {e : Expr} {ta : TA} {p pos tpos : Pos} {elts : List Expr} {kk : Nat} (hg : Gl X "enumerate") (hm : X.mg "enumerate" = none) (ha : PA X [e] ta) (hs : starEach [e] X.env = [(false, eval e X.env)] := by rfl) :
    PI X (.Tuple elts kk tpos) (.Call (.Name "enumerate" p) [e] [] pos) (iEnS X.K ta) := by
  refine ⟨fun pins s σ H R I h => ?_⟩
  refine PyProof.Rows.Call_ (ld_blt I hg hm PyProof.Rows.boot_enumerate (PyProof.Rows.callWith_type1 (thn (ha.run pos pins s σ H _ I h) fun us s1 ⟨vs, H1, I1, r1, q1⟩ => ?_) hs rfl))
  obtain ⟨src, xs, ex, hq, q⟩ := q1
  subst ex
  cases r1 with
  | cons r rr =>
    cases rr
    obtain ⟨o, Hh, B, b1, b2, b3⟩ := Src.begins I1 hq r
    refine enum_begins1 B b1 fun h' he ho hk => wpAny_pyIter_enum he ?_
    have I2 : Inv X pins σ H1 { s1 with heap := h' } := I1.kept (t' := s1.toks) hk
    refine ⟨s1.heap.objs.size + 1, [s1.heap.objs.size + 1, s1.heap.objs.size], _, _, H1, rfl, I2, turn_enumS src 0 (s1.heap.objs.size + 1) s1.heap.objs.size, ⟨⟨.none, he⟩, b2 _ _ ho, Nat.succ_ne_self _, fun z => absurd (b3 _ z) (Nat.not_lt.mpr (Nat.le_add_right _ _))⟩, fun b hb => ?_, q⟩
    have e' : b = s1.heap.objs.size + 1 ∨ b = s1.heap.objs.size := by simpa using hb
    have hle : s1.heap.objs.size ≤ b := by
      rcases e' with z | z
      · rw [z]; exact Nat.le_add_right _ _
      · rw [z]; exact Nat.le_refl _
    exact I1.fpOk hle (I1.hok.fresh hle)
def iZpS (K : PySem.W.Frag) (ta : TA) : TI := fun σ H R => ta σ H fun vs H1 => ∃ s1 s2 xs ys, vs = [s1.val, s2.val] ∧ s1.at K H1 xs ∧ s2.at K H1 ys ∧ R (Itzp K s1 s2) H1
theorem pi_zipS {X : Cx} {e e2 : Expr} {ta : TA} {p pos tpos : Pos} {elts : List Expr} {kk : Nat} (hg : Gl X "zip") (hm : X.mg "zip" = none) (ha : PA X [e, e2] ta)
    (hs : starEach [e, e2] X.env = (false, eval e X.env) :: starEach [e2] X.env := by rfl) (hpl : (backTo pos (starEach [e2] X.env)).any (·.1) = false := by rfl) :
    PI X (.Tuple elts kk tpos) (.Call (.Name "zip" p) [e, e2] [] pos) (iZpS X.K ta) := by
  refine ⟨fun pins s σ H R I h => ?_⟩
  refine PyProof.Rows.Call_ (ld_blt I hg hm PyProof.Rows.boot_zip (PyProof.Rows.callWith_type1 (thn (ha.run pos pins s σ H _ I h) fun us s1 ⟨vs, H1, I1, r1, q1⟩ => ?_) hs hpl))
  obtain ⟨sa, sb, xs, ys, ex, hqx, hqy, q⟩ := q1
  subst ex
  cases r1 with
  | cons r rr =>
    cases rr with
    | cons r' rr =>
      cases rr
      obtain ⟨o1, Hh1, B1, b1, c1, d1⟩ := Src.begins I1 hqx r
      obtain ⟨o2, Hh2, B2, b2, c2, d2⟩ := Src.begins I1 hqy r'
      have fresh5 : ∀ c, c ∈ [s1.heap.objs.size + 4, s1.heap.objs.size + 2, s1.heap.objs.size + 3, s1.heap.objs.size, s1.heap.objs.size + 1] → FpOk X pins H1 c := fun c hcm => by
        have e' : c = s1.heap.objs.size + 4 ∨ c = s1.heap.objs.size + 2 ∨ c = s1.heap.objs.size + 3 ∨ c = s1.heap.objs.size ∨ c = s1.heap.objs.size + 1 := by simpa using hcm
        have hle : s1.heap.objs.size ≤ c := by
          rcases e' with z | z | z | z | z
          · rw [z]; exact Nat.le_add_right _ _
          · rw [z]; exact Nat.le_add_right _ _
          · rw [z]; exact Nat.le_add_right _ _
          · rw [z]; exact Nat.le_refl _
          · rw [z]; exact Nat.le_add_right _ _
        exact I1.fpOk hle (I1.hok.fresh hle)
      refine zip_begins2 B1 B2 b1 b2 fun h' hz hTI hTO h1 h2 hsz hk => wpAny_pyIter_zip hz ?_
      have I2 : Inv X pins σ H1 { s1 with heap := h' } := I1.kept (t' := s1.toks) hk
      exact ⟨s1.heap.objs.size + 4, [s1.heap.objs.size + 4, s1.heap.objs.size + 2, s1.heap.objs.size + 3, s1.heap.objs.size, s1.heap.objs.size + 1], _, _, H1, rfl, I2, turn_zipS (Zap.new d1 d2), ⟨hz, hTI, ⟨_, _, hTO⟩, c1 _ _ h1, c2 _ _ h2⟩, fresh5, q⟩
end Bc
set_option Elab.async false
set_option linter.all false
set_option maxRecDepth 100000
set_option maxHeartbeats 4000000
/-! Part C8. What a for goes through: readings of iterables and targets. -/
namespace Bc
open PySem PySem.Spec L2

theorem After.err {g : GE} {F H : Hp} {E E' : XK} {α : Type} {r : Option (Except Exc α × Pen)} {K : α → Pen → Hp → Hp → Prop} (h : After g F H E r K) (k : ∀ c d H, E c d H → E' c d H) : After g F H E' r K := by
  obtain ⟨⟨r, p⟩, h1, h2⟩ := h
  cases r with
  | ok a => exact ⟨_, h1, h2⟩
  | error x => exact ⟨_, h1, fun c d F' H' s q e => k _ _ _ (h2 c d F' H' s q e)⟩
theorem _root_.L2.PI.weak {X : Cx} {tg e : Expr} {t t' : TI} (h : PI X tg e t) (k : ∀ σ H R, t' σ H R → t σ H R) : PI X tg e t' := ⟨fun pins s σ H R I hw => h.run pins s σ H R I (k σ H R hw)⟩
theorem _root_.L2.PG.weak {X : Cx} {e : Expr} {t t' : TG} (h : PG X e t) (k : ∀ v σ H Q, t' v σ H Q → t v σ H Q) : PG X e t' := ⟨fun pins s σ H v u Q I r hw => h.run pins s σ H v u Q I r (k v σ H Q hw)⟩
theorem _root_.L2.PGs.weak {X : Cx} {e : List Expr} {t t' : TGs} (h : PGs X e t) (k : ∀ v σ H Q, t' v σ H Q → t v σ H Q) : PGs X e t' := ⟨fun pins s σ H v u Q I r hw => h.run pins s σ H v u Q I r (k v σ H Q hw)⟩

/-! ### what an iterator yields -/
/-- J goes through the frozen items ds -/
structure ItGood (g : GE) (J : It) (ds : List D) (F : Hp) : Prop where
  go : ∀ i F' H', Same F F' → Same F' H' → i < ds.length → J.go i H'
  stop : ∀ F' H', Same F F' → Same F' H' → J.stop ds.length H'
  yld : ∀ i d F' H' pn x H'', Same F F' → Same F' H' → PenAt g F' H' pn → ds[i]? = some d → J.yld i H' x H'' → ∃ F'', Stp g F' H' F'' H'' ∧ PenAt g F'' H'' pn ∧ Rep g F'' d x
theorem Same.tups {K : PySem.W.Frag} {H H' : Hp} {a : Addr} {xs : List V} (e : Same H H') (h : SqT K H a xs) : SqT K H' a xs := by
  rcases h with h | h
  · rcases h with h | ⟨o, h⟩
    · exact .inl (.inl (e _ _ h))
    · exact .inl (.inr ⟨o, e _ _ h⟩)
  · exact .inr h
theorem Src.mono {K : PySem.W.Frag} {H H' : Hp} (e : Same H H') {src : Src} {xs : List V} (h : src.at K H xs) : src.at K H' xs := by
  cases src with
  | lst a => exact e.seq h
  | tup a => exact Same.tups e h
  | txt z => exact h
def ItS (K : PySem.W.Frag) : Src → It
  | .lst a => Itl K a
  | .tup a => Itt K a
  | .txt z => Its (mkS z)
theorem seq_src {g : GE} {F : Hp} {d : D} {ds : List D} {v : V} (h : seqD d = some ds) (r : Rep g F d v) : ∃ src xs, v = src.val ∧ Src.at g.K F src xs ∧ Reps g F ds xs := by
  cases r with
  | lst h1 r1 =>
    cases h
    exact ⟨.lst _, _, rfl, .inl (.inl h1), r1⟩
  | tup h1 r1 =>
    cases h
    exact ⟨.tup _, _, rfl, .inl (.inl h1), r1⟩
  | str s =>
    cases h
    refine ⟨.txt s, _, rfl, rfl, ?_⟩
    induction s with
    | nil => exact .nil
    | cons c s ih => exact .cons (.str [c]) ih
  | _ => cases h
theorem reps_at {g : GE} {F F' : Hp} {ds : List D} {xs : List V} {i : Nat} {d : D} {x : V} (r : Reps g F ds xs) (e : Same F F') (hd : ds[i]? = some d) (hx : xs[i]? = some x) : Rep g F' d x := by
  obtain ⟨v, h1, h2⟩ := r.get hd
  rw [hx] at h1
  cases h1
  exact h2.mono e
theorem good_seq {g : GE} {F : Hp} {src : Src} {xs : List V} {ds : List D} (h : src.at g.K F xs) (r : Reps g F ds xs) : ItGood g (ItS g.K src) ds F := by
  have hl := r.length
  cases src with
  | lst a =>
    refine ⟨fun i F' H' e1 e2 hi => ⟨xs, xs[i]'(hl ▸ hi), Src.mono (src := .lst a) e2 (Src.mono (src := .lst a) e1 h), List.getElem?_eq_getElem _⟩, fun F' H' e1 e2 => ⟨xs, Src.mono (src := .lst a) e2 (Src.mono (src := .lst a) e1 h), by omega⟩, fun i d F' H' pn x H'' e1 e2 p hd y => ?_⟩
    obtain ⟨rfl, y⟩ := y
    exact ⟨F', Stp.refl e2, p, reps_at r e1 hd (y xs (Src.mono (src := .lst a) e2 (Src.mono (src := .lst a) e1 h)))⟩
  | tup a =>
    refine ⟨fun i F' H' e1 e2 hi => ⟨xs, xs[i]'(hl ▸ hi), Src.mono (src := .tup a) e2 (Src.mono (src := .tup a) e1 h), List.getElem?_eq_getElem _⟩, fun F' H' e1 e2 => ⟨xs, Src.mono (src := .tup a) e2 (Src.mono (src := .tup a) e1 h), by omega⟩, fun i d F' H' pn x H'' e1 e2 p hd y => ?_⟩
    obtain ⟨rfl, y⟩ := y
    exact ⟨F', Stp.refl e2, p, reps_at r e1 hd (y xs (Src.mono (src := .tup a) e2 (Src.mono (src := .tup a) e1 h)))⟩
  | txt z =>
    have h' : xs = z.map fun c => V.str ⟨#[c]⟩ := h
    subst h'
    have hz : (mkS z).cps.size = ds.length := by
      rw [hl, List.length_map]
      exact str_len z
    refine ⟨fun i F' H' e1 e2 hi => (by show i < (mkS z).cps.size; omega), fun F' H' e1 e2 => (by show (mkS z).cps.size ≤ ds.length; omega), fun i d F' H' pn x H'' e1 e2 p hd y => ?_⟩
    obtain ⟨rfl, c, hc, rfl⟩ := y
    refine ⟨F', Stp.refl e2, p, reps_at r e1 hd ?_⟩
    have hc' : z[i]? = some c := by simpa [mkS] using hc
    rw [List.getElem?_map, hc']
    rfl
theorem intsFrom_get : ∀ (n : Nat) (lo : Int) (i : Nat), i < n → (intsFrom lo n)[i]? = some (.int (lo + i))
  | 0, _, _, h => absurd h (Nat.not_lt_zero _)
  | n + 1, lo, 0, _ => by
    rw [intsFrom]
    simp
  | n + 1, lo, i + 1, h => by
    rw [intsFrom, List.getElem?_cons_succ, intsFrom_get n (lo + 1) i (Nat.lt_of_succ_lt_succ h), show lo + 1 + (i : Int) = lo + ((i + 1 : Nat) : Int) by omega]
theorem intsFrom_len : ∀ (n : Nat) (lo : Int), (intsFrom lo n).length = n
  | 0, _ => rfl
  | n + 1, lo => by rw [intsFrom, List.length_cons, intsFrom_len n]
theorem good_range {g : GE} {F : Hp} {lo : Int} {n : Nat} : ItGood g (Itr lo n) (intsFrom lo n) F := by
  have hl := intsFrom_len n lo
  refine ⟨fun i F' H' e1 e2 hi => (by show i < n; omega), fun F' H' e1 e2 => (by show n ≤ _; omega), fun i d F' H' pn x H'' e1 e2 p hd y => ?_⟩
  obtain ⟨rfl, rfl⟩ := y
  have hi : i < n := by
    have := (List.getElem?_eq_some_iff.mp hd).1
    omega
  rw [intsFrom_get n lo i hi] at hd
  cases hd
  exact ⟨F', Stp.refl e2, p, .int _⟩
theorem enumFrom_len : ∀ (ds : List D) (k : Int), (enumFrom k ds).length = ds.length
  | [], _ => rfl
  | d :: ds, k => by rw [enumFrom, List.length_cons, enumFrom_len ds, List.length_cons]
theorem enumFrom_get : ∀ (ds : List D) (k : Int) (i : Nat) (d : D), (enumFrom k ds)[i]? = some d → ∃ e, ds[i]? = some e ∧ d = .tup [.int (k + i), e]
  | [], _, i, _, h => by simp [enumFrom] at h
  | e :: ds, k, 0, d, h => by
    rw [enumFrom] at h
    exact ⟨e, rfl, by simpa using h.symm⟩
  | e :: ds, k, i + 1, d, h => by
    rw [enumFrom, List.getElem?_cons_succ] at h
    obtain ⟨e', h1, h2⟩ := enumFrom_get ds (k + 1) i d h
    exact ⟨e', by simpa using h1, by rw [h2, show k + 1 + (i : Int) = k + ((i + 1 : Nat) : Int) by omega]⟩
theorem good_enum {g : GE} {F : Hp} {src : Src} {xs : List V} {ds : List D} {k : Int} (h : src.at g.K F xs) (r : Reps g F ds xs) : ItGood g (Iten g.K src k) (enumFrom k ds) F := by
  have hl := r.length
  have hn := enumFrom_len ds k
  refine ⟨fun i F' H' e1 e2 hi => ⟨xs, xs[i]'(by omega), Src.mono e2 (Src.mono e1 h), List.getElem?_eq_getElem _⟩, fun F' H' e1 e2 => ⟨xs, Src.mono e2 (Src.mono e1 h), by omega⟩, fun i d F' H' pn x H'' e1 e2 p hd y => ?_⟩
  obtain ⟨T, x', rfl, hT, rfl, y⟩ := y
  obtain ⟨e, h1, rfl⟩ := enumFrom_get ds k i d hd
  obtain ⟨s2, p2⟩ := allocF (o := .tup [.int (k + (i : Nat)), x']) e2 p hT
  exact ⟨_, s2, p2, .tup upd_same (.cons (.int _) (.cons (reps_at r (e1.trans s2.ff) h1 (y xs (Src.mono e2 (Src.mono e1 h)))) .nil))⟩
theorem good_zip {g : GE} {F : Hp} {s1 s2 : Src} {xs ys : List V} {ds es : List D} (h1 : s1.at g.K F xs) (r1 : Reps g F ds xs) (h2 : s2.at g.K F ys) (r2 : Reps g F es ys) : ItGood g (Itzp g.K s1 s2) (zipD ds es) F := by
  have hl1 := r1.length
  have hl2 := r2.length
  have hn : (zipD ds es).length = min xs.length ys.length := by
    unfold zipD
    rw [List.length_map, List.length_zip, hl1, hl2]
  refine ⟨fun i F' H' e1 e2 hi => ⟨xs, ys, xs[i]'(by omega), ys[i]'(by omega), Src.mono e2 (Src.mono e1 h1), Src.mono e2 (Src.mono e1 h2), List.getElem?_eq_getElem _, List.getElem?_eq_getElem _⟩, fun F' H' e1 e2 => ⟨xs, ys, Src.mono e2 (Src.mono e1 h1), Src.mono e2 (Src.mono e1 h2), hn.symm⟩, fun i d F' H' pn x H'' e1 e2 p hd y => ?_⟩
  obtain ⟨T, x', y', rfl, hT, rfl, q1, q2⟩ := y
  unfold zipD at hd
  rw [List.getElem?_map, Option.map_eq_some_iff] at hd
  obtain ⟨⟨a, b⟩, hz, rfl⟩ := hd
  rw [List.getElem?_zip_eq_some] at hz
  obtain ⟨t2, p2⟩ := allocF (o := .tup [x', y']) e2 p hT
  exact ⟨_, t2, p2, .tup upd_same (.cons (reps_at r1 (e1.trans t2.ff) hz.1 (q1 xs (Src.mono e2 (Src.mono e1 h1)))) (.cons (reps_at r2 (e1.trans t2.ff) hz.2 (q2 ys (Src.mono e2 (Src.mono e1 h2)))) .nil))⟩

/-! ### readings of iterables -/
def tIt (g : GE) (S : Sem) (E : WX) (ik : IK) (ies : List IE) : TI := fun σ H R => ∃ F0 H0 F σO pn, Abs g F0 H0 σ H F σO pn ∧
  After g F H (WE E σ) (M.bind (evs S ies σO) (fun os => M.of (itemsOf ik os)) pn) fun ds p F' H' => ∀ J, ItGood g J ds F' → R J H'
section
variable {X : Cx} {g : GE} {S : Sem} {E : WX} {ea eb tg : Expr} {ia ib : IE} {pos p : Pos}
def iSrc (K : PySem.W.Frag) (te : TE) : TI := fun σ H R => te σ H fun v H1 => ∃ src xs, v = src.val ∧ Src.at K H1 src xs ∧ R (ItS K src) H1
theorem pi_src {te : TE} (he : PE X ea te) : PI X tg ea (iSrc X.K te) := by
  refine ⟨fun pins s σ H R I h => ?_⟩
  refine thn (he.run pins s σ H _ I h) fun v s1 ⟨y, H1, I1, r1, src, xs, ex, hq, q⟩ => ?_
  subst ex
  have fr : ∀ b ∈ [s1.heap.objs.size], FpOk X pins H1 b := fun b hb => by
    have e : b = s1.heap.objs.size := by simpa using hb
    subst e
    exact I1.fpOk (Nat.le_refl _) (I1.hok.fresh (Nat.le_refl _))
  cases src with
  | lst a =>
    obtain rfl : v = Value.ref a := r1
    obtain ⟨its, rv, pl, hz⟩ := I1.list hq
    exact wpAny_pyIter_list pl.isList ⟨s1.heap.objs.size, [s1.heap.objs.size], _, _, H1, rfl, I1.kept (t' := s1.toks) fun b o e => Heap.get?_push_of_some _ e, turn_list a _, ⟨_, Heap.get?_push_size _ rfl, rfl, rfl⟩, fr, q⟩
  | tup a =>
    obtain rfl : v = Value.ref a := r1
    obtain ⟨its, rv, pl, hz⟩ := I1.tuple hq
    exact wpAny_pyIter_tuple (show s1.heap.IsTuple a its.toArray from pl) ⟨s1.heap.objs.size, [s1.heap.objs.size], _, _, H1, rfl, I1.kept (t' := s1.toks) fun b o e => Heap.get?_push_of_some _ e, turn_tuple a _, ⟨_, Heap.get?_push_size _ rfl, rfl, rfl⟩, fr, q⟩
  | txt z =>
    obtain ⟨t, rfl⟩ := r1
    cases ha : (mkS z).cps.all (· < 128)
    · exact wpAny_pyIter_wide ha (pi_one (tk := s1.toks) I1 _ (turn_str _ (mkS z) t "str_iterator" (.inr rfl)) ⟨_, Heap.get?_push_size _ rfl, rfl, rfl⟩ q)
    · exact wpAny_pyIter_ascii ha (pi_one (tk := s1.toks) I1 _ (turn_str _ (mkS z) t "str_ascii_iterator" (.inl rfl)) ⟨_, Heap.get?_push_size _ rfl, rfl, rfl⟩ q)
theorem i_seq (hK : X.K = g.K) (ha : PE X ea (tEv g S E false ia)) : PI X tg ea (tIt g S E .seq [ia]) := (pi_src ha).weak fun σ H R ⟨F0, H0, F, σO, pn, A, h⟩ => by
  rw [evs] at h
  refine ⟨F0, H0, F, σO, pn, A, h.bind.bind.all fun x p k F1 H1 s1 p1 v1 f1 n1 => ?_⟩
  obtain ⟨F', s1', p1', r1, sm⟩ := n1.frz s1 p1
  have k' := (k F' H1 s1' p1').bind
  rw [evs] at k'
  have k2 := ((k'.ret s1'.fh p1').ret s1'.fh p1').now s1'.fh p1'
  obtain ⟨ds, h1, h2⟩ := k2
  change seqD x.toD = some ds at h1
  obtain ⟨src, xs, e, hs, rs⟩ := seq_src h1 r1
  rw [hK]
  exact ⟨src, xs, e, Src.mono s1'.fh hs, h2 _ (good_seq hs rs)⟩
theorem some_if' {c : Prop} [Decidable c] {α : Type} {x : Option α} {b : α} (h : (if c then x else none) = some b) : c ∧ x = some b := by
  split at h
  · exact ⟨by assumption, h⟩
  · cases h
theorem inRange_at {i : Int} (h : inRange i = true) : -(2 ^ 62) ≤ i ∧ i < 2 ^ 62 := by
  unfold inRange at h
  rw [Bool.and_eq_true, decide_eq_true_eq, decide_eq_true_eq] at h
  exact h
theorem intD_at {d : D} {i : Int} (h : intD? d = some i) : d = .int i := by
  cases d <;> first | (cases h; rfl) | cases h
theorem i_range1 (hg : Gl X "range") (hm : X.mg "range" = none) (hs : isStarE ea = false) (ha : PA X [ea] (tEvs g S E [ia])) : PI X tg (.Call (.Name "range" p) [ea] [] pos) (tIt g S E .range1 [ia]) :=
  (pi_range1 hg hm ha (star_eq hs)).weak fun σ H R ⟨F0, H0, F, σO, pn, A, h⟩ => by
    refine ⟨F0, H0, F, σO, pn, A, h.bind.imp fun ds p F1 H1 s1 p1 k vs rs => ?_⟩
    obtain ⟨its, h1, h2⟩ := k.now s1.fh p1
    cases rs with
    | nil => cases h1
    | cons q rs =>
      cases rs with
      | cons q2 rs =>
        cases rs <;> cases h1
      | nil =>
        rename_i d v
        change items1 .range1 d = some its at h1
        unfold items1 at h1
        cases e : intD? d with
        | none =>
          rw [e] at h1
          cases h1
        | some n =>
          rw [e] at h1
          obtain ⟨hr, rfl⟩ := some_if h1
          obtain ⟨r1, r2⟩ := inRange_at hr
          rw [intD_at e] at q
          cases q
          exact ⟨n, rfl, r1, r2, h2 _ good_range⟩
theorem i_range2 (hg : Gl X "range") (hm : X.mg "range" = none) (hs : isStarE ea = false) (hs2 : isStarE eb = false) (ha : PA X [ea, eb] (tEvs g S E [ia, ib])) : PI X tg (.Call (.Name "range" p) [ea, eb] [] pos) (tIt g S E .range2 [ia, ib]) :=
  (pi_range2 hg hm ha (by rw [star_eq hs, star_eq hs2]; rfl) (star_eq hs2)).weak fun σ H R ⟨F0, H0, F, σO, pn, A, h⟩ => by
    refine ⟨F0, H0, F, σO, pn, A, h.bind.imp fun ds p F1 H1 s1 p1 k vs rs => ?_⟩
    obtain ⟨its, h1, h2⟩ := k.now s1.fh p1
    cases rs with
    | nil => cases h1
    | cons q rs =>
      cases rs with
      | nil => cases h1
      | cons q2 rs =>
        cases rs with
        | cons _ _ => cases h1
        | nil =>
          rename_i d v d2 v2
          change items2 .range2 d d2 = some its at h1
          unfold items2 at h1
          cases e : intD? d with
          | none =>
            rw [e] at h1
            cases h1
          | some n =>
            cases e2 : intD? d2 with
            | none =>
              rw [e, e2] at h1
              cases h1
            | some n2 =>
              rw [e, e2] at h1
              obtain ⟨hr, rfl⟩ := some_if h1
              rw [Bool.and_eq_true] at hr
              obtain ⟨r1, r2⟩ := inRange_at hr.1
              obtain ⟨r3, r4⟩ := inRange_at hr.2
              rw [intD_at e] at q
              rw [intD_at e2] at q2
              cases q
              cases q2
              exact ⟨n, n2, rfl, ⟨r1, r2, r3, r4⟩, h2 _ good_range⟩
theorem i_enum {elts : List Expr} {kk : Nat} {tpos : Pos} (hK : X.K = g.K) (hg : Gl X "enumerate") (hm : X.mg "enumerate" = none) (hs : isStarE ea = false) (ha : PA X [ea] (tEvs g S E [ia])) : PI X (.Tuple elts kk tpos) (.Call (.Name "enumerate" p) [ea] [] pos) (tIt g S E (.enum 0) [ia]) :=
  (pi_enumS hg hm ha (star_eq hs)).weak fun σ H R ⟨F0, H0, F, σO, pn, A, h⟩ => by
    refine ⟨F0, H0, F, σO, pn, A, h.bind.imp fun ds p F1 H1 s1 p1 k vs rs => ?_⟩
    obtain ⟨its, h1, h2⟩ := k.now s1.fh p1
    cases rs with
    | nil => cases h1
    | cons q rs =>
      cases rs with
      | cons q2 rs =>
        cases rs <;> cases h1
      | nil =>
        rename_i d v
        change items1 (.enum 0) d = some its at h1
        unfold items1 at h1
        obtain ⟨hr, h1⟩ := some_if' h1
        rw [Option.map_eq_some_iff] at h1
        obtain ⟨es, h3, rfl⟩ := h1
        obtain ⟨src, xs, e, hsr, rr⟩ := seq_src h3 q
        rw [hK]
        exact ⟨src, xs, by rw [e], Src.mono s1.fh hsr, h2 _ (good_enum hsr rr)⟩
theorem i_zip {elts : List Expr} {kk : Nat} {tpos : Pos} (hK : X.K = g.K) (hg : Gl X "zip") (hm : X.mg "zip" = none) (hs : isStarE ea = false) (hs2 : isStarE eb = false) (ha : PA X [ea, eb] (tEvs g S E [ia, ib])) : PI X (.Tuple elts kk tpos) (.Call (.Name "zip" p) [ea, eb] [] pos) (tIt g S E .zip [ia, ib]) :=
  (pi_zipS hg hm ha (star_eq hs) (star_plain (by simp [hs2]))).weak fun σ H R ⟨F0, H0, F, σO, pn, A, h⟩ => by
    refine ⟨F0, H0, F, σO, pn, A, h.bind.imp fun ds p F1 H1 s1 p1 k vs rs => ?_⟩
    obtain ⟨its, h1, h2⟩ := k.now s1.fh p1
    cases rs with
    | nil => cases h1
    | cons q rs =>
      cases rs with
      | nil => cases h1
      | cons q2 rs =>
        cases rs with
        | cons _ _ => cases h1
        | nil =>
          rename_i d v d2 v2
          change items2 .zip d d2 = some its at h1
          unfold items2 at h1
          cases e : seqD d with
          | none =>
            rw [e] at h1
            cases h1
          | some n =>
            cases e2 : seqD d2 with
            | none =>
              rw [e, e2] at h1
              cases h1
            | some n2 =>
              rw [e, e2] at h1
              cases h1
              obtain ⟨sa, xs, e1, hsa, ra⟩ := seq_src e q
              obtain ⟨sb, ys, e2, hsb, rb⟩ := seq_src e2 q2
              rw [hK]
              exact ⟨sa, sb, xs, ys, by rw [e1, e2], Src.mono s1.fh hsa, Src.mono s1.fh hsb, h2 _ (good_zip hsa ra hsb rb)⟩
end
end Bc
set_option Elab.async false
set_option linter.all false
set_option maxRecDepth 100000
set_option maxHeartbeats 4000000
/-! Part C9. Targets, comprehensions. -/
namespace Bc
open PySem PySem.Spec L2

theorem M.bind_assoc {α β γ : Type} (x : M α) (f : α → M β) (h : β → M γ) : M.bind (M.bind x f) h = M.bind x fun a => M.bind (f a) h := by
  funext p
  show (match M.bind x f p with | some (.ok a, p') => h a p' | some (.error e, p') => some (.error e, p') | none => none) = M.bind x (fun a => M.bind (f a) h) p
  unfold M.bind
  cases x p with
  | none => rfl
  | some r =>
    obtain ⟨r, p'⟩ := r
    cases r with
    | ok a => rfl
    | error e => rfl
/-- bind, the base kept -/
theorem After.bind0 {g : GE} {F H : Hp} {E : XK} {α β : Type} {x : M α} {f : α → M β} {pn : Pen} {K : β → Pen → Hp → Hp → Prop} (h : After g F H E (M.bind x f pn) K) : After g F H E (x pn) fun a p _ _ => After g F H E (f a p) K := by
  obtain ⟨q, h1, h2⟩ := h
  rcases M.bind_ok h1 with ⟨a, p, h3, h4⟩ | ⟨e, p, h3, h4⟩
  · exact ⟨_, h3, fun F1 H1 s1 p1 => ⟨q, h4, h2⟩⟩
  · subst h4
    exact ⟨_, h3, fun c d F2 H2 s2 p2 ex => h2 c d F2 H2 s2 p2 ex⟩
theorem After.safe0 {g : GE} {F H : Hp} {E E' : XK} {α β : Type} {x : M α} {f : α → M β} {pn : Pen} {K : β → Pen → Hp → Hp → Prop} (h : After g F H E (M.bind (M.safe x) f pn) K) : After g F H E' (x pn) fun a p _ _ => After g F H E (f a p) K := by
  obtain ⟨q, h1, h2⟩ := h
  rcases M.bind_ok h1 with ⟨a, p, h3, h4⟩ | ⟨e, p, h3, h4⟩
  · obtain ⟨a', p', e1, h5⟩ := M.safe_ok h3
    cases e1
    exact ⟨_, h5, fun F1 H1 s1 p1 => ⟨q, h4, h2⟩⟩
  · obtain ⟨a', p', e1, h5⟩ := M.safe_ok h3
    cases e1
/-- the base moved on -/
theorem After.on {g : GE} {F H F1 H1 : Hp} {E : XK} {α : Type} {r : Option (Except Exc α × Pen)} {K : α → Pen → Hp → Hp → Prop} (h : After g F H E r K) (s : Stp g F H F1 H1) : After g F1 H1 E r K := by
  obtain ⟨⟨r, p⟩, h1, h2⟩ := h
  cases r with
  | ok a => exact ⟨_, h1, fun F' H' s' q => h2 F' H' (s.trans q.1 s') q⟩
  | error x => exact ⟨_, h1, fun c d F' H' s' q => h2 c d F' H' (s.trans q.1 s') q⟩

/-! ### slots -/
theorem OwnSl.len {g : GE} {F0 H0 : Hp} {σV : St} {H F : Hp} {σ : Sto} {pn : Pen} (A : Abs g F0 H0 σV H F σ pn) : σ.length = σV.length := by
  obtain ⟨fp, h1, _⟩ := A.own
  exact h1.length
theorem Abs.put {g : GE} {F0 H0 : Hp} {σV : St} {H F H' F' : Hp} {σ : Sto} {pn pn' : Pen} {i : Nat} {o : O} {v : V} {f : List Addr} (A : Abs g F0 H0 σV H F σ pn) (s : Stp g F H F' H') (p : PenAt g F' H' pn') (n : NewOwn g H F' H' o v f) :
    Abs g F0 H0 (σV.set i (some v)) H' F' (σ.set i (some o)) pn' := by
  by_cases hi : i < σ.length
  · exact A.set s p n hi
  · rw [List.set_eq_of_length_le (Nat.le_of_not_lt hi), List.set_eq_of_length_le (by rw [← OwnSl.len A]; exact Nat.le_of_not_lt hi)]
    exact A.step s p
theorem Abs.here {g : GE} {F0 H0 : Hp} {σV : St} {H F : Hp} {σ : Sto} {pn : Pen} {i : Nat} {d : D} {v : V} (A : Abs g F0 H0 σV H F σ pn) (r : Rep g F d v) :
    Abs g F0 H0 (σV.set i (some v)) H F (σ.set i (some (.fz d))) pn := A.put (Stp.refl A.fh) A.pen (NewOwn.fz r)
theorem Abs.wipe {g : GE} {F0 H0 : Hp} {σV : St} {H F : Hp} {σ : Sto} {pn : Pen} (A : Abs g F0 H0 σV H F σ pn) : ∀ vs : List Nat, Abs g F0 H0 (L2.wipe σV vs) H F (wipeO σ vs) pn
  | [] => A
  | v :: vs => by
    unfold L2.wipe wipeO
    exact (Abs.wipe A vs).clear

/-! ### targets -/
def Tg.is : Tg → List Nat
  | .nm i => [i]
  | .tp is => is
/-- outside is nothing was changed -/
def Apart (is : List Nat) (σ σ' : St) : Prop := σ'.length = σ.length ∧ ∀ j, j ∉ is → σ'[j]? = σ[j]?
theorem Apart.refl (is : List Nat) (σ : St) : Apart is σ σ := ⟨rfl, fun _ _ => rfl⟩
theorem Apart.set {is : List Nat} {σ σ' : St} {i : Nat} {x : Option V} (a : Apart is (σ.set i x) σ') : Apart (i :: is) σ σ' :=
  ⟨by rw [a.1, List.length_set], fun j hj => by
    have h1 : j ≠ i := fun e => hj (e ▸ List.mem_cons_self)
    have h2 : j ∉ is := fun e => hj (List.mem_cons_of_mem _ e)
    rw [a.2 j h2, List.getElem?_set_ne (Ne.symm h1)]⟩
theorem wipe_get {σ : St} {j : Nat} : ∀ {vs : List Nat}, (wipe σ vs)[j]? = if j ∈ vs then (σ[j]?).map fun _ => none else σ[j]?
  | [] => by simp [wipe]
  | v :: vs => by
    unfold L2.wipe
    by_cases e : v = j
    · subst e
      rw [List.getElem?_set]
      simp only [if_true, List.mem_cons, true_or, wipe_length]
      split
      · rename_i h
        rw [List.getElem?_eq_getElem h]
        rfl
      · rename_i h
        rw [List.getElem?_eq_none (Nat.le_of_not_lt h)]
        rfl
    · rw [List.getElem?_set_ne e, wipe_get]
      have : (j ∈ v :: vs) ↔ j ∈ vs := ⟨fun h => (List.mem_cons.mp h).resolve_left (Ne.symm e), List.mem_cons_of_mem _⟩
      by_cases h : j ∈ vs
      · rw [if_pos h, if_pos (this.mpr h)]
      · rw [if_neg h, if_neg (fun z => h (this.mp z))]
theorem Apart.wipe {is vs : List Nat} {σ σ' : St} (a : Apart is σ σ') (h : ∀ i ∈ is, i ∈ vs) : L2.wipe σ' vs = L2.wipe σ vs := by
  apply List.ext_getElem?
  intro j
  rw [wipe_get, wipe_get]
  by_cases hj : j ∈ vs
  · rw [if_pos hj, if_pos hj]
    by_cases hl : j < σ.length
    · rw [List.getElem?_eq_getElem hl, List.getElem?_eq_getElem (by rw [a.1]; exact hl)]
      rfl
    · rw [List.getElem?_eq_none (Nat.le_of_not_lt hl), List.getElem?_eq_none (by rw [a.1]; exact Nat.le_of_not_lt hl)]
  · rw [if_neg hj, if_neg hj]
    exact a.2 j fun z => hj (h j z)
def tTg (g : GE) (t : Tg) : TG := fun v σV H Q => ∃ F0 H0 F σO pn d σ', Abs g F0 H0 σV H F σO pn ∧ Rep g F d v ∧ bindTg t d σO = some σ' ∧ ∀ σV', Apart t.is σV σV' → Abs g F0 H0 σV' H F σ' pn → Q σV' H
def tTgs (g : GE) (is : List Nat) : TGs := fun vs σV H Q => ∃ F0 H0 F σO pn ds σ', Abs g F0 H0 σV H F σO pn ∧ Reps g F ds vs ∧ setAll is ds σO = some σ' ∧ ∀ σV', Apart is σV σV' → Abs g F0 H0 σV' H F σ' pn → Q σV' H
theorem Abs.self {g : GE} {F0 H0 : Hp} {σV : St} {H F : Hp} {σ : Sto} {pn : Pen} (A : Abs g F0 H0 σV H F σ pn) : Abs g F0 H0 σV H F σ pn := A
section
variable {X : Cx} {g : GE} {pos : Pos}
theorem g_name {i : Nat} {e : Expr} (h : PG X e (gName i)) : PG X e (tTg g (.nm i)) := h.weak fun v σV H Q ⟨F0, H0, F, σO, pn, d, σ', A, r, hb, k⟩ => by
  cases hb
  exact k _ (Apart.set (Apart.refl [] _)) (A.here r)
/-- the name e is slot i, which may be stored to -/
def NmAt (X : Cx) (e : Expr) (i : Nat) : Prop := ∃ x p, e = .Name x p ∧ PG X e (gName i)
inductive NmsAt (X : Cx) : List Expr → List Nat → Prop
  | nil : NmsAt X [] []
  | cons {e : Expr} {i : Nat} {es : List Expr} {is : List Nat} (h : NmAt X e i) (r : NmsAt X es is) : NmsAt X (e :: es) (i :: is)
theorem NmsAt.each {es : List Expr} {is : List Nat} (h : NmsAt X es is) : (assignEach es X.env).length = es.length ∧ (assignEach es X.env).findIdx? (·.1) = none := by
  induction h with
  | nil => exact ⟨rfl, rfl⟩
  | cons h r ih =>
    obtain ⟨x, p, rfl, _⟩ := h
    refine ⟨?_, ?_⟩
    · show _ + 1 = _ + 1
      rw [ih.1]
    · show List.findIdx? _ ((false, _) :: assignEach _ X.env) = none
      rw [List.findIdx?_cons]
      simp [ih.2]
theorem NmsAt.len {es : List Expr} {is : List Nat} (h : NmsAt X es is) : es.length = is.length := by
  induction h with
  | nil => rfl
  | cons h r ih => rw [List.length_cons, List.length_cons, ih]
theorem gs_names {es : List Expr} {is : List Nat} (h : NmsAt X es is) : PGs X es (tTgs g is) := by
  induction h with
  | nil =>
    exact pgs_nil.weak fun vs σV H Q ⟨F0, H0, F, σO, pn, ds, σ', A, r, hb, k⟩ => (by
      cases r with
      | nil =>
        cases hb
        exact ⟨rfl, k _ (Apart.refl _ _) A⟩
      | cons _ _ => cases hb)
  | cons h r ih =>
    obtain ⟨x, p, rfl, hp⟩ := h
    exact (pgs_cons hp ih rfl).weak fun vs σV H Q ⟨F0, H0, F, σO, pn, ds, σ', A, r, hb, k⟩ => (by
      cases r with
      | nil => cases hb
      | cons r1 rs =>
        exact ⟨_, _, rfl, F0, H0, F, _, pn, _, σ', A.here r1, rs, hb, fun σV' a A' => k σV' a.set A'⟩)
theorem setAll_len : ∀ {is : List Nat} {ds : List D} {σ σ' : Sto}, setAll is ds σ = some σ' → ds.length = is.length
  | [], [], _, _, _ => rfl
  | [], _ :: _, _, _, h => by cases h
  | _ :: _, [], _, _, h => by cases h
  | i :: is, d :: ds, σ, σ', h => by rw [List.length_cons, List.length_cons, setAll_len (is := is) (ds := ds) h]
theorem PG.either {e : Expr} {t1 t2 : TG} (h1 : PG X e t1) (h2 : PG X e t2) : PG X e (fun v σ H Q => t1 v σ H Q ∨ t2 v σ H Q) :=
  ⟨fun pins s σ H v u Q I r hw => hw.elim (h1.run pins s σ H v u Q I r) (h2.run pins s σ H v u Q I r)⟩
theorem g_tup {es : List Expr} {is : List Nat} {k : Nat} (hc : X.calm = true) (hK : X.K = g.K) (h : NmsAt X es is) : PG X (.Tuple es k pos) (tTg g (.tp is)) :=
  (PG.either (pg_tup (n := is.length) hc (gs_names h) (by rw [h.each.1, h.len]) h.each.2) (pg_lst (n := is.length) hc (gs_names h) (by rw [h.each.1, h.len]) h.each.2)).weak fun v σV H Q ⟨F0, H0, F, σO, pn, d, σ', A, r, hb, k⟩ => by
    cases r with
    | tup ha rs =>
      exact .inl ⟨_, _, rfl, .inl (.inl (A.fh _ _ ha)), by rw [← rs.length]; exact setAll_len hb, F0, H0, F, σO, pn, _, σ', A, rs, hb, k⟩
    | lst ha rs =>
      exact .inr ⟨_, _, rfl, .inl (.inl (A.fh _ _ ha)), by rw [← rs.length]; exact setAll_len hb, F0, H0, F, σO, pn, _, σ', A, rs, hb, k⟩
    | _ => cases hb

/-! ### comprehensions -/
def E0 : WX := fun _ _ _ _ => False
def tTc (g : GE) (S : Sem) (E : WX) (cond : List IE) : TT := fun σV H Q => ∃ F0 H0 F σO pn, Abs g F0 H0 σV H F σO pn ∧ After g F H (WE E σV) (evc S cond σO pn) fun c p F' H' => Q c H'
theorem c_nil {S : Sem} {E : WX} : PTs X [] (tTc g S E []) := ⟨fun pins s σ H Q I ⟨F0, H0, F, σO, pn, A, h⟩ => pts_nil.run pins s σ H Q I (by
  rw [evc] at h
  exact h.ret A.fh A.pen)⟩
theorem c_one {S : Sem} {E : WX} {c : Expr} {ic : IE} (h : PT X c (tEvT g S E ic)) : PTs X [c] (tTc g S E [ic]) := ⟨fun pins s σ H Q I ⟨F0, H0, F, σO, pn, A, hw⟩ => (pts_one h).run pins s σ H Q I (by
  rw [evc] at hw
  exact tT_of ⟨F0, H0, F, σO, pn, A, hw⟩)⟩
theorem lcRun_no {f : D → M (Option O)} (hf : ∀ d p e p', f d p ≠ some (.error e, p')) : ∀ {ds : List D} {p : Pen} {e : Exc} {p' : Pen}, lcRun f ds p ≠ some (.error e, p')
  | [], p, e, p', h => by cases h
  | d :: ds, p, e, p', h => by
    rcases M.bind_ok h with ⟨a, p1, h1, h2⟩ | ⟨e1, p1, h1, h2⟩
    · rcases M.bind_ok h2 with ⟨b, p2, h3, h4⟩ | ⟨e1, p2, h3, h4⟩
      · cases h4
      · exact lcRun_no hf h3
    · exact hf _ _ _ _ h1
theorem safe_no {α : Type} {x : M α} {p : Pen} {e : Exc} {p' : Pen} : M.safe x p ≠ some (.error e, p') := fun h => by
  obtain ⟨a, q, e1, _⟩ := M.safe_ok h
  cases e1
/-- a list of ours that grows: state (F, H) behind (F1, H1) -/
structure Grow (g : GE) (F1 H1 F H : Hp) (L : Addr) (os : List O) (acc : List V) (fp : List Addr) : Prop where
  stp : Stp g F1 H1 F H
  at_ : H L = some (.lst acc)
  own : Owns g F H os acc fp
  nd : (L :: fp).Nodup
  fr : ∀ a ∈ L :: fp, H1 a = none ∧ F a = none
  np : ∀ a ∈ L :: fp, a ≠ g.pa
theorem Grow.got {g : GE} {F1 H1 F H : Hp} {L : Addr} {os : List O} {acc : List V} {fp : List Addr} (w : Grow g F1 H1 F H L os acc fp) : Got g false H1 F H (.lst os) (.ref L) (L :: fp) := ⟨.lst w.at_ w.own, w.np, fun _ => ⟨w.nd, w.fr⟩⟩
theorem Grow.step {g : GE} {F1 H1 F H F2 H2 : Hp} {L : Addr} {os : List O} {acc : List V} {fp : List Addr} (w : Grow g F1 H1 F H L os acc fp) (hp : F2 g.pa = none) (s : Stp g F H F2 H2) : Grow g F1 H1 F2 H2 L os acc fp where
  stp := w.stp.trans hp s
  at_ := s.keep _ _ (w.np L List.mem_cons_self) w.at_
  own := w.own.mono s.ff fun a ha => by
    obtain ⟨u, hu⟩ := w.own.there a ha
    rw [hu]
    exact s.keep a u (w.np a (List.mem_cons_of_mem _ ha)) hu
  nd := w.nd
  fr := fun a ha => by
    have ⟨u, hu⟩ : ∃ u, H a = some u := by
      rcases List.mem_cons.mp ha with e | e
      · exact ⟨_, e ▸ w.at_⟩
      · exact w.own.there a e
    exact ⟨(w.fr a ha).1, s.out hu (w.fr a ha).2⟩
  np := w.np
/-- one more item, new behind H -/
theorem Grow.app {g : GE} {F1 H1 F H F2 H2 : Hp} {L : Addr} {os : List O} {acc : List V} {fp f : List Addr} {o : O} {v : V} {pn : Pen} (w : Grow g F1 H1 F H L os acc fp) (s : Stp g F H F2 H2) (p : PenAt g F2 H2 pn) (n : Got g false H F2 H2 o v f) :
    H2 L = some (.lst acc) ∧ Grow g F1 H1 F2 (upd H2 L (.lst (acc ++ [v]))) L (os ++ [o]) (acc ++ [v]) (fp ++ f) ∧ PenAt g F2 (upd H2 L (.lst (acc ++ [v]))) pn := by
  have w2 := w.step p.1 s
  have hL : H2 L = some (.lst acc) := w2.at_
  have fL := (w2.fr L List.mem_cons_self).2
  have new := n.new rfl
  have nf : ∀ a ∈ f, a ≠ L := fun a ha e => by
    have := (new.2 a ha).1
    rw [e, w.at_] at this
    cases this
  have ff : ∀ a ∈ f, a ∉ fp := fun a ha e => by
    obtain ⟨u, hu⟩ := w.own.there a e
    rw [(new.2 a ha).1] at hu
    cases hu
  have h1f : ∀ a ∈ f, H1 a = none := fun a ha => by
    cases e : H1 a with
    | none => rfl
    | some u =>
      have := w.stp.keep a u (n.np a ha) e
      rw [(new.2 a ha).1] at this
      cases this
  have nd := List.nodup_cons.mp w.nd
  have up : ∀ a, a ≠ L → upd H2 L (.lst (acc ++ [v])) a = H2 a := fun a ha => upd_ne ha
  have sf : Same F2 (upd H2 L (.lst (acc ++ [v]))) := fun a u h => by
    have : a ≠ L := fun e => by
      rw [e, fL] at h
      cases h
    rw [up a this]
    exact s.fh a u h
  refine ⟨hL, ⟨⟨w2.stp.ff, sf, w2.stp.new, fun a u ne h => ?_, fun l h => (by
    obtain ⟨l', e1, e2⟩ := w2.stp.pk l h
    exact ⟨l', (up _ (Ne.symm (w2.np L List.mem_cons_self))).trans e1, e2⟩)⟩, upd_same, ?_, ?_, ?_, ?_⟩, p.1, ?_⟩
  · have : a ≠ L := fun e => by
      rw [e, (w.fr L List.mem_cons_self).1] at h
      cases h
    rw [up a this]
    exact w2.stp.keep a u ne h
  · have o1 : Owns g F2 (upd H2 L (.lst (acc ++ [v]))) os acc fp := w2.own.mono (Same.refl _) fun a ha => up a fun e => nd.1 (e ▸ ha)
    have o2 : Own g F2 (upd H2 L (.lst (acc ++ [v]))) o v f := n.own.mono (Same.refl _) fun a ha => up a (nf a ha)
    have o3 := o1.append (Owns.cons o2 .nil)
    rw [List.append_nil] at o3
    exact o3
  · refine List.nodup_cons.mpr ⟨fun h => ?_, List.nodup_append.mpr ⟨nd.2, new.1, fun a ha b hb e => ff b hb (e ▸ ha)⟩⟩
    rcases List.mem_append.mp h with e | e
    · exact nd.1 e
    · exact nf L e rfl
  · intro a ha
    rcases List.mem_cons.mp ha with e | e
    · exact w2.fr a (e ▸ List.mem_cons_self)
    · rcases List.mem_append.mp e with e | e
      · exact w2.fr a (List.mem_cons_of_mem _ e)
      · exact ⟨h1f a e, (new.2 a e).2⟩
  · intro a ha
    rcases List.mem_cons.mp ha with e | e
    · exact w2.np a (e ▸ List.mem_cons_self)
    · rcases List.mem_append.mp e with e | e
      · exact w2.np a (List.mem_cons_of_mem _ e)
      · exact n.np a e
  · obtain ⟨_, ca, h1, h2⟩ := p
    refine ⟨ca, ?_, h2⟩
    rw [up _ (Ne.symm (w2.np L List.mem_cons_self))]
    exact h1
theorem lim_lt2 {n m : Nat} (h : n < m) (k : m ≤ lim) : n < sizeLine := Nat.lt_of_lt_of_le (Nat.lt_of_lt_of_le h k) (by decide)
/-- what a comprehension's reading asks follows from what it computes -/
theorem lc_weak {S : Sem} {E : WX} {m : Bool} {ik : IK} {ies : List IE} {tg : Tg} {cond : List IE} {elt : IE} {vs : List Nat} (hv : ∀ i ∈ tg.is, i ∈ vs) {σV : St} {H : Hp} {Q : VK} (h : tEv g S E m (.lc ik ies tg cond elt vs) σV H Q) :
    tLc (tIt g S E ik ies) (tTg g tg) (tTc g S E0 cond) (tEv g S E0 false elt) vs σV H Q := by
  obtain ⟨F0, H0, F, σO, pn, A, h⟩ := h
  rw [ev, ← M.bind_assoc] at h
  refine ⟨F0, H0, F, σO, pn, A, h.bind.imp fun ds p F1 H1 s1 p1 k J hJ L hL => ?_⟩
  have A1 := A.step s1 p1
  -- the number of items is small
  have hlen : ds.length ≤ lim := by
    obtain ⟨q, hq, _⟩ := k
    rcases M.bind_ok hq with ⟨r, p', h1, h2⟩ | ⟨e, p', h1, h2⟩
    · by_cases hl : ds.length ≤ lim
      · exact hl
      · rw [if_neg hl] at h2
        cases h2
    · exact absurd h1 (lcRun_no fun d p e p' => safe_no)
  have k := k.bind0
  -- the loop
  refine ⟨fun i mm H => mm = ds.length - i ∧ i ≤ ds.length ∧ ∃ F pn os acc fp, PenAt g F H pn ∧ Grow g F1 H1 F H L os acc fp ∧ os.length ≤ i ∧
    After g F1 H1 (WE E σV) (lcRun (fun d => M.safe (M.bind (M.of (bindTg tg d (wipeO σO vs))) fun σ' => M.bind (evc S cond σ') fun c => if c then M.bind (ev S false elt σ') fun o => M.ret (some o) else M.ret none)) (ds.drop i) pn)
      (fun r p' F' H' => ∀ fp, Got g false H1 F' H' (.lst (os ++ r)) (.ref L) fp → Q (.ref L) H'), ⟨_, rfl, Nat.zero_le _, F1, p, [], [], [], ?_⟩, ?_⟩
  · have hLF : F1 L = none := by
      cases z : F1 L with
      | none => rfl
      | some u =>
        rw [s1.fh L u z] at hL
        cases hL
    obtain ⟨s2, p2⟩ := alloc (o := .lst []) s1.fh p1 hL
    refine ⟨p2, ⟨s2, upd_same, .nil, by simp, fun a ha => ?_, fun a ha => ?_⟩, Nat.le_refl _, ?_⟩
    · rw [List.mem_singleton.mp ha]
      exact ⟨hL, hLF⟩
    · rw [List.mem_singleton.mp ha]
      exact penNe p1 hL
    · rw [List.drop_zero]
      refine k.imp fun r p' F' H' s' q' k1 fp n => ?_
      obtain ⟨o, h1, h2⟩ := k1.of
      rw [if_pos hlen] at h1
      cases h1
      have n' := Got.back n s1 p1
      exact h2 F' H' s' q' _ fp ⟨n'.own, n'.np, fun _ => n'.new rfl⟩
  · rintro i mm H2 ⟨rfl, hi, F2, pn2, os, acc, fp, q2, w, hos, k2⟩
    by_cases hlt : i < ds.length
    · right
      have hd : ds[i]? = some ds[i] := List.getElem?_eq_getElem hlt
      refine ⟨hJ.go i F2 H2 w.stp.ff w.stp.fh hlt, _, fun H' w' => ⟨_, Nat.sub_lt_sub_left hlt (Nat.lt_succ_self i), w'⟩, fun x H3 y => ?_⟩
      obtain ⟨F3, s3, q3, rd⟩ := hJ.yld i _ F2 H2 pn2 x H3 w.stp.ff w.stp.fh q2 hd y
      have w3 := w.step q3.1 s3
      rw [List.drop_eq_getElem_cons hlt, lcRun] at k2
      have k3 := (k2.safe0 (E' := fun _ _ _ => False)).on w3.stp
      have A3 : Abs g F0 H0 (wipe σV vs) H3 F3 (wipeO σO vs) pn2 := ((A1.step w.stp q2).step s3 q3).wipe vs
      obtain ⟨σ', hb, k4⟩ := k3.bind.now s3.fh q3
      refine ⟨F0, H0, F3, _, pn2, _, σ', A3, rd, hb, fun σV' ap A4 => ?_⟩
      refine ⟨?_, F0, H0, F3, σ', pn2, A4, ?_⟩
      · rw [Apart.wipe ap hv]
        apply List.ext_getElem?
        intro j
        rw [wipe_get]
        split
        · rename_i hj
          rw [wipe_get, if_pos hj]
          cases σV[j]? <;> rfl
        · rfl
      · refine k4.bind.imp fun c p4 F4 H4 s4 q4 k5 => ?_
        have w4 := w3.step q4.1 s4
        cases c with
        | false =>
          simp only [Bool.false_eq_true, if_false] at k5 ⊢
          have k6 := k5.ret s4.fh q4
          refine ⟨trivial, hlt, F4, p4, os, acc, fp, q4, w4, Nat.le_succ_of_le hos, ?_⟩
          exact k6.bind0.imp fun r p5 F5 H5 s5 q5 k7 => k7.ret' s5 q5
        | true =>
          simp only [if_true] at k5 ⊢
          refine ⟨F0, H0, F4, σ', p4, A4.step s4 q4, k5.bind.imp fun o p5 F5 H5 s5 q5 k6 v f n => ?_⟩
          have k7 := k6.ret s5.fh q5
          obtain ⟨hL5, w5, q5'⟩ := w4.app s5 q5 n
          have hal : acc.length = os.length := (w4.own.length).symm
          refine ⟨acc, hL5, by rw [hal]; exact lim_lt2 (Nat.lt_of_le_of_lt hos hlt) hlen, trivial, hlt, F5, p5, os ++ [o], acc ++ [v], fp ++ f, q5', w5, by rw [List.length_append]; exact Nat.succ_le_succ hos, ?_⟩
          refine k7.bind0.imp fun r p6 F6 H6 s6 q6 k8 fp' n' => ?_
          exact k8.ret' s6 q6 fp' (by rw [List.append_assoc] at n'; exact n')
    · have e : i = ds.length := Nat.le_antisymm hi (Nat.le_of_not_lt hlt)
      subst e
      left
      refine ⟨hJ.stop F2 H2 w.stp.ff w.stp.fh, ?_⟩
      rw [List.drop_length, lcRun] at k2
      have k3 := k2.ret' w.stp q2
      exact k3 _ (by rw [List.append_nil]; exact w.got)
end
end Bc
set_option Elab.async false
set_option linter.all false
set_option maxRecDepth 100000
set_option maxHeartbeats 4000000
/-! Part C10. Statements. -/
namespace Bc
open PySem PySem.Spec L2

/-- behind a step of a def that began at (F0, H0); F: what was frozen before the step -/
def After0 (g : GE) (F0 H0 F : Hp) (E : XK) {α : Type} (r : Option (Except Exc α × Pen)) (K : α → Pen → Hp → Hp → Prop) : Prop := ∃ q, r = some q ∧
  Res g F0 H0 (fun c d H' => E c d H') (fun a p F' H' => Same F F' → K a p F' H') q
section
variable {g : GE} {F0 H0 F H : Hp} {E E' : XK} {α β : Type}
theorem After0.on {F1 : Hp} {r : Option (Except Exc α × Pen)} {K : α → Pen → Hp → Hp → Prop} (h : After0 g F0 H0 F E r K) (e : Same F F1) : After0 g F0 H0 F1 E r K := by
  obtain ⟨⟨r, p⟩, h1, h2⟩ := h
  cases r with
  | ok a => exact ⟨_, h1, fun F' H' s q e' => h2 F' H' s q (e.trans e')⟩
  | error x => exact ⟨_, h1, h2⟩
theorem After0.bind {x : M α} {f : α → M β} {pn : Pen} {K : β → Pen → Hp → Hp → Prop} (h : After0 g F0 H0 F E (M.bind x f pn) K) : After0 g F0 H0 F E (x pn) fun a p F1 _ => After0 g F0 H0 F1 E (f a p) K := by
  obtain ⟨q, h1, h2⟩ := h
  rcases M.bind_ok h1 with ⟨a, p, h3, h4⟩ | ⟨e, p, h3, h4⟩
  · exact ⟨_, h3, fun F1 H1 s1 p1 e1 => After0.on ⟨q, h4, h2⟩ e1⟩
  · subst h4
    exact ⟨_, h3, h2⟩
theorem After0.imp {r : Option (Except Exc α × Pen)} {K K' : α → Pen → Hp → Hp → Prop} (h : After0 g F0 H0 F E r K) (k : ∀ a p F' H', Stp g F0 H0 F' H' → Same F F' → PenAt g F' H' p → K a p F' H' → K' a p F' H') : After0 g F0 H0 F E r K' := by
  obtain ⟨⟨r, p⟩, h1, h2⟩ := h
  cases r with
  | ok a => exact ⟨_, h1, fun F' H' s q e => k a p F' H' s e q (h2 F' H' s q e)⟩
  | error x => exact ⟨_, h1, h2⟩
theorem After0.err {r : Option (Except Exc α × Pen)} {K : α → Pen → Hp → Hp → Prop} (h : After0 g F0 H0 F E r K) (k : ∀ c d H, E c d H → E' c d H) : After0 g F0 H0 F E' r K := by
  obtain ⟨⟨r, p⟩, h1, h2⟩ := h
  cases r with
  | ok a => exact ⟨_, h1, h2⟩
  | error x => exact ⟨_, h1, fun c d F' H' s q e => k _ _ _ (h2 c d F' H' s q e)⟩
/-- an expression's step -/
theorem After0.ev {r : Option (Except Exc α × Pen)} {K : α → Pen → Hp → Hp → Prop} (h : After0 g F0 H0 F E r K) (s : Stp g F0 H0 F H) : After g F H E r fun a p F' H' => K a p F' H' := by
  obtain ⟨⟨r, p⟩, h1, h2⟩ := h
  cases r with
  | ok a => exact ⟨_, h1, fun F' H' s' q => h2 F' H' (s.trans q.1 s') q s'.ff⟩
  | error x => exact ⟨_, h1, fun c d F' H' s' q => h2 c d F' H' (s.trans q.1 s') q⟩
theorem After0.ret {a : α} {pn : Pen} {K : α → Pen → Hp → Hp → Prop} (h : After0 g F0 H0 F E (M.ret a pn) K) (s : Stp g F0 H0 F H) (p : PenAt g F H pn) : K a pn F H := by
  obtain ⟨q, h1, h2⟩ := h
  cases h1
  exact h2 F H s p (Same.refl F)
theorem After0.now {o : Option α} {pn : Pen} {K : α → Pen → Hp → Hp → Prop} (h : After0 g F0 H0 F E (M.of o pn) K) (s : Stp g F0 H0 F H) (p : PenAt g F H pn) : ∃ a, o = some a ∧ K a pn F H := by
  obtain ⟨q, h1, h2⟩ := h
  cases o with
  | none => cases h1
  | some a =>
    cases h1
    exact ⟨a, rfl, h2 F H s p (Same.refl F)⟩
/-- a call's step, from its own beginning -/
theorem After.zero {r : Option (Except Exc α × Pen)} {K : α → Pen → Hp → Hp → Prop} (h : After g F H E r K) : After0 g F H F E r K := by
  obtain ⟨⟨r, p⟩, h1, h2⟩ := h
  cases r with
  | ok a => exact ⟨_, h1, fun F' H' s q _ => h2 F' H' s q⟩
  | error x => exact ⟨_, h1, h2⟩
end

/-- how a statement ends -/
def fin (g : GE) (F0 H0 : Hp) (D : Ends) (r : Fl × Sto) (p : Pen) (F' H' : Hp) : Prop := match r with
  | (.nx, σ') => ∀ σV', Abs g F0 H0 σV' H' F' σ' p → D.nx σV' H'
  | (.bk, σ') => ∀ σV', Abs g F0 H0 σV' H' F' σ' p → D.bk σV' H'
  | (.ct, σ') => ∀ σV', Abs g F0 H0 σV' H' F' σ' p → D.ct σV' H'
  | (.rt d, _) => ∀ v, Rep g F' d v → D.rt v H'
def tSt (g : GE) (E : WX) (f : Sto → M (Fl × Sto)) : TS := fun D σV H => ∃ F0 H0 F σO pn, Abs g F0 H0 σV H F σO pn ∧ After0 g F0 H0 F (WE E σV) (f σO pn) (fin g F0 H0 D)
/-- the wish about exceptions looks at no slot -/
def Flat (E : WX) : Prop := ∀ c d σ σ' H, E c d σ H → E c d σ' H

section
variable {X : Cx} {g : GE} {S : Sem} {E : WX} {pos : Pos}
theorem ss_nil : PSs X [] (tSt g E (exs S [])) := pss_nil.weak fun D σV H ⟨F0, H0, F, σO, pn, A, h⟩ => by
  rw [exs] at h
  exact h.ret A.base A.pen σV A
theorem ss_cons {st : Stmt} {rest : List Stmt} {s : IS} {r : List IS} (hE : Flat E) (h1 : PS X st (tSt g E (ex S s))) (h2 : PSs X rest (tSt g E (exs S r))) : PSs X (st :: rest) (tSt g E (exs S (s :: r))) :=
  (pss_cons h1 h2).weak fun D σV H ⟨F0, H0, F, σO, pn, A, h⟩ => by
    rw [exs] at h
    refine ⟨F0, H0, F, σO, pn, A, h.bind.imp fun q p F1 H1 s1 e1 p1 k => ?_⟩
    obtain ⟨fl, σ'⟩ := q
    cases fl with
    | nx => exact fun σV' A' => ⟨F0, H0, F1, σ', p, A', k.err fun c d H => hE c d _ _ H⟩
    | rt d => exact k.ret s1 p1
    | bk => exact k.ret s1 p1
    | ct => exact k.ret s1 p1
/-- an owned thing taken out -/
theorem OwnSl.take {F H : Hp} : ∀ {σ : Sto} {σV : L2.St} {fp : List Addr} {i : Nat} {o : O}, OwnSl g F H σ σV fp → fp.Nodup → σ[i]? = some (some o) →
    ∃ v f fp', σV[i]? = some (some v) ∧ Own g F H o v f ∧ OwnSl g F H (σ.set i none) σV fp' ∧ f.Nodup ∧ fp'.Nodup ∧ (∀ a ∈ f, a ∈ fp ∧ a ∉ fp') ∧ ∀ a ∈ fp', a ∈ fp
  | _, _, _, i, _, .nil, _, e => by simp at e
  | _, _, _, 0, _, .no _, _, e => by simp at e
  | _, _, _, i + 1, _, .no r, nd, e => by
    obtain ⟨v, f, fp', h1, h2, h3, h4, h5, h6, h7⟩ := OwnSl.take (i := i) r nd (by simpa using e)
    exact ⟨v, f, fp', by simpa using h1, h2, .no h3, h4, h5, h6, h7⟩
  | _, _, _, 0, _, .yes (f := f0) (fp := fp0) h r, nd, e => by
    simp at e
    subst e
    have nd' := List.nodup_append.mp nd
    exact ⟨_, f0, fp0, rfl, h, .no r, nd'.1, nd'.2.1, fun a ha => ⟨List.mem_append_left _ ha, fun hb => nd'.2.2 a ha a hb rfl⟩, fun a ha => List.mem_append_right _ ha⟩
  | _, _, _, i + 1, _, .yes (f := f0) (fp := fp0) h r, nd, e => by
    have nd' := List.nodup_append.mp nd
    obtain ⟨v, f, fp', h1, h2, h3, h4, h5, h6, h7⟩ := OwnSl.take (i := i) r nd'.2.1 (by simpa using e)
    refine ⟨v, f, f0 ++ fp', by simpa using h1, h2, .yes h h3, h4, List.nodup_append.mpr ⟨nd'.1, h5, fun a ha b hb e => nd'.2.2 a ha b (h7 b hb) e⟩, fun a ha => ⟨List.mem_append_right _ (h6 a ha).1, fun hb => ?_⟩, fun a ha => ?_⟩
    · rcases List.mem_append.mp hb with q | q
      · exact nd'.2.2 a q a (h6 a ha).1 rfl
      · exact (h6 a ha).2 q
    · rcases List.mem_append.mp ha with q | q
      · exact List.mem_append_left _ q
      · exact List.mem_append_right _ (h7 a q)
theorem set_self_get {α : Type} {l : List α} {i : Nat} {x : α} (h : l[i]? = some x) : l.set i x = l := by
  apply List.ext_getElem?
  intro j
  rw [List.getElem?_set]
  split
  · rename_i e
    subst e
    rw [h]
    split
    · rfl
    · rename_i hl
      have := (List.getElem?_eq_some_iff.mp h).1
      exact absurd this hl
  · rfl
theorem Abs.freeze {F0 H0 F H : Hp} {σV : L2.St} {σO : Sto} {pn : Pen} (A : Abs g F0 H0 σV H F σO pn) (i : Nat) : ∃ F', Same F F' ∧ Abs g F0 H0 σV H F' (frzSt i σO) pn := by
  unfold frzSt
  cases e : slot? σO[i]? with
  | none => exact ⟨F, Same.refl F, A⟩
  | some o =>
    have ei := slot_some e
    obtain ⟨fp, h1, h2, h3⟩ := A.own
    obtain ⟨v, f, fp', q1, q2, q3, q4, q5, q6, q7⟩ := h1.take h2 ei
    have sm : Same F (more F H f) := fun a u h => by
      by_cases ha : a ∈ f
      · rw [(h3 a (q6 a ha).1).2.1] at h
        cases h
      · rw [more_out ha]
        exact h
    have r : Rep g (more F H f) o.toD v := q2.freeze sm fun a ha => more_in ha
    have o1 : OwnSl g (more F H f) H (σO.set i none) σV fp' := q3.mono sm fun a _ => rfl
    have hi : i < (σO.set i none).length := by
      rw [List.length_set]
      exact (List.getElem?_eq_some_iff.mp ei).1
    obtain ⟨fp2, o2, n2, m2⟩ := OwnSl.put (.fz r) .nil o1 q5 (fun a ha => by simp at ha) hi
    rw [List.set_set, set_self_get q1] at o2
    refine ⟨more F H f, sm, ⟨⟨A.base.ff.trans sm, fun a u h => ?_, fun a u h => ?_, A.base.keep, A.base.pk⟩, ⟨?_, ?_⟩, fp2, o2, n2, fun a ha => ?_⟩⟩
    · by_cases ha : a ∈ f
      · rw [more_in ha] at h
        exact h
      · rw [more_out ha] at h
        exact A.fh a u h
    · by_cases ha : a ∈ f
      · exact .inr (h3 a (q6 a ha).1).2.2
      · rw [more_out ha] at h
        exact A.base.new a u h
    · rw [more_out fun ha => (h3 _ (q6 _ ha).1).1 rfl]
      exact A.pen.1
    · obtain ⟨_, ca, c1, c2⟩ := A.pen
      exact ⟨ca, c1, sm _ _ c2⟩
    · have ha' := (m2 a ha).resolve_left (by simp)
      refine ⟨(h3 a (q7 a ha')).1, ?_, (h3 a (q7 a ha')).2.2⟩
      rw [more_out fun hf => (q6 a hf).2 ha']
      exact (h3 a (q7 a ha')).2.1
theorem ss_frz {rest : List Stmt} {i : Nat} {r : List IS} (h2 : PSs X rest (tSt g E (exs S r))) : PSs X rest (tSt g E (exs S (.freeze i :: r))) :=
  h2.weak fun D σV H ⟨F0, H0, F, σO, pn, A, h⟩ => by
    rw [exs, ex] at h
    obtain ⟨F', sm, A'⟩ := A.freeze i
    exact ⟨F0, H0, F', _, pn, A', After0.on h sm⟩

/-! ### simple statements -/
theorem s_pass : PS X (.Pass pos) (tSt g E (ex S .pass)) := ps_pass.weak fun D σV H ⟨F0, H0, F, σO, pn, A, h⟩ => by
  rw [ex] at h
  exact h.ret A.base A.pen σV A
theorem s_brk : PS X (.Break pos) (tSt g E (ex S .brk)) := ps_break.weak fun D σV H ⟨F0, H0, F, σO, pn, A, h⟩ => by
  rw [ex] at h
  exact h.ret A.base A.pen σV A
theorem s_cont : PS X (.Continue pos) (tSt g E (ex S .cont)) := ps_continue.weak fun D σV H ⟨F0, H0, F, σO, pn, A, h⟩ => by
  rw [ex] at h
  exact h.ret A.base A.pen σV A
theorem s_retN : PS X (.Return none pos) (tSt g E (ex S .retN)) := ps_retN.weak fun D σV H ⟨F0, H0, F, σO, pn, A, h⟩ => by
  rw [ex] at h
  exact h.ret A.base A.pen _ .non
theorem s_ret {e : Expr} {ie : IE} (he : PE X e (tEv g S E false ie)) : PS X (.Return (some e) pos) (tSt g E (ex S (.ret ie))) := (ps_ret he).weak fun D σV H ⟨F0, H0, F, σO, pn, A, h⟩ => by
  rw [ex] at h
  refine ⟨F0, H0, F, σO, pn, A, (h.bind.ev A.base).all fun o p k F1 H1 s1 p1 v f n => ?_⟩
  obtain ⟨F', s1', p1', r1, sm⟩ := n.frz s1 p1
  exact (k F' H1 s1' p1').ret (A.base.trans p1'.1 s1') p1' v r1
theorem s_expr {e : Expr} {ie : IE} (he : PE X e (tEv g S E false ie)) (hs : isCompE e = false) : PS X (.Expr e pos) (tSt g E (ex S (.expr ie))) := (ps_expr he (swap_none hs)).weak fun D σV H ⟨F0, H0, F, σO, pn, A, h⟩ => by
  rw [ex] at h
  exact ⟨F0, H0, F, σO, pn, A, (h.bind.ev A.base).imp fun o p F1 H1 s1 p1 k v f n => k.ret (A.base.trans p1.1 s1) p1 σV (A.step s1 p1)⟩
theorem asg_weak {i : Nat} {ie : IE} {D : Ends} {σV : L2.St} {H : Hp} (h : tSt g E (ex S (.asg i ie)) D σV H) : tAsg (tEv g S E false ie) (gName i) D σV H := by
  obtain ⟨F0, H0, F, σO, pn, A, h⟩ := h
  rw [ex] at h
  exact ⟨F0, H0, F, σO, pn, A, (h.bind.ev A.base).imp fun o p F1 H1 s1 p1 k v f n => k.ret (A.base.trans p1.1 s1) p1 _ (A.put s1 p1 n.toNew)⟩
theorem s_asg {e : Expr} {ie : IE} {i : Nat} {x : Str} {pos' : Pos} (hN : X.N.Nodup) (hi : X.N[i]? = some x) (hx : Loc X.env.scope x) (hf : X.fn x = true ∨ X.env.scope.names.lookup x = some .local) (hs : isCompE e = false) (he : PE X e (tEv g S E false ie)) :
    PS X (.Assign [.Name x pos'] e pos) (tSt g E (ex S (.asg i ie))) := (ps_set hN hi hx he (swap_none hs) hf).weak fun D σV H h => asg_weak h
theorem s_asgT {e : Expr} {ie : IE} {is : List Nat} {es : List Expr} {k : Nat} {tp : Pos} (hg : PG X (.Tuple es k tp) (tTg g (.tp is))) (he : PE X e (tEv g S E false ie)) (hs : isCompE e = false) (hw : swappedStores [.Tuple es k tp] e X.env = pure none) :
    PS X (.Assign [.Tuple es k tp] e pos) (tSt g E (ex S (.asgT is ie))) := (ps_asg he hg (show swapsWith e (some (.Tuple es k tp)) pos.line X.env = pure false from swap_none hs) hw rfl).weak fun D σV H ⟨F0, H0, F, σO, pn, A, h⟩ => by
  rw [ex] at h
  refine ⟨F0, H0, F, σO, pn, A, (h.bind.ev A.base).all fun o p k F1 H1 s1 p1 v f n => ?_⟩
  obtain ⟨F', s1', p1', r1, sm⟩ := n.frz s1 p1
  have bs := A.base.trans p1'.1 s1'
  have k2 := k F' H1 s1' p1'
  obtain ⟨σ', hb, k3⟩ := k2.bind.now bs p1'
  exact ⟨F0, H0, F', σO, p, o.toD, σ', A.step s1' p1', r1, hb, fun σV' _ A' => k3.ret bs p1' σV' A'⟩

/-! ### two or three names at once -/
/-- many new things -/
structure NewOwns (g : GE) (H F' H' : Hp) (os : List O) (vs : List V) (fp : List Addr) : Prop where
  own : Owns g F' H' os vs fp
  nd : fp.Nodup
  fr : ∀ a ∈ fp, H a = none ∧ F' a = none
  np : ∀ a ∈ fp, a ≠ g.pa
def tEvf (g : GE) (S : Sem) (E : WX) (es : List IE) : TA := fun σV H Q => ∃ F0 H0 F σ pn, Abs g F0 H0 σV H F σ pn ∧
  After g F H (WE E σV) (evf S es σ pn) fun os p F' H' => ∀ vs fp, NewOwns g H F' H' os vs fp → Q vs H'
theorem f_nil : PA X [] (tEvf g S E []) := pa_nil.weak fun σ H Q ⟨F0, H0, F, σO, pn, A, h⟩ => by
  rw [evf] at h
  exact h.ret A.fh A.pen [] [] ⟨.nil, .nil, fun a ha => by simp at ha, fun a ha => by simp at ha⟩
theorem f_cons {ea : Expr} {ia : IE} {es : List Expr} {ies : List IE} (hs : isStarE ea = false) (ha : PE X ea (tEv g S E false ia)) (hr : PA X es (tEvf g S E ies)) : PA X (ea :: es) (tEvf g S E (ia :: ies)) :=
  (pa_cons ha hr (star_eq hs)).weak fun σ H Q ⟨F0, H0, F, σO, pn, A, h⟩ => by
    rw [evf] at h
    refine ⟨F0, H0, F, σO, pn, A, h.bind.imp fun x p F1 H1 s1 p1 k v1 f1 n1 => ?_⟩
    refine ⟨F0, H0, F1, σO, p, A.step s1 p1, k.bind.imp fun os p2 F2 H2 s2 p2' k2 vs fp n2 => ?_⟩
    have n1' := n1.step s2
    have nn := n1'.new rfl
    refine k2.ret s2.fh p2' _ (f1 ++ fp) ⟨.cons n1'.own n2.own, List.nodup_append.mpr ⟨nn.1, n2.nd, fun a ha b hb e => ?_⟩, fun a ha => ?_, fun a ha => ?_⟩
    · subst e
      obtain ⟨u, hu⟩ := n1.own.there a ha
      rw [(n2.fr a hb).1] at hu
      cases hu
    · rcases List.mem_append.mp ha with q | q
      · exact nn.2 a q
      · refine ⟨?_, (n2.fr a q).2⟩
        cases e : H a with
        | none => rfl
        | some u =>
          have := s1.keep a u (n2.np a q) e
          rw [(n2.fr a q).1] at this
          cases this
    · rcases List.mem_append.mp ha with q | q
      · exact n1'.np a q
      · exact n2.np a q
theorem Owns.split {F H : Hp} : ∀ {o : O} {os : List O} {vs : List V} {fp : List Addr}, Owns g F H (o :: os) vs fp → ∃ v ws f1 f2, vs = v :: ws ∧ fp = f1 ++ f2 ∧ Own g F H o v f1 ∧ Owns g F H os ws f2
  | _, _, _, _, .cons h r => ⟨_, _, _, _, rfl, rfl, h, r⟩
/-- slot i := a new thing; the others of the lot stay new -/
theorem Abs.puts {H0 F' H' : Hp} : ∀ {is : List Nat} {os : List O} {vs : List V} {fp : List Addr} {σV : L2.St} {σO : Sto} {σ' : Sto}, 
    Owns g F' H' os vs fp → fp.Nodup → (∀ a ∈ fp, a ≠ g.pa ∧ F' a = none ∧ H0 a = none) → (∃ fq, OwnSl g F' H' σO σV fq ∧ fq.Nodup ∧ (∀ a ∈ fq, a ≠ g.pa ∧ F' a = none ∧ H0 a = none) ∧ ∀ a ∈ fp, a ∉ fq) → setOs is os σO = some σ' →
    ∃ σV', ((is.zip vs).foldl (fun σ q => σ.set q.1 (some q.2)) σV) = σV' ∧ is.length = vs.length ∧ ∃ fq, OwnSl g F' H' σ' σV' fq ∧ fq.Nodup ∧ ∀ a ∈ fq, a ≠ g.pa ∧ F' a = none ∧ H0 a = none
  | [], [], _, _, σV, σO, σ', .nil, nd, fr, ⟨fq, q1, q2, q3, q4⟩, e => by
    cases e
    exact ⟨_, rfl, rfl, fq, q1, q2, q3⟩
  | [], _ :: _, _, _, _, _, _, _, _, _, _, e => by cases e
  | _ :: _, [], _, _, _, _, _, _, _, _, _, e => by cases e
  | i :: is, o :: os, vs, fp, σV, σO, σ', w, nd, fr, ⟨fq, q1, q2, q3, q4⟩, e => by
    obtain ⟨v, ws, f1, f2, rfl, rfl, w1, w2⟩ := Owns.split w
    have nd' := List.nodup_append.mp nd
    change setOs is os (σO.set i (some o)) = some σ' at e
    have key : ∃ fq', OwnSl g F' H' (σO.set i (some o)) (σV.set i (some v)) fq' ∧ fq'.Nodup ∧ ∀ a ∈ fq', a ∈ f1 ∨ a ∈ fq := by
      by_cases hi : i < σO.length
      · exact OwnSl.put w1 nd'.1 q1 q2 (fun a ha => q4 a (List.mem_append_left _ ha)) hi
      · rw [List.set_eq_of_length_le (Nat.le_of_not_lt hi), List.set_eq_of_length_le (by rw [← q1.length]; exact Nat.le_of_not_lt hi)]
        exact ⟨fq, q1, q2, fun a ha => .inr ha⟩
    obtain ⟨fq', k1, k2, k3⟩ := key
    have c3 : ∀ a ∈ fq', a ≠ g.pa ∧ F' a = none ∧ H0 a = none := fun a ha => (k3 a ha).elim (fun q => fr a (List.mem_append_left _ q)) (q3 a)
    have c4 : ∀ a ∈ f2, a ∉ fq' := fun a ha hb => (k3 a hb).elim (fun q => nd'.2.2 a q a ha rfl) (q4 a (List.mem_append_right _ ha))
    obtain ⟨σV', e1, e2, r⟩ := Abs.puts w2 nd'.2.1 (fun a ha => fr a (List.mem_append_right _ ha)) ⟨fq', k1, k2, c3, c4⟩ e
    exact ⟨σV', e1, by rw [List.length_cons, List.length_cons, e2], r⟩
theorem par_weak {is : List Nat} {es : List IE} {D : Ends} {σV : L2.St} {H : Hp} (h : tSt g E (ex S (.par is es)) D σV H) : tEvf g S E es σV H fun vs H1 => is.length = vs.length ∧ D.nx ((is.zip vs).foldl (fun σ q => σ.set q.1 (some q.2)) σV) H1 := by
  obtain ⟨F0, H0, F, σO, pn, A, h⟩ := h
  rw [ex] at h
  refine ⟨F0, H0, F, σO, pn, A, (h.bind.ev A.base).imp fun os p F1 H1 s1 p1 k vs fp n => ?_⟩
  have bs := A.base.trans p1.1 s1
  obtain ⟨σ', hb, k3⟩ := k.bind.now bs p1
  have A1 := A.step s1 p1
  obtain ⟨fq, q1, q2, q3⟩ := A.own
  have h0 : ∀ a ∈ fp, H0 a = none := fun a ha => by
    cases e : H0 a with
    | none => rfl
    | some u =>
      have := A.base.keep a u (n.np a ha) e
      rw [(n.fr a ha).1] at this
      cases this
  have c1 : OwnSl g F1 H1 σO σV fq := q1.mono s1.ff fun a ha => by
    obtain ⟨u, hu⟩ := q1.there a ha
    rw [hu]
    exact s1.keep a u (q3 a ha).1 hu
  have c3 : ∀ a ∈ fq, a ≠ g.pa ∧ F1 a = none ∧ H0 a = none := fun a ha => by
    obtain ⟨u, hu⟩ := q1.there a ha
    exact ⟨(q3 a ha).1, s1.out hu (q3 a ha).2.1, (q3 a ha).2.2⟩
  have c4 : ∀ a ∈ fp, a ∉ fq := fun a ha hb => by
    obtain ⟨u, hu⟩ := q1.there a hb
    rw [(n.fr a ha).1] at hu
    cases hu
  obtain ⟨σV', e1, e2, fq', r1, r2, r3⟩ := Abs.puts (H0 := H0) n.own n.nd (fun a ha => ⟨n.np a ha, (n.fr a ha).2, h0 a ha⟩) ⟨fq, c1, q2, c3, c4⟩ hb
  refine ⟨e2, ?_⟩
  rw [e1]
  exact k3.ret bs p1 σV' ⟨bs, p1, fq', r1, r2, r3⟩
end
end Bc
set_option Elab.async false
set_option linter.all false
set_option maxRecDepth 100000
set_option maxHeartbeats 4000000
/-! Part C11. Statements that change what a name owns; if, for, while. -/
namespace Bc
open PySem PySem.Spec L2

section
variable {g : GE}
theorem Owns.dropLast {F H : Hp} : ∀ {os : List O} {vs : List V} {fp : List Addr}, Owns g F H os vs fp → ∃ fp', Owns g F H os.dropLast vs.dropLast fp' ∧ fp'.Sublist fp
  | _, _, _, .nil => ⟨[], .nil, .slnil⟩
  | _, _, _, .cons h .nil => ⟨[], .nil, List.nil_sublist _⟩
  | _, _, _, .cons (f1 := f1) h (.cons h2 r) => by
    obtain ⟨fp', q1, q2⟩ := Owns.dropLast (Owns.cons h2 r)
    exact ⟨f1 ++ fp', .cons h q1, List.Sublist.append_left q2 f1⟩
/-- slot i's thing changed in place -/
theorem OwnSl.upd {F H : Hp} : ∀ {σ : Sto} {σV : L2.St} {fp : List Addr} {i : Nat} {q : O}, OwnSl g F H σ σV fp → fp.Nodup → σ[i]? = some (some q) →
    ∃ v f, σV[i]? = some (some v) ∧ Own g F H q v f ∧ (∀ a ∈ f, a ∈ fp) ∧ f.Nodup ∧ ∀ H' q' f', (∀ a, a ∉ f → H' a = H a) → Own g F H' q' v f' → f'.Sublist f → ∃ fp', OwnSl g F H' (σ.set i (some q')) σV fp' ∧ fp'.Sublist fp
  | _, _, _, i, _, .nil, _, e => by simp at e
  | _, _, _, 0, _, .no _, _, e => by simp at e
  | _, _, _, i + 1, _, .no r, nd, e => by
    obtain ⟨v, f, h1, h2, h3, h4, h5⟩ := OwnSl.upd (i := i) r nd (by simpa using e)
    refine ⟨v, f, by simpa using h1, h2, h3, h4, fun H' q' f' k w sb => ?_⟩
    obtain ⟨fp', r1, r2⟩ := h5 H' q' f' k w sb
    exact ⟨fp', .no r1, r2⟩
  | _, _, _, 0, _, .yes (f := f0) (fp := fp0) h r, nd, e => by
    simp at e
    subst e
    have nd' := List.nodup_append.mp nd
    exact ⟨_, f0, rfl, h, fun a ha => List.mem_append_left _ ha, nd'.1, fun H' q' f' k w sb => ⟨f' ++ fp0, .yes w (r.mono (Same.refl F) fun a ha => k a fun hf => nd'.2.2 a hf a ha rfl), List.Sublist.append_right sb fp0⟩⟩
  | _, _, _, i + 1, _, .yes (f := f0) (fp := fp0) h r, nd, e => by
    have nd' := List.nodup_append.mp nd
    obtain ⟨v, f, h1, h2, h3, h4, h5⟩ := OwnSl.upd (i := i) r nd'.2.1 (by simpa using e)
    refine ⟨v, f, by simpa using h1, h2, fun a ha => List.mem_append_right _ (h3 a ha), h4, fun H' q' f' k w sb => ?_⟩
    obtain ⟨fp', r1, r2⟩ := h5 H' q' f' k w sb
    exact ⟨f0 ++ fp', .yes (h.mono (Same.refl F) fun a ha => k a fun hf => nd'.2.2 a ha a (h3 a hf) rfl) r1, List.Sublist.append_left r2 f0⟩
theorem Abs.upd {F0 H0 F H : Hp} {σV : L2.St} {σO : Sto} {pn : Pen} {i : Nat} {q : O} (A : Abs g F0 H0 σV H F σO pn) (e : σO[i]? = some (some q)) :
    ∃ v f, σV[i]? = some (some v) ∧ Own g F H q v f ∧ f.Nodup ∧ (∀ a ∈ f, a ≠ g.pa ∧ F a = none) ∧ ∀ H' q' f', (∀ a, a ∉ f → H' a = H a) → Own g F H' q' v f' → f'.Sublist f → Abs g F0 H0 σV H' F (σO.set i (some q')) pn := by
  obtain ⟨fp, h1, h2, h3⟩ := A.own
  obtain ⟨v, f, k1, k2, k3, k4, k5⟩ := h1.upd h2 e
  refine ⟨v, f, k1, k2, k4, fun a ha => ⟨(h3 a (k3 a ha)).1, (h3 a (k3 a ha)).2.1⟩, fun H' q' f' hk w sb => ?_⟩
  have s : Stp g F0 H0 F H' := ⟨A.base.ff, fun a u h => by
      have : a ∉ f := fun hf => by
        rw [(h3 a (k3 a hf)).2.1] at h
        cases h
      rw [hk a this]
      exact A.fh a u h, A.base.new, fun a u ne h => by
      have : a ∉ f := fun hf => by
        rw [(h3 a (k3 a hf)).2.2] at h
        cases h
      rw [hk a this]
      exact A.base.keep a u ne h, fun l h => by
      obtain ⟨l', e1, e2⟩ := A.base.pk l h
      refine ⟨l', ?_, e2⟩
      rw [hk _ fun hf => (h3 _ (k3 _ hf)).1 rfl]
      exact e1⟩
  obtain ⟨fp', r1, r2⟩ := k5 H' q' f' hk w sb
  refine ⟨s, ⟨A.pen.1, ?_⟩, fp', r1, List.Nodup.sublist r2 h2, fun a ha => h3 a (r2.subset ha)⟩
  obtain ⟨_, ca, c1, c2⟩ := A.pen
  refine ⟨ca, ?_, c2⟩
  rw [hk _ fun hf => (h3 _ (k3 _ hf)).1 rfl]
  exact c1
/-! ### changes in place -/
theorem upd_off {H : Hp} {a : Addr} {o : HO} {f : List Addr} (h : a ∈ f) : ∀ b, b ∉ f → upd H a o b = H b := fun b hb => upd_ne fun e => hb (e ▸ h)
theorem Owns.off {F H : Hp} {a : Addr} {o : HO} {os : List O} {vs : List V} {fp : List Addr} (w : Owns g F H os vs fp) (h : a ∉ fp) : Owns g F (upd H a o) os vs fp := w.mono (Same.refl F) fun b hb => upd_ne fun e => h (e ▸ hb)
/-- an item put at place j: what it held is forgotten, its objects too -/
theorem Owns.put {F H : Hp} {d : D} {v : V} (r : Rep g F d v) : ∀ {os : List O} {vs : List V} {fp : List Addr} {j : Nat}, Owns g F H os vs fp → ∃ fp', Owns g F H (os.set j (.fz d)) (vs.set j v) fp' ∧ fp'.Sublist fp
  | _, _, _, _, .nil => ⟨[], .nil, .slnil⟩
  | _, _, _, 0, .cons (f1 := f1) (f2 := f2) h w => ⟨[] ++ f2, .cons (.fz r) w, List.sublist_append_right _ _⟩
  | _, _, _, j + 1, .cons (f1 := f1) (f2 := f2) h w => by
    obtain ⟨fp', h1, h2⟩ := Owns.put r (j := j) w
    exact ⟨f1 ++ fp', .cons h h1, List.Sublist.append_left h2 f1⟩

/-- dput tells what putK makes: keys -/
theorem put_keys {κ : Type} [DecidableEq κ] {fk : DK → κ} {k : DK} {w : V} {d : D} : ∀ {kvs : List (κ × V)} {ks : List DK} {ds : List D}, kvs.map Prod.fst = ks.map fk → (∀ k' ∈ ks, fk k' = fk k → k' = k) → ds.length = ks.length →
    (L2.putK kvs (fk k) w).map Prod.fst = (dput ks ds k d).1.map fk := by
  intro kvs ks ds h inj hl
  unfold L2.putK dput
  have any : (kvs.any fun kv => decide (kv.1 = fk k)) = decide (k ∈ ks) := by
    rw [Bool.eq_iff_iff, List.any_eq_true, decide_eq_true_eq]
    constructor
    · rintro ⟨kv, hm, e⟩
      have hm' : kv.1 ∈ ks.map fk := h ▸ List.mem_map_of_mem hm
      obtain ⟨k', hk', e'⟩ := List.mem_map.mp hm'
      rw [← inj k' hk' (e'.trans (of_decide_eq_true e))]
      exact hk'
    · intro hk
      have : fk k ∈ kvs.map Prod.fst := h ▸ List.mem_map_of_mem hk
      obtain ⟨kv, hm, e⟩ := List.mem_map.mp this
      exact ⟨kv, hm, decide_eq_true e⟩
  rw [any]
  by_cases hk : k ∈ ks
  · rw [if_pos (decide_eq_true hk), if_pos hk, List.map_map]
    refine Eq.trans ?_ h
    apply List.map_congr_left
    intro kv _
    show (if kv.1 = fk k then (kv.1, w) else kv).1 = kv.1
    split <;> rfl
  · rw [if_neg (by simpa using hk), if_neg hk, List.map_append, List.map_append, h]
    rfl
theorem put_vals {κ : Type} [DecidableEq κ] {fk : DK → κ} {F : Hp} {k : DK} {w : V} {d : D} (r : Rep g F d w) {kvs : List (κ × V)} {ks : List DK} {ds : List D} (h : kvs.map Prod.fst = ks.map fk) (inj : ∀ k' ∈ ks, fk k' = fk k → k' = k) (rs : Reps g F ds (kvs.map Prod.snd)) :
    Reps g F (dput ks ds k d).2 ((L2.putK kvs (fk k) w).map Prod.snd) := by
  unfold L2.putK dput
  have any : (kvs.any fun kv => decide (kv.1 = fk k)) = decide (k ∈ ks) := by
    rw [Bool.eq_iff_iff, List.any_eq_true, decide_eq_true_eq]
    constructor
    · rintro ⟨kv, hm, e⟩
      have hm' : kv.1 ∈ ks.map fk := h ▸ List.mem_map_of_mem hm
      obtain ⟨k', hk', e'⟩ := List.mem_map.mp hm'
      rw [← inj k' hk' (e'.trans (of_decide_eq_true e))]
      exact hk'
    · intro hk
      have : fk k ∈ kvs.map Prod.fst := h ▸ List.mem_map_of_mem hk
      obtain ⟨kv, hm, e⟩ := List.mem_map.mp this
      exact ⟨kv, hm, decide_eq_true e⟩
  rw [any]
  by_cases hk : k ∈ ks
  · rw [if_pos (decide_eq_true hk), if_pos hk]
    clear any hk
    show Reps g F ((ks.zip ds).map fun p => if p.1 = k then d else p.2) _
    rw [List.map_map]
    induction kvs generalizing ks ds with
    | nil =>
      cases ks with
      | cons _ _ => cases h
      | nil =>
        cases rs
        exact .nil
    | cons kv kvs ih =>
      cases ks with
      | nil => cases h
      | cons k' ks =>
        rw [List.map_cons, List.map_cons, List.cons.injEq] at h
        cases rs with
        | cons r1 rs =>
          rw [List.zip_cons_cons, List.map_cons, List.map_cons]
          refine .cons ?_ (ih h.2 (fun k' hk' => inj k' (List.mem_cons_of_mem _ hk')) rs)
          show Rep g F (if k' = k then d else _) (if kv.1 = fk k then (kv.1, w) else kv).2
          by_cases e : k' = k
          · rw [if_pos e, if_pos (by rw [h.1, e])]
            exact r
          · rw [if_neg e, if_neg fun z => e (inj k' List.mem_cons_self (by rw [← h.1]; exact z))]
            exact r1
  · rw [if_neg (show ¬(decide (k ∈ ks) = true) by simpa using hk), if_neg hk, List.map_append]
    exact rs.append (.cons r .nil)
theorem put_all {ks : List DK} {ds : List D} {k : DK} {d : D} {p : DK → Bool} (h : ks.all p = true) (hk : p k = true) : (dput ks ds k d).1.all p = true := by
  unfold dput
  split
  · exact h
  · rw [List.all_append, h]
    simp [hk]
/-- what stands in an owned thing behind o[k] = d -/
theorem store_own {F H : Hp} {k d : D} {q q' : O} {v kv w : V} {f : List Addr} (hs : storeF k d q = some q') (o : Own g F H q v f) (nd : f.Nodup) (e : Same F H) (rk : Rep g F k kv) (rd : Rep g F d w) (K : PySem.W.Frag) :
    (∃ p xs i j, v = .ref p ∧ kv = .int i ∧ H p = some (.lst xs) ∧ ixN xs.length i = some j ∧ ∃ f', Own g F (upd H p (.lst (xs.set j w))) q' v f' ∧ f'.Sublist f ∧ p ∈ f) ∨
    (∃ p u, v = .ref p ∧ L2.DPut H p kv w (upd H p u) ∧ Own g F (upd H p u) q' v f ∧ p ∈ f) := by
  unfold storeF at hs
  cases o with
  | fz r => cases hs
  | ins h _ r => cases hs
  | lst h r =>
    left
    rename_i a vs os fp
    cases rk with
    | int i =>
      obtain ⟨j, hj, rfl⟩ := Option.map_eq_some_iff.mp hs
      have hl := r.length
      obtain ⟨fp', h1, h2⟩ := Owns.put rd (j := j) r
      have nd' := List.nodup_cons.mp nd
      refine ⟨a, vs, i, j, rfl, rfl, h, by rw [← hl]; exact hj, a :: fp', .lst upd_same (h1.off fun z => nd'.1 (h2.subset z)), List.Sublist.cons₂ a h2, List.mem_cons_self⟩
    | _ => cases hs
  | dK h hk ha r =>
    right
    rename_i a kvs ks ds
    change (match keyOf k with | some q => if q.atom = !false then (if ks.length < lim then some (O.dct false (dput ks ds q d).1 (dput ks ds q d).2) else none) else none | none => none) = some q' at hs
    cases ek : keyOf k with
    | none =>
      rw [ek] at hs
      cases hs
    | some kk =>
      rw [ek] at hs
      obtain ⟨hat, hs⟩ := some_if' hs
      obtain ⟨hl, rfl⟩ := some_if hs
      have hkv : kv = kV kk.key := (key_at e rk ek).elim (fun z => z.2) fun z => by
        rw [z.1] at hat
        cases hat
      have hl2 : kvs.length = ks.length := by
        have := congrArg List.length hk
        rw [List.length_map, List.length_map] at this
        exact this
      have inj : ∀ k' ∈ ks, DK.key k' = DK.key kk → k' = kk := fun k' hk' z => DK.key_inj (List.all_eq_true.mp ha k' hk') hat z
      have rl := r.length
      rw [List.length_map, hl2] at rl
      refine ⟨a, .dK (L2.putK kvs kk.key w), rfl, ?_, .dK upd_same (put_keys hk inj rl) (put_all ha hat) (put_vals rd hk inj r), List.mem_singleton.mpr rfl⟩
      rw [hkv]
      exact L2.DPut.k h (by rw [hl2]; exact lim_lt hl)
  | dT h hk ha r =>
    right
    rename_i a kvs ks ds
    change (match keyOf k with | some q => if q.atom = !true then (if ks.length < lim then some (O.dct true (dput ks ds q d).1 (dput ks ds q d).2) else none) else none | none => none) = some q' at hs
    cases ek : keyOf k with
    | none =>
      rw [ek] at hs
      cases hs
    | some kk =>
      rw [ek] at hs
      obtain ⟨hat, hs⟩ := some_if' hs
      obtain ⟨hl, rfl⟩ := some_if hs
      obtain ⟨b, hkv, hb⟩ : ∃ b, kv = V.ref b ∧ H b = some (.tup (kk.keyT.map kV)) := (key_at e rk ek).elim (fun z => by
        rw [z.1] at hat
        cases hat) fun z => z.2
      have hl2 : kvs.length = ks.length := by
        have := congrArg List.length hk
        rw [List.length_map, List.length_map] at this
        exact this
      have inj : ∀ k' ∈ ks, DK.keyT k' = DK.keyT kk → k' = kk := fun k' hk' z => DK.keyT_inj (by simpa using List.all_eq_true.mp ha k' hk') hat z
      have rl := r.length
      rw [List.length_map, hl2] at rl
      refine ⟨a, .dT (L2.putK kvs kk.keyT w), rfl, ?_, .dT upd_same (put_keys hk inj rl) (put_all ha (by simpa using hat)) (put_vals rd hk inj r), List.mem_singleton.mpr rfl⟩
      rw [hkv]
      exact L2.DPut.t h hb (by rw [hl2]; exact lim_lt hl)
end
section
variable {X : Cx} {g : GE} {S : Sem} {E : WX} {pos : Pos}
theorem PS.either {e : Stmt} {t1 t2 : TS} (h1 : PS X e t1) (h2 : PS X e t2) : PS X e (fun D σ H => t1 D σ H ∨ t2 D σ H) := ⟨fun pins s σ H D I hw => hw.elim (h1.run pins s σ H D I) (h2.run pins s σ H D I)⟩
theorem ownL_at {σ : Sto} {i : Nat} {os : List O} (h : ownL σ i = some os) : σ[i]? = some (some (.lst os)) := by
  unfold ownL at h
  split at h
  · rename_i e
    cases h
    exact slot_some e
  · cases h
theorem own_ref {F H : Hp} {os : List O} {v : V} {f : List Addr} (o : Own g F H (.lst os) v f) : ∃ a vs fp, v = .ref a ∧ f = a :: fp ∧ H a = some (.lst vs) ∧ Owns g F H os vs fp := by
  cases o with
  | lst h r => exact ⟨_, _, _, rfl, rfl, h, r⟩
theorem s_app {i : Nat} {x : Str} {p apos cpos : Pos} {e : Expr} {ie : IE} (hv : PE X (.Name x p) (tVar i)) (hs : isStarE e = false) (he : PE X e (tEv g S E false ie)) (hline : (apos.endLine == cpos.line) = true) :
    PS X (.Expr (.Call (.Attribute (.Name x p) "append" apos) [e] [] cpos) pos) (tSt g E (ex S (.app i ie))) :=
  (ps_expr (pe_bm PySem.F.plainAttrs_list PySem.F.slot_list_append PySem.F.type_list_append (fun pins s σ H x xs v us Q I rx rs h => L2.mt_append pins s σ H x xs v us Q I rx rs h) hv (pa_cons he pa_nil (star_eq hs)) rfl (few20 (by simp [hs]) (by simp)) hline (star_eq hs) rfl) (by rfl)).weak fun D σV H ⟨F0, H0, F, σO, pn, A, h⟩ => by
    rw [ex] at h
    obtain ⟨os, hos, h2⟩ := h.bind.now A.base A.pen
    have hat := ownL_at hos
    obtain ⟨v, f, k1, k2, _⟩ := A.upd hat
    obtain ⟨a, vs, fp, rfl, rfl, ha, w⟩ := own_ref k2
    refine ⟨_, k1, .inl ⟨rfl, vs, .inl (.inl ha)⟩, F0, H0, F, σO, pn, A, (h2.bind.ev A.base).all fun o p k F1 H1 s1 p1 v2 f2 n => ?_⟩
    obtain ⟨F', s1', p1', r1, sm⟩ := n.frz s1 p1
    have bs := A.base.trans p1'.1 s1'
    obtain ⟨q', hq, k3⟩ := (k F' H1 s1' p1').bind.now bs p1'
    unfold appL at hq
    obtain ⟨hl, rfl⟩ := some_if hq
    have A' := A.step s1' p1'
    obtain ⟨v3, f3, j1, j2, j3, j4, j5⟩ := A'.upd hat
    rw [k1] at j1
    cases j1
    obtain ⟨a', vs', fp', e1, rfl, ha', w'⟩ := own_ref j2
    cases e1
    refine ⟨a, vs', v2, rfl, rfl, ha', by rw [← w'.length]; exact lim_lt hl, ?_⟩
    have o1 : Owns g F' (upd H1 a (.lst (vs' ++ [v2]))) (os ++ [.fz o.toD]) (vs' ++ [v2]) (fp' ++ ([] ++ [])) := (w'.off (List.nodup_cons.mp j3).1).append (.cons (.fz r1) .nil)
    rw [List.append_nil, List.append_nil] at o1
    have A2 := j5 (upd H1 a (.lst (vs' ++ [v2]))) _ _ (upd_off List.mem_cons_self) (.lst upd_same o1) (List.Sublist.refl _)
    exact k3.ret A2.base A2.pen σV A2
/-- a value read into slots -/
theorem Abs.two {F0 H0 F H : Hp} {σV : L2.St} {σO : Sto} {pn : Pen} (A : Abs g F0 H0 σV H F σO pn) : Abs g F0 H0 σV H F σO pn := A
theorem s_pop {i j : Nat} {x y : Str} {p apos cpos pos' : Pos} (hN : X.N.Nodup) (hi : X.N[i]? = some x) (hx : Loc X.env.scope x) (hf : X.fn x = true ∨ X.env.scope.names.lookup x = some .local) (hv : PE X (.Name y p) (tVar j)) (hline : (apos.endLine == cpos.line) = true) :
    PS X (.Assign [.Name x pos'] (.Call (.Attribute (.Name y p) "pop" apos) [] [] cpos) pos) (tSt g E (ex S (.pop i j))) :=
  (ps_set hN hi hx (pe_bm0 PySem.F.plainAttrs_list PySem.F.slot_list_pop PySem.F.type_list_pop (fun pins s σ H x xs v us Q I rx rs h => L2.mt_pop pins s σ H x xs v us Q I rx rs h) hv rfl hline) (by rfl) hf).weak fun D σV H ⟨F0, H0, F, σO, pn, A, h⟩ => by
    rw [ex] at h
    obtain ⟨os, hos, h2⟩ := h.bind.now A.base A.pen
    obtain ⟨⟨d, rest⟩, hr, h3⟩ := h2.bind.now A.base A.pen
    have hat := ownL_at hos
    obtain ⟨v, f, k1, k2, k3, k4, k5⟩ := A.upd hat
    obtain ⟨a, vs, fp, rfl, rfl, ha, w⟩ := own_ref k2
    unfold popL at hr
    split at hr
    · rename_i d' hlast
      cases hr
      have hl := w.length
      have hne : os ≠ [] := fun e => by
        rw [e] at hlast
        cases hlast
      have hos' : os[os.length - 1]? = some (.fz d) := by
        rw [← hlast, List.getLast?_eq_getElem?]
      obtain ⟨v, f, q1, q2, _⟩ := w.get hos'
      have rv : Rep g F d v := by
        cases q2 with
        | fz r => exact r
      refine ⟨_, k1, .inl ⟨rfl, vs, .inl (.inl ha)⟩, a, vs, v, rfl, rfl, ha, by rw [← hl]; exact q1, ?_⟩
      obtain ⟨fp', o1, sb⟩ := Owns.dropLast w
      have A2 := k5 (upd H a (.lst vs.dropLast)) (.lst os.dropLast) (a :: fp') (upd_off List.mem_cons_self) (.lst upd_same (o1.off fun z => (List.nodup_cons.mp k3).1 (sb.subset z))) (List.Sublist.cons₂ a sb)
      have A3 := A2.here (i := i) rv
      exact h3.ret A3.base A3.pen _ A3
    · cases hr
end
end Bc
set_option Elab.async false
set_option linter.all false
set_option maxRecDepth 100000
set_option maxHeartbeats 4000000
/-! Part C12. Stores, fields, augmented names, if, for, while. -/
namespace Bc
open PySem PySem.Spec L2

section
variable {X : Cx} {g : GE} {S : Sem} {E : WX} {pos : Pos}
def rPut : V → V → V → Hp → (Hp → Prop) → Prop := fun o i v H Q => L2.rSetL o i v H Q ∨ ∃ p H', o = .ref p ∧ L2.DPut H p i v H' ∧ Q H'
theorem set_put (hu : X.A.units + 1 < cLine) : PSet X rPut := by
  intro pins s σ H o i v ov iv u Q I ro ri rv h
  rcases h with h | ⟨p, H', rfl, h, q⟩
  · exact L2.set_list pins s σ H o i v ov iv u Q I ro ri rv h
  · cases ro
    exact d_setItem hu I h ri rv fun s' I' => ⟨H', I', q⟩
theorem s_store {i : Nat} {x : Str} {p sp : Pos} {k e : Expr} {ik ie : IE} (hu : X.A.units + 1 < cLine) (hv : PE X (.Name x p) (tVar i)) (hk : PE X k (tEv g S E false ik)) (he : PE X e (tEv g S E false ie)) (hc : isCompE e = false) (hsl : isSliceE k = false) :
    PS X (.Assign [.Subscript (.Name x p) k sp] e pos) (tSt g E (ex S (.store i ik ie))) :=
  (ps_asg he (pg_sub hv hk (set_put hu) (fun v => by cases k <;> first | rfl | cases hsl)) (show swapsWith e (some (.Subscript (.Name x p) k sp)) pos.line X.env = pure false from swap_none hc) (by cases e <;> rfl) (by rfl)).weak fun D σV H ⟨F0, H0, F, σO, pn, A, h⟩ => by
    rw [ex] at h
    refine ⟨F0, H0, F, σO, pn, A, (h.bind.ev A.base).all fun o p k F1 H1 s1 p1 w f n => ?_⟩
    obtain ⟨F', s1', p1', r1, sm⟩ := n.frz s1 p1
    have A1 := A.step s1' p1'
    obtain ⟨q, hq, k2⟩ := (k F' H1 s1' p1').bind.now A1.base p1'
    have hat := slot_some hq
    obtain ⟨v, f, k1, _⟩ := A1.upd hat
    refine ⟨v, k1, F0, H0, F', σO, p, A1, (k2.bind.ev A1.base).all fun kk p2 k3 F2 H2 s2 p2' kv f2 n2 => ?_⟩
    obtain ⟨F3, s3, p3, r3, sm3⟩ := n2.frz s2 p2'
    have A3 := A1.step s3 p3
    obtain ⟨q', hs, k4⟩ := (k3 F3 H2 s3 p3).bind.now A3.base p3
    obtain ⟨v', f', j1, j2, j3, j4, j5⟩ := A3.upd hat
    rw [k1] at j1
    cases j1
    rcases store_own hs j2 j3 s3.fh r3 (r1.mono s3.ff) g.K with ⟨a, xs, ii, j, rfl, rfl, ha, hj, f', o1, sb, hm⟩ | ⟨a, u, rfl, hp, o1, hm⟩
    · have A4 := j5 _ _ _ (upd_off hm) o1 sb
      exact .inl ⟨a, xs, ii, j, rfl, rfl, ha, hj, k4.ret A4.base A4.pen _ A4⟩
    · have A4 := j5 _ _ _ (upd_off hm) o1 (List.Sublist.refl _)
      exact .inr ⟨a, _, rfl, hp, k4.ret A4.base A4.pen _ A4⟩
theorem fid_few (c : Nat) : (fidT c).length < 1000 := by
  unfold fidT
  split <;> decide
theorem fid_nodup (c : Nat) : (fidT c).Nodup := by
  unfold fidT
  split <;> decide
theorem putF_zip {nm : Str} {w : V} : ∀ {L : List Str} {vs : List V}, L[vs.length]? = some nm → (∀ j, j < vs.length → L[j]? ≠ some nm) → putF nm w (L.zip vs) = L.zip (vs ++ [w])
  | [], vs, h, _ => by simp at h
  | x :: L, [], h, _ => by
    simp at h
    subst h
    rw [List.zip_nil_right, List.nil_append, List.zip_cons_cons, List.zip_nil_right]
    rfl
  | x :: L, v :: vs, h, k => by
    rw [List.zip_cons_cons, List.cons_append, List.zip_cons_cons]
    have hx : x ≠ nm := fun e => k 0 (Nat.succ_pos _) (by rw [e]; rfl)
    show (if x = nm then _ else (x, v) :: putF nm w (L.zip vs)) = _
    rw [if_neg hx, putF_zip (by simpa using h) fun j hj => by simpa using k (j + 1) (Nat.succ_lt_succ hj)]
theorem putF_next {c f : Nat} {n : Nat} {vs : List V} {w : V} (hf : (fidT c)[n]? = some f) (hl : n = vs.length) : putF (fnameT f) w ((clsNames c).zip vs) = (clsNames c).zip (vs ++ [w]) := by
  subst hl
  refine putF_zip (by unfold clsNames; rw [List.getElem?_map, hf]; rfl) fun j hj e => ?_
  unfold clsNames at e
  rw [List.getElem?_map, Option.map_eq_some_iff] at e
  obtain ⟨f', h1, h2⟩ := e
  have m1 := fid_lt c f (List.mem_of_getElem? hf)
  have m2 := fid_lt c f' (List.mem_of_getElem? h1)
  have := fname_inj f' f m2 m1 h2
  subst this
  have nd := fid_nodup c
  have := (List.getElem?_inj (List.getElem?_eq_some_iff.mp h1).1 nd).mp (h1.trans hf.symm)
  omega
theorem s_setf {i f : Nat} {x : Str} {nm : Str} {p sp : Pos} {e : Expr} {ie : IE} (hnm : nm = fnameT f) (hcl : ∀ c, S.cl c = true → ClsAt X g c) (hv : PE X (.Name x p) (tVar i)) (he : PE X e (tEv g S E false ie)) (hc : isCompE e = false) :
    PS X (.Assign [.Attribute (.Name x p) nm sp] e pos) (tSt g E (ex S (.setf i f ie))) :=
  (ps_fld hv he (swap_none hc)).weak fun D σV H ⟨F0, H0, F, σO, pn, A, h⟩ => by
    subst hnm
    rw [ex] at h
    refine ⟨F0, H0, F, σO, pn, A, (h.bind.ev A.base).all fun o p k F1 H1 s1 p1 w f1 n => ?_⟩
    obtain ⟨F', s1', p1', r1, sm⟩ := n.frz s1 p1
    have A1 := A.step s1' p1'
    obtain ⟨q, hq, k2⟩ := (k F' H1 s1' p1').bind.now A1.base p1'
    have hat := slot_some hq
    obtain ⟨v, f2, k1, k3, k4, k5, k6⟩ := A1.upd hat
    obtain ⟨q', hs, k7⟩ := k2.bind.now A1.base p1'
    refine ⟨v, k1, ?_⟩
    unfold setfO at hs
    split at hs
    · rename_i c fs
      obtain ⟨⟨hcc, hf⟩, rfl⟩ := some_if hs
      cases k3 with
      | ins ha hself r =>
        rename_i a dx vs
        have hmem : f ∈ fidT c := List.mem_of_getElem? hf
        have hl := r.length
        have hfl : fs.length < (fidT c).length := (List.getElem?_eq_some_iff.mp hf).1
        refine ⟨a, _, dx, _, rfl, ha, (hcl c hcc).cl, (hcl c hcc).no f hmem, ?_, ?_⟩
        · rw [List.length_zip]
          exact Nat.lt_of_le_of_lt (Nat.min_le_right _ _) (by rw [← hl]; exact Nat.lt_trans hfl (fid_few c))
        · have e1 : putF (fnameT f) w ((clsNames c).zip vs) = (clsNames c).zip (vs ++ [w]) := putF_next hf hl
          rw [e1]
          have A4 := k6 (upd H1 a (.ins (g.cls c) dx ((clsNames c).zip (vs ++ [w])))) _ [a] (upd_off List.mem_cons_self) (.ins upd_same hself (r.append (.cons r1 .nil))) (List.Sublist.refl _)
          exact k7.ret A4.base A4.pen _ A4
    · cases hs
theorem s_aug {i : Nat} {x : Str} {pos' : Pos} {op : BO} {o : Operator} {e : Expr} {ie : IE} (ho : (op = .add ∧ o = .Add) ∨ (op = .sub ∧ o = .Sub)) (hN : X.N.Nodup) (hi : X.N[i]? = some x) (hx : Loc X.env.scope x) (hf : X.fn x = true ∨ X.env.scope.names.lookup x = some .local) (he : PE X e (tEv g S E false ie)) :
    PS X (.AugAssign (.Name x pos') o e pos) (tSt g E (ex S (.aug i op ie))) := by
  have fin : ∀ (f : Int → Int → Int), (∀ x y : O, ∀ z, augO op x y = some z → ∃ i j, x = .fz (.int i) ∧ y = .fz (.int j) ∧ z = .fz (.int (f i j))) → PIp X o (ipI f) → PS X (.AugAssign (.Name x pos') o e pos) (tSt g E (ex S (.aug i op ie))) := fun f hb hp =>
    (ps_aug hN hi hx he hp hf).weak fun D σV H ⟨F0, H0, F, σO, pn, A, h⟩ => by
      rw [ex] at h
      obtain ⟨q, hq, k2⟩ := h.bind.now A.base A.pen
      have hat := slot_some hq
      obtain ⟨v, f1, k1, k3, _⟩ := A.upd hat
      refine ⟨v, k1, F0, H0, F, σO, pn, A, (k2.bind.ev A.base).imp fun o p F1 H1 s1 p1 k w fw n => ?_⟩
      have A1 := A.step s1 p1
      obtain ⟨z, hz, k4⟩ := k.bind.now A1.base p1
      obtain ⟨a, b, rfl, rfl, rfl⟩ := hb _ _ _ hz
      cases k3 with
      | fz r =>
        cases r
        have r2 := n.rep
        cases r2
        have A2 := A1.here (i := i) (Rep.int (f a b))
        exact ⟨a, b, rfl, rfl, k4.ret A2.base A2.pen _ A2⟩
  rcases ho with ⟨rfl, rfl⟩ | ⟨rfl, rfl⟩
  · refine fin (fun i j => i + j) (fun x y z hz => ?_) ip_add
    unfold augO at hz
    split at hz <;> first | (cases hz; exact ⟨_, _, rfl, rfl, rfl⟩) | cases hz
    rename_i hh
    cases hh
  · refine fin (fun i j => i - j) (fun x y z hz => ?_) ip_sub
    unfold augO at hz
    split at hz <;> first | (cases hz; exact ⟨_, _, rfl, rfl, rfl⟩) | cases hz
    rename_i hh
    cases hh

/-! ### if, for, while -/
theorem s_if {c : Expr} {a b : List Stmt} {ic : IE} {ia ib : List IS} (hE : Flat E) (hc : PT X c (tEvT g S E ic)) (ha : PSs X a (tSt g E (exs S ia))) (hb : PSs X b (tSt g E (exs S ib))) : PS X (.If c a b pos) (tSt g E (ex S (.ife ic ia ib))) :=
  (ps_if hc ha hb).weak fun D σV H ⟨F0, H0, F, σO, pn, A, h⟩ => by
    rw [ex, ← M.bind_assoc] at h
    refine tT_of ⟨F0, H0, F, σO, pn, A, (h.bind.ev A.base).imp fun t p F1 H1 s1 p1 k => ?_⟩
    have A1 := A.step s1 p1
    cases t with
    | true =>
      rw [if_pos rfl] at k ⊢
      exact ⟨F0, H0, F1, σO, p, A1, k⟩
    | false =>
      rw [if_neg Bool.false_ne_true] at k ⊢
      exact ⟨F0, H0, F1, σO, p, A1, k⟩
theorem s_for {iter tg : Expr} {body : List Stmt} {ik : IK} {ies : List IE} {t : Tg} {ib : List IS} (hE : Flat E) (hp : PassesOwn (model X.prog X.w) X.A X.env X.xe) (hc : X.calm = true) (hi : PI X tg iter (tIt g S E ik ies)) (hg : PG X tg (tTg g t))
    (hb : PSs X body (tSt g E (exs S ib))) (hs : isSetE iter = false) : PS X (.For tg iter body [] pos) (tSt g E (ex S (.for_ ik ies t ib))) :=
  (ps_for hp hc hi hg hb (fun x => by cases iter <;> first | rfl | cases hs)).weak fun D σV H ⟨F0, H0, F, σO, pn, A, h⟩ => by
    rw [ex, ← M.bind_assoc] at h
    refine ⟨F0, H0, F, σO, pn, A, (h.bind.ev A.base).imp fun ds p F1 H1 s1 p1 k J hJ => ?_⟩
    have A1 := A.step s1 p1
    refine ⟨fun i m σV H => m = ds.length - i ∧ i ≤ ds.length ∧ ∃ F σO pn, Same F1 F ∧ Abs g F0 H0 σV H F σO pn ∧
      After0 g F0 H0 F (WE E σV) (forRun (fun d σ => M.bind (M.of (bindTg t d σ)) fun σ' => exs S ib σ') (ds.drop i) σO pn) (fin g F0 H0 D), ⟨_, rfl, Nat.zero_le _, F1, σO, p, Same.refl F1, A1, by rw [List.drop_zero]; exact k⟩, ?_⟩
    rintro i m σV2 H2 ⟨rfl, hi, F2, σO2, pn2, sm2, A2, k2⟩
    by_cases hlt : i < ds.length
    · right
      have hd : ds[i]? = some ds[i] := List.getElem?_eq_getElem hlt
      refine ⟨hJ.go i F2 H2 sm2 A2.fh hlt, _, fun σ' H' w' => ⟨_, Nat.sub_lt_sub_left hlt (Nat.lt_succ_self i), w'⟩, fun x H3 y => ?_⟩
      obtain ⟨F3, s3, q3, rd⟩ := hJ.yld i _ F2 H2 pn2 x H3 sm2 A2.fh A2.pen hd y
      have A3 := A2.step s3 q3
      rw [List.drop_eq_getElem_cons hlt, forRun] at k2
      rw [M.bind_assoc] at k2
      obtain ⟨σ', hb, k4⟩ := (k2.on s3.ff).bind.now A3.base q3
      refine ⟨F0, H0, F3, σO2, pn2, _, σ', A3, rd, hb, fun σV' _ A4 => ?_⟩
      refine ⟨F0, H0, F3, σ', pn2, A4, (k4.err fun c d H => hE c d _ _ H).bind.imp fun q p5 F5 H5 s5 e5 p5' k5 => ?_⟩
      obtain ⟨fl, σ5⟩ := q
      cases fl with
      | nx => exact fun σV5 A5 => ⟨rfl, hlt, F5, σ5, p5, (sm2.trans s3.ff).trans e5, A5, k5.err fun c d H => hE c d _ _ H⟩
      | ct => exact fun σV5 A5 => ⟨rfl, hlt, F5, σ5, p5, (sm2.trans s3.ff).trans e5, A5, k5.err fun c d H => hE c d _ _ H⟩
      | bk => exact fun σV5 A5 => k5.ret s5 p5' σV5 A5
      | rt d => exact k5.ret s5 p5'
    · have e : i = ds.length := Nat.le_antisymm hi (Nat.le_of_not_lt hlt)
      subst e
      left
      refine ⟨hJ.stop F2 H2 sm2 A2.fh, ?_⟩
      rw [List.drop_length, forRun] at k2
      exact k2.ret A2.base A2.pen σV2 A2
theorem s_while {c : Expr} {body : List Stmt} {ic : IE} {ib : List IS} (hE : Flat E) (hp : PassesOwn (model X.prog X.w) X.A X.env X.xe) (hc : PT X c (tEvT g S E ic)) (hb : PSs X body (tSt g E (exs S ib))) : PS X (.While c body [] pos) (tSt g E (ex S (.while_ ic ib))) :=
  (ps_while hp hc hb).weak fun D σV H ⟨F0, H0, F, σO, pn, A, h⟩ => by
    rw [ex] at h
    obtain ⟨q, hq, hr⟩ := h
    obtain ⟨n, hn⟩ := whRun_iff.mp hq
    refine ⟨fun m σV H => ∃ F σO pn, Abs g F0 H0 σV H F σO pn ∧ After0 g F0 H0 F (WE E σV) (whN (fun σ => M.bind (ev S false ic σ) asBl) (fun σ => exs S ib σ) m σO pn) (fin g F0 H0 D), ⟨n, F, σO, pn, A, q, hn, hr⟩, ?_⟩
    rintro m σV2 H2 ⟨F2, σO2, pn2, A2, k2⟩
    cases m with
    | zero =>
      obtain ⟨q, hq, _⟩ := k2
      cases hq
    | succ m =>
      rw [whN] at k2
      refine tT_of ⟨F0, H0, F2, σO2, pn2, A2, (k2.bind.ev A2.base).imp fun t p F1 H1 s1 p1 k => ?_⟩
      have A1 := A2.step s1 p1
      cases t with
      | false =>
        rw [if_neg Bool.false_ne_true] at k ⊢
        exact k.ret A1.base A1.pen σV2 A1
      | true =>
        rw [if_pos rfl] at k ⊢
        refine ⟨_, fun σ' H' w' => ⟨m, Nat.lt_succ_self m, w'⟩, F0, H0, F1, σO2, p, A1, k.bind.imp fun q p5 F5 H5 s5 e5 p5' k5 => ?_⟩
        obtain ⟨fl, σ5⟩ := q
        cases fl with
        | nx => exact fun σV5 A5 => ⟨F5, σ5, p5, A5, k5.err fun c d H => hE c d _ _ H⟩
        | ct => exact fun σV5 A5 => ⟨F5, σ5, p5, A5, k5.err fun c d H => hE c d _ _ H⟩
        | bk => exact fun σV5 A5 => k5.ret s5 p5' σV5 A5
        | rt d => exact k5.ret s5 p5'
theorem s_stuck {st : Stmt} : PS X st (tSt g E (ex S .stuck)) := ps_never.weak fun D σV H ⟨F0, H0, F, σO, pn, A, h⟩ => by
  rw [ex] at h
  obtain ⟨q, h1, _⟩ := h
  cases h1
end
end Bc
set_option Elab.async false
set_option linter.all false
set_option maxRecDepth 100000
set_option maxHeartbeats 4000000
/-! Part C13. Comprehensions as terms, two and three names at once. -/
namespace Bc
open PySem PySem.Spec L2

section
variable {X : Cx} {g : GE} {S : Sem} {E : WX} {m : Bool} {pos : Pos}
theorem s_lc {elt tg iter : Expr} {ifs : List Expr} {scope : Scope} {own : List (Str × Nat)} {ik : IK} {ies : List IE} {t : Tg} {cond : List IE} {el : IE} (hc : X.calm = true) (hN : X.N.Nodup) (hi : PI X tg iter (tIt g S E ik ies)) (ok : BlkOk X.N X.env.scope scope own) (hv : ∀ i ∈ t.is, i ∈ own.map (·.2))
    (hg : ∀ (s : Shared) (H : Hp) (C : Addr) (cl : List (Str × Addr)) (fp : List Addr), PG (X.blk s H scope (compEnvC scope cl C X.env) fp) tg (tTg g t)) (ht : ∀ (s : Shared) (H : Hp) (C : Addr) (cl : List (Str × Addr)) (fp : List Addr), PTs (X.blk s H scope (compEnvC scope cl C X.env) fp) ifs (tTc g S E0 cond))
    (he : ∀ (s : Shared) (H : Hp) (C : Addr) (cl : List (Str × Addr)) (fp : List Addr), PE (X.blk s H scope (compEnvC scope cl C X.env) fp) elt (tEv g S E0 false el)) (hs : isSetE iter = false) :
    PE X (.ListComp elt [⟨tg, iter, ifs, 0⟩] scope pos) (tEv g S E m (.lc ik ies t cond el (own.map (·.2)))) :=
  (pe_lc hc hN hi ok hg ht he (fun x => by cases iter <;> first | rfl | cases hs)).weak fun σ H Q h => lc_weak hv h
theorem s_asgLc {i : Nat} {y : Str} {py spos : Pos} {elt tg iter : Expr} {ifs : List Expr} {scope : Scope} {own : List (Str × Nat)} {ik : IK} {ies : List IE} {t : Tg} {cond : List IE} {el : IE} (hc : X.calm = true) (hN : X.N.Nodup) (hy : X.N[i]? = some y) (hyl : X.env.scope.names.lookup y = some .local)
    (hno : (scope.names.any fun (n, k) => n == y && (k == .local || k == .cell)) = false) (hline : (py.line == pos.line) = true) (hk : X.env.blockKind = .function) (hi : PI X tg iter (tIt g S E ik ies)) (ok : BlkOk X.N X.env.scope scope own) (hv : ∀ i ∈ t.is, i ∈ own.map (·.2))
    (hg : ∀ (s : Shared) (H : Hp) (C : Addr) (cl : List (Str × Addr)) (fp : List Addr), PG (X.blk s H scope (compEnvC scope cl C X.env) fp) tg (tTg g t)) (ht : ∀ (s : Shared) (H : Hp) (C : Addr) (cl : List (Str × Addr)) (fp : List Addr), PTs (X.blk s H scope (compEnvC scope cl C X.env) fp) ifs (tTc g S E0 cond))
    (he : ∀ (s : Shared) (H : Hp) (C : Addr) (cl : List (Str × Addr)) (fp : List Addr), PE (X.blk s H scope (compEnvC scope cl C X.env) fp) elt (tEv g S E0 false el)) (hs : isSetE iter = false) :
    PS X (.Assign [.Name y py] (.ListComp elt [⟨tg, iter, ifs, 0⟩] scope pos) spos) (tSt g E (ex S (.asg i (.lc ik ies t cond el (own.map (·.2)))))) :=
  (ps_setLc hc hN hy hyl (by
    have h1 : (X.env.kindOf y == some .local) = true := by
      unfold Env.kindOf
      rw [hyl]
      rfl
    show (pure (X.env.blockKind == .function && X.env.kindOf y == some .local && py.line == pos.line && !(scope.names.any fun (n, k) => n == y && (k == .local || k == .cell))) : PySem.Sem Bool) = pure true
    rw [hk, h1, hline, hno]
    rfl) hi ok hg ht he (fun x => by cases iter <;> first | rfl | cases hs)).weak fun D σV H h => lc_weak (m := false) hv (asg_weak h)
theorem s_par2 {i j : Nat} {x y : Str} {a b : Expr} {ies : List IE} {px py pt : Pos} {kt k2 pt2} (hc : X.calm = true) (hN : X.N.Nodup) (hi : X.N[i]? = some x) (hj : X.N[j]? = some y) (hij : i ≠ j)
    (hx : X.env.scope.names.lookup x = some .local) (hy : X.env.scope.names.lookup y = some .local) (ha : PA X [a, b] (tEvf g S E ies))
    (hw : swappedStores [.Tuple [.Name x px, .Name y py] kt pt] (.Tuple [a, b] k2 pt2) X.env = pure (some [x, y])) :
    PS X (.Assign [.Tuple [.Name x px, .Name y py] kt pt] (.Tuple [a, b] k2 pt2) pos) (tSt g E (ex S (.par [i, j] ies))) :=
  (ps_par hc hN hi hj hij hx hy ha hw).weak fun D σV H h => by
    obtain ⟨F0, H0, F, σO, pn, A, h⟩ := par_weak h
    refine ⟨F0, H0, F, σO, pn, A, h.imp fun os p F' H' s q k vs fp n => ?_⟩
    obtain ⟨hl, hn⟩ := k vs fp n
    match vs, hl with
    | [v, w], _ => exact ⟨v, w, rfl, hn⟩
theorem s_par3 {i j l : Nat} {x y z : Str} {a b c : Expr} {ies : List IE} {px py pz pt : Pos} {kt k2 pt2} (hc : X.calm = true) (hN : X.N.Nodup) (hi : X.N[i]? = some x) (hj : X.N[j]? = some y) (hl : X.N[l]? = some z) (hij : i ≠ j) (hil : i ≠ l) (hjl : j ≠ l)
    (hx : X.env.scope.names.lookup x = some .local) (hy : X.env.scope.names.lookup y = some .local) (hz : X.env.scope.names.lookup z = some .local) (ha : PA X [a, b, c] (tEvf g S E ies))
    (hw : swappedStores [.Tuple [.Name x px, .Name y py, .Name z pz] kt pt] (.Tuple [a, b, c] k2 pt2) X.env = pure (some [x, y, z])) :
    PS X (.Assign [.Tuple [.Name x px, .Name y py, .Name z pz] kt pt] (.Tuple [a, b, c] k2 pt2) pos) (tSt g E (ex S (.par [i, j, l] ies))) :=
  (ps_par3 hc hN hi hj hl hij hil hjl hx hy hz ha hw).weak fun D σV H h => by
    obtain ⟨F0, H0, F, σO, pn, A, h⟩ := par_weak h
    refine ⟨F0, H0, F, σO, pn, A, h.imp fun os p F' H' s q k vs fp n => ?_⟩
    obtain ⟨hl, hn⟩ := k vs fp n
    match vs, hl with
    | [v, w, u], _ => exact ⟨v, w, u, rfl, hn⟩
/-! ### when names are stored from the right -/
def isStarB : Expr → Bool
  | .Starred .. => true
  | _ => false
def swNames (sc : Scope) (ts : List Expr) : List Str := ts.filterMap fun
    | .Name id pos => if sc.names.lookup id == some .local && pos.line == (ts.head?.map (·.pos.line)).getD 0 then some id else none
    | _ => none
def swB (sc : Scope) (ts vs : List Expr) : Bool := (ts.length == 2 || ts.length == 3) && vs.length == ts.length && sc.kind == .function && !(vs.any isStarB) && (swNames sc ts).length == ts.length && (swNames sc ts).eraseDups.length == (swNames sc ts).length &&
  !(vs.all (foldedForSure 8)) && !(vs.all (constantsAlone 8))
theorem sw_some {ts vs : List Expr} {k pt k2 pt2} (h : swB X.env.scope ts vs = true) : swappedStores [.Tuple ts k pt] (.Tuple vs k2 pt2) X.env = pure (some (swNames X.env.scope ts)) := by
  unfold swB at h
  simp only [Bool.and_eq_true, Bool.not_eq_true', beq_iff_eq] at h
  obtain ⟨⟨⟨⟨⟨⟨⟨h1, h2⟩, h3⟩, h4⟩, h5⟩, h6⟩, h7⟩, h8⟩ := h
  have hk : X.env.blockKind = .function := by
    unfold Env.blockKind
    rw [h3]
    rfl
  have e1 : (!(ts.length == 2 || ts.length == 3) || vs.length != ts.length || X.env.blockKind != .function) = false := by
    rw [h1, hk, h2]
    simp
  unfold swappedStores
  simp only [pure_bind]
  refine (if_neg (fun z => ?_)).trans ((if_neg (fun z => ?_)).trans ((if_neg (fun z => ?_)).trans ((if_neg (fun z => ?_)).trans ((if_neg (fun z => ?_)).trans rfl))))
  · rw [e1] at z
    cases z
  · have z' : vs.any isStarB = true := z
    rw [h4] at z'
    cases z'
  · have z' : ((swNames X.env.scope ts).length != ts.length || (swNames X.env.scope ts).eraseDups.length != (swNames X.env.scope ts).length) = true := z
    rw [h6, h5] at z'
    simp at z'
  · rw [h7] at z
    cases z
  · rw [h8] at z
    cases z
def tupFoldB : Expr → Bool
  | .Tuple vs _ _ => vs.all (foldedForSure 8)
  | _ => false
theorem ite_to {α : Type} {c : Prop} [Decidable c] {a b x : α} (h1 : c → a = x) (h2 : ¬ c → b = x) : (if c then a else b) = x := by
  by_cases h : c
  · rw [if_pos h, h1 h]
  · rw [if_neg h, h2 h]
theorem sw_fold {ts vs : List Expr} {k pt k2 pt2} (h : vs.all (foldedForSure 8) = true) : swappedStores [.Tuple ts k pt] (.Tuple vs k2 pt2) X.env = pure none := by
  unfold swappedStores
  simp only [pure_bind]
  exact ite_to (fun _ => rfl) fun _ => ite_to (fun _ => rfl) fun _ => ite_to (fun _ => rfl) fun _ => if_pos h
theorem sw_short {ts vs : List Expr} {k pt k2 pt2} (h : ((swNames X.env.scope ts).length != ts.length) = true) : swappedStores [.Tuple ts k pt] (.Tuple vs k2 pt2) X.env = pure none := by
  unfold swappedStores
  simp only [pure_bind]
  refine ite_to (fun _ => rfl) fun _ => ite_to (fun _ => rfl) fun _ => if_pos ?_
  show ((swNames X.env.scope ts).length != ts.length || (swNames X.env.scope ts).eraseDups.length != (swNames X.env.scope ts).length) = true
  rw [h]
  rfl
/-- names at once, from the left -/
def tNs (is : List Nat) : TGs := fun vs σV H Q => is.length = vs.length ∧ Q ((is.zip vs).foldl (fun σ q => σ.set q.1 (some q.2)) σV) H
theorem gs_nms {es : List Expr} {is : List Nat} (h : NmsAt X es is) : PGs X es (tNs is) := by
  induction h with
  | nil =>
    exact pgs_nil.weak fun vs σV H Q ⟨h1, h2⟩ => (by
      cases vs with
      | nil => exact ⟨rfl, h2⟩
      | cons _ _ => cases h1)
  | cons h r ih =>
    obtain ⟨x, p, rfl, hp⟩ := h
    exact (pgs_cons hp ih rfl).weak fun vs σV H Q ⟨h1, h2⟩ => (by
      cases vs with
      | nil => cases h1
      | cons v vs => exact ⟨v, vs, rfl, by simpa using h1, h2⟩)
theorem ps_parN {es vs : List Expr} {is : List Nat} {ta : TA} {pt : Pos} {kt k2 pt2} (hc : X.calm = true) (h : NmsAt X es is) (hl : is.length ≤ 3) (ha : PA X vs ta)
    (hw : swappedStores [.Tuple es kt pt] (.Tuple vs k2 pt2) X.env = pure none)
    (hs : swapsWithSole [.Tuple es kt pt] (.Tuple vs k2 pt2) pos.line X.env = pure false := by rfl) :
    PS X (.Assign [.Tuple es kt pt] (.Tuple vs k2 pt2) pos) (fun D σ H => ta σ H fun us H1 => is.length = us.length ∧ D.nx ((is.zip us).foldl (fun σ q => σ.set q.1 (some q.2)) σ) H1) := by
  refine ⟨fun pins s σ H D I hh => ?_⟩
  refine wpAny_Assign_stores ?_ hs hw
  refine PyProof.Rows.Tuple_ (thn (ha.run _ pins s σ H _ I hh) fun us s1 ⟨ws, H1, I1, r1, q0, q1⟩ => ?_)
  have hu : us.length = is.length := by rw [q0, r1.length]
  refine wpAny_newObj_type ?_ (by show us.toArray.size ≤ sizeLine; rw [List.size_toArray, hu]; exact Nat.le_trans hl (by decide))
  have I2 : Inv X pins σ H1 { s1 with heap := s1.heap.push { cls := .type "tuple", data := .seq us.toArray } } := I1.kept (t' := s1.toks) fun b o e => Heap.get?_push_of_some _ e
  show wpAny (model X.prog X.w) X.A (assign (.Tuple es kt pt) X.env (.ref s1.heap.objs.size)) _ _ _
  refine PyProof.Rows.assign_Tuple_tuple (I.ok.hd hc) (PyProof.Rows.IsTup.new s1.heap _) (by rw [h.each.1, h.len, List.size_toArray, hu]) h.each.2 fun h' hx => ?_
  have I3 := I2.kept (h' := h') (t' := s1.toks) fun b o e => hx b o (Nat.ne_of_lt (Heap.lt_size e)) e
  exact (gs_nms h).run pins _ σ H1 ws _ _ I3 (by simpa using r1) ⟨q0, q1⟩
theorem s_parN {es vs : List Expr} {is : List Nat} {ies : List IE} {pt : Pos} {kt k2 pt2} (hc : X.calm = true) (h : NmsAt X es is) (hl : is.length ≤ 3) (ha : PA X vs (tEvf g S E ies))
    (hw : swappedStores [.Tuple es kt pt] (.Tuple vs k2 pt2) X.env = pure none) :
    PS X (.Assign [.Tuple es kt pt] (.Tuple vs k2 pt2) pos) (tSt g E (ex S (.par is ies))) :=
  (ps_parN hc h hl ha hw).weak fun D σV H h => par_weak h
def notTupE : Expr → Bool
  | .Tuple .. => false
  | _ => true
theorem sw_none {ts : List Expr} {e : Expr} {k pt} (h : notTupE e = true) : swappedStores [.Tuple ts k pt] e X.env = pure none := by
  cases e <;> first | rfl | cases h
theorem sw_none4 {ts vs : List Expr} {k pt k2 pt2} (h : (ts.length == 2 || ts.length == 3) = false) : swappedStores [.Tuple ts k pt] (.Tuple vs k2 pt2) X.env = pure none := by
  unfold swappedStores
  simp only [pure_bind]
  rw [h]
  rfl
end
end Bc
set_option Elab.async false
set_option linter.all false
set_option maxRecDepth 100000
set_option maxHeartbeats 4000000
/-! Part C14. The pen's dict. -/
namespace Bc
open PySem PySem.Spec L2

def penKey : Nat → Str
  | 0 => "cells"
  | 1 => "at"
  | _ => "left"
theorem pk01 : (Sum.inr ("cells" : Str) : Key) ≠ Sum.inr ("at" : Str) := by decide +kernel
theorem pk02 : (Sum.inr ("cells" : Str) : Key) ≠ Sum.inr ("left" : Str) := by decide +kernel
theorem pk12 : (Sum.inr ("at" : Str) : Key) ≠ Sum.inr ("left" : Str) := by decide +kernel
section
variable {X : Cx} {g : GE} {S : Sem} {E : WX} {m : Bool} {ea : Expr} {ia : IE} {pos : Pos}
theorem isPen_at {x : O} {u : Unit} (h : isPen x = some u) : x = .fz .pen := by
  unfold isPen at h
  split at h
  · rfl
  · cases h
theorem penGet_ret {f : Nat} {p : Pen} {q : Except Exc O × Pen} (h : penGet f p = some q) : (f = 0 ∧ q = (.ok (.fz (.lst (p.cells.map .int))), p)) ∨ (f = 1 ∧ q = (.ok (.fz (.int (p.at_ : Nat))), p)) ∨ (f = 2 ∧ q = (.ok (.fz (.int (p.left : Nat))), p)) := by
  unfold penGet at h
  split at h
  · exact .inl ⟨rfl, (Option.some.inj h).symm⟩
  · exact .inr (.inl ⟨rfl, (Option.some.inj h).symm⟩)
  · exact .inr (.inr ⟨rfl, (Option.some.inj h).symm⟩)
  · cases h
theorem s_pget {f j : Nat} {p2 : Pos} (hu : X.A.units + 1 < cLine) (ha : PE X ea (tEv g S E true ia)) : PE X (.Subscript ea (.Constant (.str (penKey f)) j p2) pos) (tEv g S E m (.pget ia f)) :=
  (pe_ix (ix_any hu) ha (pe_str (x := penKey f) (j := j) (pos := p2)) (fun _ _ => rfl)).weak fun σ H Q ⟨F0, H0, F, σO, pn, A, h⟩ => by
    rw [ev] at h
    refine ⟨F0, H0, F, σO, pn, A, h.bind.imp fun x p F1 H1 s1 p1 k v fp n => ?_⟩
    obtain ⟨u, hx, k2⟩ := k.bind.now s1.fh p1
    obtain rfl := isPen_at hx
    have r := n.rep
    cases r
    obtain ⟨_, ca, c1, c2⟩ := id p1
    obtain ⟨q, hq, hr⟩ := k2
    rcases penGet_ret hq with ⟨rfl, rfl⟩ | ⟨rfl, rfl⟩ | ⟨rfl, rfl⟩
    · have fin := hr F1 H1 (Stp.refl s1.fh) p1 (.ref ca) [] (Got.fz (.lst c2 (reps_ints _)))
      refine .inr ⟨g.pa, .ref ca, rfl, ?_, fin⟩
      have := DGet.k (k := Sum.inr "cells") c1
      exact this
    · have fin := hr F1 H1 (Stp.refl s1.fh) p1 (.int p.at_) [] (Got.fz (.int _))
      refine .inr ⟨g.pa, .int p.at_, rfl, ?_, fin⟩
      have := DGet.k (k := Sum.inr "at") c1
      exact this
    · have fin := hr F1 H1 (Stp.refl s1.fh) p1 (.int p.left) [] (Got.fz (.int _))
      refine .inr ⟨g.pa, .int p.left, rfl, ?_, fin⟩
      have := DGet.k (k := Sum.inr "left") c1
      exact this
theorem penSet_ret {f : Nat} {d : D} {p : Pen} {q : Except Exc Unit × Pen} (h : penSet f d p = some q) : ∃ i : Int, d = .int i ∧ 0 ≤ i ∧ ((f = 1 ∧ q = (.ok (), { p with at_ := i.toNat })) ∨ (f = 2 ∧ q = (.ok (), { p with left := i.toNat }))) := by
  unfold penSet at h
  split at h
  · obtain ⟨h1, h2⟩ := some_if h
    exact ⟨_, rfl, h1, .inl ⟨rfl, h2⟩⟩
  · obtain ⟨h1, h2⟩ := some_if h
    exact ⟨_, rfl, h1, .inr ⟨rfl, h2⟩⟩
  · cases h
theorem s_pset {i f j : Nat} {x : Str} {p sp p2 : Pos} {e : Expr} {ie : IE} (hu : X.A.units + 1 < cLine) (hv : PE X (.Name x p) (tVar i)) (he : PE X e (tEv g S E false ie)) (hc : isCompE e = false) :
    PS X (.Assign [.Subscript (.Name x p) (.Constant (.str (penKey f)) j p2) sp] e pos) (tSt g E (ex S (.pset i f ie))) :=
  (ps_dput hu hv (pe_str (x := penKey f) (j := j) (pos := p2)) he (swap_none hc)).weak fun D σV H ⟨F0, H0, F, σO, pn, A, h⟩ => by
    rw [ex] at h
    refine ⟨F0, H0, F, σO, pn, A, (h.bind.ev A.base).all fun o p k F1 H1 s1 p1 w fp n => ?_⟩
    obtain ⟨F', s1', p1', r1, sm⟩ := n.frz s1 p1
    have A1 := A.step s1' p1'
    obtain ⟨q, hq, k2⟩ := (k F' H1 s1' p1').bind.now A1.base p1'
    obtain ⟨u, hx, k3⟩ := k2.bind.now A1.base p1'
    obtain rfl := isPen_at hx
    obtain ⟨v, f2, k4, k5, _⟩ := A1.get (slot_some hq)
    have hv : v = .ref g.pa := by
      cases k5 with
      | fz r =>
        cases r
        rfl
    subst hv
    refine ⟨_, k4, g.pa, ?_⟩
    obtain ⟨q, hq2, hr⟩ := k3.bind
    obtain ⟨i', hd, h0, hcase⟩ := penSet_ret hq2
    rw [hd] at r1
    cases r1
    obtain ⟨hp, ca, c1, c2⟩ := id p1'
    have hi : V.int i' = V.int ((i'.toNat : Nat) : Int) := by rw [Int.toNat_of_nonneg h0]
    -- behind the store
    have step : ∀ (u : HO) (pn' : Pen), (∃ l', u = .dK l' ∧ l'.head? = some (Sum.inr ("cells" : Str), V.ref ca)) → PenAt g F' (upd H1 g.pa u) pn' → Stp g F0 H0 F' (upd H1 g.pa u) ∧ Abs g F0 H0 σV (upd H1 g.pa u) F' σO pn' := fun u pn' hu hpn => by
      have st : Stp g F' H1 F' (upd H1 g.pa u) := ⟨Same.refl _, fun a w h => by
        have : a ≠ g.pa := fun e => by
          rw [e, hp] at h
          cases h
        rw [upd_ne this]
        exact A1.fh a w h, fun a w h => .inl ⟨w, h⟩, fun a w ne h => by rw [upd_ne ne]; exact h, fun l hl => by
          obtain ⟨l', rfl, e2⟩ := hu
          rw [c1] at hl
          cases hl
          exact ⟨l', upd_same, e2⟩⟩
      have A2 := A1.step st hpn
      exact ⟨A2.base, A2⟩
    rcases hcase with ⟨rfl, rfl⟩ | ⟨rfl, rfl⟩
    · have hpn : PenAt g F' (upd H1 g.pa (.dK (L2.putK [(Sum.inr "cells", V.ref ca), (Sum.inr "at", .int p.at_), (Sum.inr "left", .int p.left)] (Sum.inr "at") (.int i')))) { p with at_ := i'.toNat } := by
        refine ⟨hp, ca, ?_, c2⟩
        rw [upd_same, hi]
        rfl
      obtain ⟨b2, A2⟩ := step _ _ ⟨_, rfl, rfl⟩ hpn
      refine ⟨_, rfl, (DPut.k (k := Sum.inr ("at" : Str)) (v := .int i') c1 (by show 3 < sizeLine; decide) : DPut H1 g.pa (V.str (penKey 1)) (.int i') _), ?_⟩
      have k6 := hr F' _ b2 hpn (Same.refl F')
      exact k6.ret b2 hpn σV A2
    · have hpn : PenAt g F' (upd H1 g.pa (.dK (L2.putK [(Sum.inr "cells", V.ref ca), (Sum.inr "at", .int p.at_), (Sum.inr "left", .int p.left)] (Sum.inr "left") (.int i')))) { p with left := i'.toNat } := by
        refine ⟨hp, ca, ?_, c2⟩
        rw [upd_same, hi]
        rfl
      obtain ⟨b2, A2⟩ := step _ _ ⟨_, rfl, rfl⟩ hpn
      refine ⟨_, rfl, (DPut.k (k := Sum.inr ("left" : Str)) (v := .int i') c1 (by show 3 < sizeLine; decide) : DPut H1 g.pa (V.str (penKey 2)) (.int i') _), ?_⟩
      have k6 := hr F' _ b2 hpn (Same.refl F')
      exact k6.ret b2 hpn σV A2
end
end Bc
set_option Elab.async false
set_option linter.all false
set_option maxRecDepth 100000
set_option maxHeartbeats 4000000
/-! Part C15. == and len of own objects, append to a list within a list. -/
namespace Bc
open PySem PySem.Spec L2

theorem tkE0 {X : Cx} : Takes X E0 := fun u s' ⟨a, B, sI, pins, σ, H, cls, d, e, I, nb, up, sky, na, os, ag, w⟩ => w.elim
section
variable {X : Cx} {g : GE} {S : Sem} {E : WX} {m : Bool} {ea eb : Expr} {ia ib : IE} {pos : Pos} {k : Nat}
/-- no class of these is asked first -/
def EqF (K : PySem.W.Frag) (g : GE) (cl : Nat → Bool) : Prop :=
  ∀ c, cl c = true → PySem.W.notFirst K (g.cls c) (.type "tuple") = true ∧ PySem.W.notFirst K (g.cls c) (.type "str") = true ∧ ∀ c', cl c' = true → PySem.W.notFirst K (g.cls c) (.ref (g.cls c')) = true
def rOeq (g : GE) (S : Sem) : R2 := fun v1 v2 H Q => ∃ (F : Hp) (pn : Pen) (c f : Nat) (ds : List D) (d : D) (vs : List V) (a dx : Addr), v1 = .ref a ∧ F a = some (.ins (g.cls c) dx ((clsNames c).zip vs)) ∧ Reps g F ds vs ∧
  S.mt c mEq = some f ∧ Rep g F d v2 ∧ S.cl c = true ∧ eqSide S.cl d = true ∧ Same F H ∧ PenAt g F H pn ∧ ∀ E' : XK, After g F H E' (S.fn f [.obj c ds, d] pn) fun r _ _ H' => ∃ b, r = .bl b ∧ Q (.bl b) H'
theorem side_looks {pins : List (Addr × Obj)} {σ : St} {H F : Hp} {s : Shared} {d : D} {y : V} {u : Value} (I : Inv X pins σ H s) (hK : X.K = g.K) (sm : Same F H) (rd : Rep g F d y) (ru : RelV y u) (hd : eqSide S.cl d = true) :
    ∃ tb, PySem.W.Looks (model X.prog X.w) s.heap (typeOf u) tb ∧ (tb = .type "tuple" ∨ tb = .type "str" ∨ ∃ c, S.cl c = true ∧ tb = .ref (g.cls c)) := by
  cases d with
  | tup ds =>
    cases rd with
    | tup ha _ =>
      obtain rfl : u = Value.ref _ := ru
      obtain ⟨its, _, ⟨o, ho, hc, _⟩, _⟩ := I.tuple (SqT.of (sm _ _ ha))
      refine ⟨_, (PySem.W.Looks.ld ho).andThen .now, .inl hc⟩
  | str t =>
    cases rd
    obtain ⟨k', rfl⟩ := ru
    exact ⟨_, .of_pure rfl, .inr (.inl rfl)⟩
  | obj c ds =>
    cases rd with
    | obj ha _ =>
      obtain rfl : u = Value.ref _ := ru
      obtain ⟨mA, O, _⟩ := ins_get I.hok (sm _ _ ha)
      obtain ⟨od, J, _⟩ := O.look
      exact ⟨_, J.type, .inr (.inr ⟨c, hd, rfl⟩)⟩
  | _ => cases hd
theorem or_oeq (hK : X.K = g.K) (hm : ∀ c f, S.mt c mEq = some f → MtAt X g k c "__eq__" (S.fn f)) (hq : EqF X.K g S.cl) (hr : Room k X.A) (hu : X.A.units < cLine) : OpR X (compareOp .Eq) (rOeq g S) := by
  intro pins s σ H x y v u Q I rx ry h
  obtain ⟨F, pn, c, f, ds, d, vs, a, dx, rfl, ha, rs, hmt, rd, hc0, hd, sm, pa, k⟩ := h
  obtain rfl : v = Value.ref a := rx
  obtain ⟨b, hme, hcl, _, hc⟩ := (hm c f hmt).ex
  obtain ⟨mm, fr⟩ := I.fr
  obtain ⟨mA, O, _⟩ := ins_get I.hok (sm _ _ ha)
  obtain ⟨od, J, _⟩ := O.look
  obtain ⟨tb, lk, ht⟩ := side_looks (S := S) I hK sm rd ry hd
  have nf : PySem.W.notFirst X.K (g.cls c) tb = true := by
    obtain ⟨q1, q2, q3⟩ := hq c hc0
    rcases ht with rfl | rfl | ⟨c', h', rfl⟩
    · exact q1
    · exact q2
    · exact q3 c' h'
  show wpAny (model X.prog X.w) X.A (richCompare .Eq (.ref a) u) _ _ _
  refine PySem.W.cmp_K hu fr I.ok.mod.kin J lk nf hme.at_ hme.fn ?_
  have go := hc (.ref a) X rfl rfl rfl rfl rfl hr E0 tkE0 pins s σ H (fun v H => ∃ b, v = .bl b ∧ Q (.bl b) H) [.ref a, u] [y] I (.cons rfl (.cons ry .nil))
    ⟨F, pn, [.obj c ds, d], sm, pa, .cons (.obj ha rs) (.cons rd .nil), (k _).imp fun r p F' H' s p' ⟨b, e, q⟩ v hv => by
      subst e
      cases hv
      exact ⟨b, rfl, q⟩⟩
  exact wpAny_mono go (fun v s' ⟨x, H', I', rv, b, e, q⟩ => by
    subst e
    obtain rfl : v = Value.bool b := rv
    exact ⟨V.bl b, H', I', rfl, q⟩) fun _ _ e => e
theorem oeq_in {σ : St} {H : Hp} {Q : VK} (h : tEv g S E m (.oeq ia ib) σ H Q) : tOp (rOeq g S) (tEv g S E true ia) (tEv g S E true ib) σ H Q := by
  simp only [tEv, ev] at h
  refine s_bin2 (f := fun x y => oeqM S x y) (fun x y p F H1 Hs v1 v2 f1 f2 e pe n1 n2 k => ?_) h
  unfold oeqM at k
  obtain ⟨q, h1, k1⟩ := k.bind.now e pe
  obtain ⟨d, h2, k2⟩ := k1.bind.now e pe
  obtain ⟨f, h3, k3⟩ := k2.bind.now e pe
  obtain ⟨_, h4, k4⟩ := k3.bind.now e pe
  obtain rfl := obj?_at h1
  have rd : Rep g F d v2 := by
    cases y with
    | fz d' =>
      cases h2
      exact n2.rep
    | _ => cases h2
  cases n1.rep with
  | obj hq r =>
    refine ⟨F, p, q.1, f, q.2, d, _, _, _, rfl, hq, r, h3, rd, ?_, ?_, e, pe, fun E' => (k4.safe0 (E' := E')).imp fun r p' F' H' s' p'' k5 => ?_⟩
    · split at h4
      · rename_i h9
        exact (Bool.and_eq_true _ _ ▸ h9).1
      · cases h4
    · split at h4
      · rename_i h9
        exact (Bool.and_eq_true _ _ ▸ h9).2
      · cases h4
    · have k6 := k5.on s'
      obtain ⟨b, hb, k7⟩ := k6.bind.now s'.fh p''
      refine ⟨b, ?_, k7.ret s'.fh p'' _ [] (Got.fz (.bl b))⟩
      unfold isBl? at hb
      split at hb
      · cases hb
        rfl
      · cases hb
theorem s_oeq (hK : X.K = g.K) (hmt : ∀ c f, S.mt c mEq = some f → MtAt X g k c "__eq__" (S.fn f)) (hq : EqF X.K g S.cl) (hr : Room k X.A) (hu : X.A.units < cLine)
    (ha : PE X ea (tEv g S E true ia)) (hb : PE X eb (tEv g S E true ib)) (hm : behindInMarks .Eq eb = false) : PE X (.Compare ea [.Eq] [eb] pos) (tEv g S E m (.oeq ia ib)) :=
  (pe_cmpR (or_oeq hK hmt hq hr hu) ha hb hm).weak fun σ H Q h => oeq_in h
theorem t_oeq (hK : X.K = g.K) (hmt : ∀ c f, S.mt c mEq = some f → MtAt X g k c "__eq__" (S.fn f)) (hq : EqF X.K g S.cl) (hr : Room k X.A) (hu : X.A.units < cLine)
    (ha : PE X ea (tEv g S E true ia)) (hb : PE X eb (tEv g S E true ib)) (hm : behindInMarks .Eq eb = false) : PT X (.Compare ea [.Eq] [eb] pos) (tEvT g S E (.oeq ia ib)) :=
  (pt_cmpR (or_oeq hK hmt hq hr hu) ha hb hm).weak fun σ H Q h => by
    have h2 := oeq_in (m := false) h
    exact h2
/-! ### isinstance of own classes -/
structure TyK (K : PySem.W.Frag) (C : Addr) : Prop where
  ha : PySem.W.findIn K (.ref C) "__class__" = some (some (.builtin "object.__class__"))
  hn : PySem.W.specialIn K (.builtin "object.__class__") "__get__" = some (some (.builtin "getset_descriptor.__get__"))
  htk : PySem.W.takesIn K (.builtin "object.__class__") = some true
  hm : PySem.W.mroIn K C (.type "object") = some true
/-- a class that isinstance is asked about -/
structure IsaB (K : PySem.W.Frag) (C : Addr) : Prop where
  tup : PySem.W.kitOne K (.type "tuple") (.ref C) = some false
  lst : PySem.W.kitOne K (.type "list") (.ref C) = some false
  str : PySem.W.kitOne K (.type "str") (.ref C) = some false
  int : PySem.W.kitOne K (.type "int") (.ref C) = some false
  bl : PySem.W.kitOne K (.type "bool") (.ref C) = some false
  non : PySem.W.kitOne K (.type "NoneType") (.ref C) = some false
structure IsaF (K : PySem.W.Frag) (mg : Str → Option Value) (g : GE) (cl : Nat → Bool) (c : Nat) (nm : Str) : Prop where
  mg_ : mg nm = some (.ref (g.cls c))
  base : IsaB K (g.cls c)
  own : ∀ c', cl c' = true → PySem.W.kitOne K (.ref (g.cls c')) (.ref (g.cls c)) = some (decide (c' = c)) ∧ TyK K (g.cls c') ∧ Cls K (g.cls c')
theorem s_isa {c : Nat} {nm : Str} {p p2 : Pos} (i : IsaF X.K X.mg g S.cl c nm) (hg : Gl X "isinstance") (hm : X.mg "isinstance" = none) (hg2 : Gl X nm) (hd : (nm == ("__debug__" : Str)) = false) (hs : isStarE ea = false) (he : PE X ea (tEv g S E true ia)) :
    PE X (.Call (.Name "isinstance" p) [ea, .Name nm p2] [] pos) (tEv g S E m (.isa ia c)) :=
  (pe_callB L2.call_isi hg hm PyProof.Rows.Boot.«isinstance» (pa_cons he (pa_cons (pe_glob (v := .ref (g.cls c)) hg2 i.mg_ rfl hd) pa_nil) (star_eq hs)) (by decide +kernel) (by decide +kernel) (star_eq hs) rfl).weak fun σ H Q ⟨F0, H0, F, σO, pn, A, h⟩ => by
    rw [ev] at h
    refine ⟨F0, H0, F, σO, pn, A, h.bind.imp fun o p F1 H1 s1 p1 k1 v f n => ?_⟩
    obtain ⟨d, h1, k2⟩ := k1.bind.now s1.fh p1
    obtain ⟨b, h2, k3⟩ := k2.bind.now s1.fh p1
    have k4 := k3.ret s1.fh p1
    obtain rfl := isFz_at h1
    have r := n.rep
    cases d with
    | obj c' ds =>
      unfold isaD at h2
      obtain ⟨hc, rfl⟩ := some_if h2
      obtain ⟨q1, q2, q3⟩ := i.own c' hc
      cases r with
      | obj hq _ => exact ⟨_, _, _, _, _, rfl, .own _, .base (.ins (s1.fh _ _ hq) q3 q2.ha q2.hn q2.htk q2.hm), q1, k4 _ [] (Got.fz (.bl _))⟩
    | tup ds =>
      cases h2
      cases r with
      | tup hq _ => exact ⟨_, _, _, _, _, rfl, .own _, .base (.tup (s1.fh _ _ hq)), i.base.tup, k4 _ [] (Got.fz (.bl _))⟩
    | lst ds =>
      cases h2
      cases r with
      | lst hq _ => exact ⟨_, _, _, _, _, rfl, .own _, .base (.lst (s1.fh _ _ hq)), i.base.lst, k4 _ [] (Got.fz (.bl _))⟩
    | str t =>
      cases h2
      cases r
      exact ⟨_, _, _, _, _, rfl, .own _, .base (.str _), i.base.str, k4 _ [] (Got.fz (.bl _))⟩
    | int t =>
      cases h2
      cases r
      exact ⟨_, _, _, _, _, rfl, .own _, .base (.int _), i.base.int, k4 _ [] (Got.fz (.bl _))⟩
    | bl t =>
      cases h2
      cases r
      exact ⟨_, _, _, _, _, rfl, .own _, .base (.bl _), i.base.bl, k4 _ [] (Got.fz (.bl _))⟩
    | non =>
      cases h2
      cases r
      exact ⟨_, _, _, _, _, rfl, .own _, .base .non, i.base.non, k4 _ [] (Got.fz (.bl _))⟩
    | _ => cases h2
/-! ### len -/
theorem inv_in1 {pins : List (Addr × Obj)} {σ : St} {H : Hp} {s : Shared} (I : Inv X pins σ H s) : Inv { X with A := X.A.in1 } pins σ H s :=
  { I with ok := { I.ok with hd := I.ok.hd, frames := I.ok.frames } }
theorem inv_of1 {pins : List (Addr × Obj)} {σ : St} {H : Hp} {s : Shared} (I : Inv { X with A := X.A.in1 } pins σ H s) : Inv X pins σ H s :=
  { I with ok := { I.ok with hd := I.ok.hd, frames := I.ok.frames } }
def rOlen (g : GE) (S : Sem) : List V → Hp → VK → Prop := fun us H Q => ∃ (F : Hp) (pn : Pen) (c f : Nat) (ds : List D) (vs : List V) (a dx : Addr), us = [.ref a] ∧ F a = some (.ins (g.cls c) dx ((clsNames c).zip vs)) ∧ Reps g F ds vs ∧
  S.mt c mLen = some f ∧ Same F H ∧ PenAt g F H pn ∧ ∀ E' : XK, After g F H E' (S.fn f [.obj c ds] pn) fun r _ _ H' => ∃ n : Int, r = .int n ∧ 0 ≤ n ∧ n < 2 ^ 62 ∧ Q (.int n) H'
theorem cr_olen (hmt : ∀ c f, S.mt c mLen = some f → MtAt X g k c "__len__" (S.fn f)) (hr : Room (k + 1) X.A) : CallR X (.builtin "len") (rOlen g S) := by
  intro pins s σ H xs us Q I rx h
  obtain ⟨F, pn, c, f, ds, vs, a, dx, rfl, ha, rs, hm, sm, pa, k⟩ := h
  obtain rfl : us = [Value.ref a] := by
    cases rx with
    | cons r1 r2 =>
      cases r2
      rw [show _ = Value.ref a from r1]
  obtain ⟨b, hme, hcl, _, hc⟩ := (hmt c f hm).ex
  obtain ⟨mm, fr⟩ := I.fr
  obtain ⟨mA, O, _⟩ := ins_get I.hok (sm _ _ ha)
  obtain ⟨od, J, _⟩ := O.look
  refine PySem.W.len_K fr I.ok.mod.kin J hme.at_ hme.fn ?_
  have go := hc (.ref a) { X with A := X.A.in1 } rfl rfl rfl rfl rfl hr.in1 E0 tkE0 pins s σ H (fun v H => ∃ n : Int, v = .int n ∧ 0 ≤ n ∧ n < 2 ^ 62 ∧ Q (.int n) H) [.ref a] [] (inv_in1 I) (.cons rfl .nil)
    ⟨F, pn, [.obj c ds], sm, pa, .cons (.obj ha rs) .nil, (k _).imp fun r p F' H' s p' ⟨b, e, q1, q2, q⟩ v hv => by
      subst e
      cases hv
      exact ⟨b, rfl, q1, q2, q⟩⟩
  exact wpAny_mono go (fun v s' ⟨x, H', I', rv, n, e, q1, q2, q⟩ => by
    subst e
    obtain ⟨t, rfl⟩ := rv
    exact ⟨⟨q1, by omega⟩, V.int n, H', (inv_of1 I').tok _, ⟨_, rfl⟩, q⟩) fun _ _ e => e
theorem s_olen {p : Pos} (hmt : ∀ c f, S.mt c mLen = some f → MtAt X g k c "__len__" (S.fn f)) (hr : Room (k + 1) X.A) (hg : Gl X "len") (hm : X.mg "len" = none)
    (ha : PE X ea (tEv g S E true ia)) (hs : isStarE ea = false) : PE X (.Call (.Name "len" p) [ea] [] pos) (tEv g S E m (.olen ia)) :=
  (pe_callB (cr_olen hmt hr) hg hm (by rfl) (pa_cons ha pa_nil (star_eq hs)) (by decide) (by decide) (star_eq hs) rfl).weak fun σ H Q ⟨F0, H0, F, σO, pn, A, h⟩ => by
    rw [ev] at h
    refine ⟨F0, H0, F, σO, pn, A, h.bind.imp fun x p F1 H1 s1 p1 k v1 f1 n1 => ?_⟩
    unfold olenM at k
    obtain ⟨q, h1, k1⟩ := k.bind.now s1.fh p1
    obtain ⟨f, h3, k3⟩ := k1.bind.now s1.fh p1
    obtain rfl := obj?_at h1
    cases n1.rep with
    | obj hq r =>
      refine ⟨F1, p, q.1, f, q.2, _, _, _, rfl, hq, r, h3, s1.fh, p1, fun E' => (k3.safe0 (E' := E')).imp fun r p' F' H' s' p'' k5 => ?_⟩
      have k6 := k5.on s'
      obtain ⟨n, hn, k7⟩ := k6.bind.now s'.fh p''
      unfold isLen? at hn
      split at hn
      · split at hn
        · rename_i h01
          cases hn
          exact ⟨_, rfl, h01.1, h01.2, k7.ret s'.fh p'' _ [] (Got.fz (.int _))⟩
        · cases hn
      · cases hn
/-! ### xs[k].append(e) -/
theorem Owns.inner {F H : Hp} {d : D} {v2 : V} (r : Rep g F d v2) : ∀ {os : List O} {vs : List V} {fp : List Addr} {j : Nat} {xs : List O}, Owns g F H os vs fp → fp.Nodup → os[j]? = some (.lst xs) →
    ∃ b ws, vs[j]? = some (.ref b) ∧ b ∈ fp ∧ H b = some (.lst ws) ∧ xs.length = ws.length ∧ Owns g F (upd H b (.lst (ws ++ [v2]))) (os.set j (.lst (xs ++ [.fz d]))) vs fp
  | _, _, _, _, _, .nil, _, h => by cases h
  | _, _, _, 0, xs, .cons (f1 := f1) (f2 := f2) h w, nd, hj => by
    cases hj
    obtain ⟨b, ws, fb, rfl, rfl, hb, wi⟩ := own_ref h
    rw [List.nodup_append] at nd
    obtain ⟨n1, n2, n3⟩ := nd
    have o1 : Owns g F (upd H b (.lst (ws ++ [v2]))) (xs ++ [.fz d]) (ws ++ [v2]) (fb ++ ([] ++ [])) := (wi.off (List.nodup_cons.mp n1).1).append (.cons (.fz r) .nil)
    rw [List.append_nil, List.append_nil] at o1
    exact ⟨b, ws, rfl, by simp, hb, wi.length, .cons (.lst upd_same o1) (w.off fun z => n3 b List.mem_cons_self b z rfl)⟩
  | _, _, _, j + 1, xs, .cons (f1 := f1) (f2 := f2) h w, nd, hj => by
    rw [List.nodup_append] at nd
    obtain ⟨n1, n2, n3⟩ := nd
    obtain ⟨b, ws, k1, k2, k3, k4, k5⟩ := Owns.inner r (j := j) w n2 hj
    exact ⟨b, ws, k1, List.mem_append_right _ k2, k3, k4, .cons (h.mono (Same.refl F) fun x hx => upd_ne fun e => n3 x hx b k2 e) k5⟩
theorem s_appi {i : Nat} {x : Str} {p sp apos cpos : Pos} {ek e : Expr} {ik ie : IE} (hv : PE X (.Name x p) (tVar i)) (hk : PE X ek (tEv g S E false ik)) (hpl : PlainIx ek) (hs : isStarE e = false) (he : PE X e (tEv g S E false ie)) (hline : (apos.endLine == cpos.line) = true) :
    PS X (.Expr (.Call (.Attribute (.Subscript (.Name x p) ek sp) "append" apos) [e] [] cpos) pos) (tSt g E (ex S (.appi i ik ie))) :=
  (ps_expr (pe_bm PySem.F.plainAttrs_list PySem.F.slot_list_append PySem.F.type_list_append (fun pins s σ H x xs v us Q I rx rs h => L2.mt_append pins s σ H x xs v us Q I rx rs h) (pe_ix ix_seq hv hk hpl) (pa_cons he pa_nil (star_eq hs)) rfl (few20 (by simp [hs]) (by simp)) hline (star_eq hs) rfl) (by rfl)).weak fun D σV H ⟨F0, H0, F, σO, pn, A, h⟩ => by
    rw [ex] at h
    obtain ⟨os, hos, h2⟩ := h.bind.now A.base A.pen
    have hat := ownL_at hos
    obtain ⟨v, f, k1, k2, _⟩ := A.upd hat
    obtain ⟨a, vs, fp, rfl, rfl, ha, w⟩ := own_ref k2
    refine ⟨_, k1, F0, H0, F, σO, pn, A, (h2.bind.ev A.base).imp fun kk p1 F1 H1 s1 q1 k v1 f1 n1 => ?_⟩
    have A1 := A.step s1 q1
    obtain ⟨t, ht, h3⟩ := k.bind.now A1.base q1
    unfold ownAt at ht
    rw [hos] at ht
    simp only at ht
    split at ht
    · cases ht
    rename_i z hz
    split at ht
    · cases ht
    rename_i j hj
    split at ht
    rotate_left
    · cases ht
    rename_i xs hx
    cases ht
    obtain rfl := asInt_at hz
    obtain rfl := int_at n1.rep
    obtain ⟨v1', f1', j1, j2, j3, j4, _⟩ := A1.upd hat
    rw [k1] at j1
    cases j1
    obtain ⟨a', vs1, fp1, e1, rfl, ha1, w1⟩ := own_ref j2
    cases e1
    have npa : a ≠ g.pa := (j4 a List.mem_cons_self).1
    obtain ⟨vb, fb, g1, g2, _⟩ := w1.get hx
    obtain ⟨b, ws, fb', rfl, rfl, hb, wb⟩ := own_ref g2
    refine .inl ⟨a, vs1, z, .ref b, rfl, rfl, SqL.of ha1, ?_, .inl ⟨rfl, ws, .inl (.inl hb)⟩, F0, H0, F1, σO, p1, A1, (h3.bind.ev A1.base).all fun o p2 k F2 H2 s2 q2 v2 f2 n2 => ?_⟩
    · unfold atI
      rw [← w1.length, hj]
      exact g1
    obtain ⟨F', s2', q2', r2, sm⟩ := n2.frz s2 q2
    have bs := A1.base.trans q2'.1 s2'
    obtain ⟨q', hq, k5⟩ := (k F' H2 s2' q2').bind.now bs q2'
    unfold appL at hq
    obtain ⟨hl, rfl⟩ := some_if hq
    have A2 := A1.step s2' q2'
    obtain ⟨v3, f3, l1, l2, l3, l4, l5⟩ := A2.upd hat
    rw [k1] at l1
    cases l1
    obtain ⟨a2, vs2, fp2, e1, rfl, ha2, w2⟩ := own_ref l2
    cases e1
    have hh := s2.keep a _ npa ha1
    rw [hh] at ha2
    cases ha2
    obtain ⟨b', ws', i1, i2, i3, i4, i5⟩ := Owns.inner r2 w2 (List.nodup_cons.mp l3).2 hx
    rw [g1] at i1
    cases i1
    refine ⟨b, ws', v2, rfl, rfl, i3, by rw [← i4]; exact lim_lt hl, ?_⟩
    have hne : a ≠ b := fun e => (List.nodup_cons.mp l3).1 (e ▸ i2)
    have own : Own g F' (upd H2 b (.lst (ws' ++ [v2]))) (.lst (os.set j (.lst (xs ++ [.fz o.toD])))) (.ref a) (a :: fp2) := .lst ((upd_ne hne).trans hh) i5
    have A3 := l5 (upd H2 b (.lst (ws' ++ [v2]))) _ _ (upd_off (List.mem_cons_of_mem _ i2)) own (List.Sublist.refl _)
    exact k5.ret A3.base A3.pen σV A3
end
end Bc
set_option Elab.async false
set_option linter.all false
set_option maxRecDepth 100000
set_option maxHeartbeats 4000000
/-! Part C16. Owned lists lent to a call whose answer has no list in it. -/
namespace Bc
open PySem PySem.Spec L2

section
variable {g : GE}
mutual
theorem Own.lists {F H : Hp} : ∀ {o : O} {v : V} {f : List Addr}, Own g F H o v f → okLend o = true → ∀ a ∈ f, ∃ vs, H a = some (.lst vs)
  | _, _, _, .fz _, _ => fun a ha => by simp at ha
  | _, _, _, .lst h r, k => fun a ha => by
    rw [okLend] at k
    rcases List.mem_cons.mp ha with e | e
    · exact ⟨_, e ▸ h⟩
    · exact Owns.lists r k a e
  | _, _, _, .dK _ _ _ _, k => by cases k
  | _, _, _, .dT _ _ _ _, k => by cases k
  | _, _, _, .ins _ _ _, k => by cases k
theorem Owns.lists {F H : Hp} : ∀ {os : List O} {vs : List V} {f : List Addr}, Owns g F H os vs f → okLends os = true → ∀ a ∈ f, ∃ vs, H a = some (.lst vs)
  | _, _, _, .nil, _ => fun a ha => by simp at ha
  | _, _, _, .cons h r, k => fun a ha => by
    rw [okLends, Bool.and_eq_true] at k
    rcases List.mem_append.mp ha with e | e
    · exact Own.lists h k.1 a e
    · exact Owns.lists r k.2 a e
end
mutual
theorem Rep.less {F F3 : Hp} (hl : ∀ a u, F a = some u → (∀ vs, u ≠ .lst vs) → F3 a = some u) : ∀ {d : D} {v : V}, Rep g F d v → noMut d = true → Rep g F3 d v
  | _, _, .non, _ => .non
  | _, _, .bl b, _ => .bl b
  | _, _, .int i, _ => .int i
  | _, _, .str s, _ => .str s
  | _, _, .lst _ _, k => by cases k
  | _, _, .tup h r, k => .tup (hl _ _ h fun vs e => nomatch e) (Reps.less hl r (by rw [noMut] at k; exact k))
  | _, _, .dK _ _ _ _, k => by cases k
  | _, _, .dT _ _ _ _, k => by cases k
  | _, _, .obj h r, k => .obj (hl _ _ h fun vs e => nomatch e) (Reps.less hl r (by rw [noMut] at k; exact k))
  | _, _, .pen, k => by cases k
  | _, _, .scr _, k => by cases k
theorem Reps.less {F F3 : Hp} (hl : ∀ a u, F a = some u → (∀ vs, u ≠ .lst vs) → F3 a = some u) : ∀ {ds : List D} {vs : List V}, Reps g F ds vs → noMuts ds = true → Reps g F3 ds vs
  | _, _, .nil, _ => .nil
  | _, _, .cons h r, k => by
    rw [noMuts, Bool.and_eq_true] at k
    exact .cons (Rep.less hl h k.1) (Reps.less hl r k.2)
end
theorem Abs.lend {F0 H0 F H : Hp} {σV : L2.St} {σO σ' : Sto} {pn : Pen} {i : Nat} (A : Abs g F0 H0 σV H F σO pn) (hl : lend1 i σO = some σ') :
    ∃ (F' : Hp) (f : List Addr), Same F F' ∧ Abs g F0 H0 σV H F' σ' pn ∧ (∀ a ∈ f, F a = none ∧ ∃ vs, F' a = some (.lst vs)) ∧ ∀ a, a ∉ f → F' a = F a := by
  unfold lend1 at hl
  split at hl
  rotate_left
  · cases hl
  rename_i os hos
  obtain ⟨hk, rfl⟩ := some_if hl
  have ei := ownL_at hos
  obtain ⟨fp, h1, h2, h3⟩ := A.own
  obtain ⟨v, f, fp', q1, q2, q3, q4, q5, q6, q7⟩ := h1.take h2 ei
  have sm : Same F (more F H f) := fun a u h => by
    by_cases ha : a ∈ f
    · rw [(h3 a (q6 a ha).1).2.1] at h
      cases h
    · rw [more_out ha]
      exact h
  have r : Rep g (more F H f) (O.lst os).toD v := q2.freeze sm fun a ha => more_in ha
  have o1 : OwnSl g (more F H f) H (σO.set i none) σV fp' := q3.mono sm fun a _ => rfl
  have hi : i < (σO.set i none).length := by
    rw [List.length_set]
    exact (List.getElem?_eq_some_iff.mp ei).1
  obtain ⟨fp2, o2, n2, m2⟩ := OwnSl.put (.fz r) .nil o1 q5 (fun a ha => by simp at ha) hi
  rw [List.set_set, set_self_get q1] at o2
  refine ⟨more F H f, f, sm, ⟨⟨A.base.ff.trans sm, fun a u h => ?_, fun a u h => ?_, A.base.keep, A.base.pk⟩, ⟨?_, ?_⟩, fp2, o2, n2, fun a ha => ?_⟩, fun a ha => ⟨(h3 a (q6 a ha).1).2.1, ?_⟩, fun a ha => more_out ha⟩
  · by_cases ha : a ∈ f
    · rw [more_in ha] at h
      exact h
    · rw [more_out ha] at h
      exact A.fh a u h
  · by_cases ha : a ∈ f
    · exact .inr (h3 a (q6 a ha).1).2.2
    · rw [more_out ha] at h
      exact A.base.new a u h
  · rw [more_out fun ha => (h3 _ (q6 _ ha).1).1 rfl]
    exact A.pen.1
  · obtain ⟨_, ca, c1, c2⟩ := A.pen
    exact ⟨ca, c1, sm _ _ c2⟩
  · have ha' := (m2 a ha).resolve_left (by simp)
    refine ⟨(h3 a (q7 a ha')).1, ?_, (h3 a (q7 a ha')).2.2⟩
    rw [more_out fun hf => (q6 a hf).2 ha']
    exact (h3 a (q7 a ha')).2.1
  · rw [more_in ha]
    exact q2.lists (by rw [okLend]; exact hk) a ha
theorem Abs.lends {F0 H0 : Hp} {H : Hp} {σV : L2.St} {pn : Pen} : ∀ {is : List Nat} {F : Hp} {σO σ' : Sto}, Abs g F0 H0 σV H F σO pn → lendAll is σO = some σ' →
    ∃ (F' : Hp) (f : List Addr), Same F F' ∧ Abs g F0 H0 σV H F' σ' pn ∧ (∀ a ∈ f, F a = none ∧ ∃ vs, F' a = some (.lst vs)) ∧ ∀ a, a ∉ f → F' a = F a
  | [], F, σO, σ', A, h => by
    cases h
    exact ⟨F, [], Same.refl F, A, fun a ha => by simp at ha, fun a _ => rfl⟩
  | i :: is, F, σO, σ', A, h => by
    unfold lendAll at h
    split at h
    · rename_i σ1 h1
      obtain ⟨F1, f1, s1, A1, k1, l1⟩ := A.lend h1
      obtain ⟨F2, f2, s2, A2, k2, l2⟩ := Abs.lends A1 h
      refine ⟨F2, f1 ++ f2, s1.trans s2, A2, fun a ha => ?_, fun a ha => ?_⟩
      · rcases List.mem_append.mp ha with e | e
        · obtain ⟨q1, vs, q2⟩ := k1 a e
          exact ⟨q1, vs, s2 _ _ q2⟩
        · obtain ⟨q1, vs, q2⟩ := k2 a e
          refine ⟨?_, vs, q2⟩
          cases z : F a with
          | none => rfl
          | some u =>
            rw [s1 _ _ z] at q1
            cases q1
      · rw [l2 a fun h => ha (List.mem_append_right _ h), l1 a fun h => ha (List.mem_append_left _ h)]
    · cases h
theorem noMutO_at {o : O} {d : D} (h : noMutO o = some d) : o = .fz d ∧ noMut d = true := by
  unfold noMutO at h
  split at h
  · rename_i d' hd
    obtain ⟨k, rfl⟩ := some_if h
    exact ⟨isFz_at hd, k⟩
  · cases h
variable {X : Cx} {S : Sem} {E : WX} {pos : Pos}
theorem s_asgL {e : Expr} {ie : IE} {i : Nat} {is : List Nat} {x : Str} {pos' : Pos} (hN : X.N.Nodup) (hi : X.N[i]? = some x) (hx : Loc X.env.scope x) (hf : X.fn x = true ∨ X.env.scope.names.lookup x = some .local) (hs : isCompE e = false) (he : PE X e (tEv g S E false ie)) :
    PS X (.Assign [.Name x pos'] e pos) (tSt g E (ex S (.asgL is i ie))) := (ps_set hN hi hx he (swap_none hs) hf).weak fun D σV H ⟨F0, H0, F, σO, pn, A, h⟩ => by
  rw [ex] at h
  obtain ⟨σf, hl, h2⟩ := h.bind.now A.base A.pen
  obtain ⟨F1, fp, sm, A1, k1, k2⟩ := A.lends hl
  obtain ⟨q, hq, hr⟩ := h2.bind.ev A.base
  obtain ⟨o, p', rfl, he'⟩ := M.safe_ok hq
  refine ⟨F0, H0, F1, σf, pn, A1, (.ok o, p'), he', fun F2 H2 s2 p2 v f n => ?_⟩
  have cut : ∃ F3 : Hp, (∀ a ∈ fp, F3 a = none) ∧ ∀ a, a ∉ fp → F3 a = F2 a := by
    refine ⟨fun a => if a ∈ fp then none else F2 a, fun a ha => if_pos ha, fun a ha => if_neg ha⟩
  obtain ⟨F3, c1, c2⟩ := cut
  have off : ∀ a u, F a = some u → a ∉ fp := fun a u h ha => by
    rw [(k1 a ha).1] at h
    cases h
  have ne3 : ∀ a u, F3 a = some u → a ∉ fp ∧ F2 a = some u := fun a u h => by
    have : a ∉ fp := fun ha => by
      rw [c1 a ha] at h
      cases h
    exact ⟨this, by rw [← c2 a this]; exact h⟩
  have s3 : Stp g F H F3 H2 := ⟨fun a u h => by
      rw [c2 a (off a u h)]
      exact s2.ff _ _ (sm _ _ h), fun a u h => s2.fh _ _ (ne3 a u h).2, fun a u h => by
      obtain ⟨n1, n2⟩ := ne3 a u h
      rcases s2.new a u n2 with ⟨u', q⟩ | q
      · exact .inl ⟨u', by rw [← k2 a n1]; exact q⟩
      · exact .inr q, s2.keep, s2.pk⟩
  have p3 : PenAt g F3 H2 p' := by
    obtain ⟨q1, ca, q2, q3⟩ := p2
    refine ⟨?_, ca, q2, ?_⟩
    · cases z : F3 g.pa with
      | none => rfl
      | some u =>
        rw [(ne3 _ _ z).2] at q1
        cases q1
    · obtain ⟨_, ca0, r1, r2⟩ := A.pen
      obtain ⟨l', e1, e2⟩ := s2.pk _ r1
      rw [q2] at e1
      cases e1
      simp only [List.head?_cons, Option.some.injEq, Prod.mk.injEq, V.ref.injEq, true_and] at e2
      subst e2
      rw [c2 _ (off _ _ r2)]
      exact q3
  obtain ⟨d, hd, k⟩ := (hr F3 H2 s3 p3).bind.now (A.base.trans p3.1 s3) p3
  obtain ⟨rfl, hm⟩ := noMutO_at hd
  have r3 : Rep g F3 d v := Rep.less (fun a u h hu => by
    rw [c2 a fun ha => ?_]
    · exact h
    · obtain ⟨_, vs, q⟩ := k1 a ha
      rw [s2.ff _ _ q] at h
      cases h
      exact hu vs rfl) n.rep hm
  have n3 : Got g false H F3 H2 (.fz d) v [] := Got.fz r3
  exact k.ret (A.base.trans p3.1 s3) p3 _ (A.put s3 p3 n3.toNew)
end
end Bc
set_option Elab.async false
set_option linter.all false
set_option maxRecDepth 100000
set_option maxHeartbeats 4000000
/-! Part D. The check that a term is the term of an expression of the program, and that it then is its reading. -/
namespace Bc
open PySem PySem.Spec L2

/-! ### views of expressions -/
def vName : Expr → Option Str
  | .Name x _ => some x
  | _ => none
def vBin : Expr → Option (Expr × Operator × Expr)
  | .BinOp l o r _ => some (l, o, r)
  | _ => none
def vUn : Expr → Option (UnaryOp × Expr)
  | .UnaryOp o e _ => some (o, e)
  | _ => none
def vCmp1 : Expr → Option (Expr × CmpOp × Expr)
  | .Compare l [o] [r] _ => some (l, o, r)
  | _ => none
def vCmp2 : Expr → Option (Expr × CmpOp × Expr × CmpOp × Expr)
  | .Compare l [o1, o2] [r1, r2] _ => some (l, o1, r1, o2, r2)
  | _ => none
def vBool2 : Expr → Option (BoolOp × Expr × Expr × List Expr × Pos)
  | .BoolOp o (a :: b :: r) p => some (o, a, b, r, p)
  | _ => none
def vBool1 : Expr → Option (BoolOp × Expr)
  | .BoolOp o [a] _ => some (o, a)
  | _ => none
def vIf : Expr → Option (Expr × Expr × Expr)
  | .IfExp c a b _ => some (c, a, b)
  | _ => none
def vSub : Expr → Option (Expr × Expr)
  | .Subscript a b _ => some (a, b)
  | _ => none
def vSlice : Expr → Option (Option Expr × Option Expr)
  | .Slice l h none _ => some (l, h)
  | _ => none
def vTup : Expr → Option (List Expr)
  | .Tuple es _ _ => some es
  | _ => none
def vLst : Expr → Option (List Expr)
  | .List es _ => some es
  | _ => none
def vDict0 : Expr → Bool
  | .Dict [] [] _ => true
  | _ => false
def vCallN : Expr → Option (Str × List Expr)
  | .Call (.Name f _) es [] _ => some (f, es)
  | _ => none
def vCallM : Expr → Option (Expr × Str × List Expr × Bool)
  | .Call (.Attribute o m a) es [] p => some (o, m, es, a.endLine == p.line)
  | _ => none
def vAttr : Expr → Option (Expr × Str)
  | .Attribute o m _ => some (o, m)
  | _ => none
def vLc : Expr → Option (Expr × Expr × Expr × List Expr × Scope)
  | .ListComp e [⟨t, i, fs, 0⟩] sc _ => some (e, t, i, fs, sc)
  | _ => none
def vInt : Expr → Option Int
  | .Constant (.int i) _ _ => some i
  | _ => none
def vStr : Expr → Option Str
  | .Constant (.str s) _ _ => some s
  | _ => none
def vNB : Expr → Option D
  | .Constant .none _ _ => some .non
  | .Constant (.bool b) _ _ => some (.bl b)
  | _ => none
theorem vName_e {e : Expr} {x : Str} (h : vName e = some x) : ∃ p, e = .Name x p := by unfold vName at h; split at h <;> cases h; exact ⟨_, rfl⟩
theorem vBin_e {e : Expr} {q} (h : vBin e = some q) : ∃ p, e = .BinOp q.1 q.2.1 q.2.2 p := by unfold vBin at h; split at h <;> cases h; exact ⟨_, rfl⟩
theorem vUn_e {e : Expr} {q} (h : vUn e = some q) : ∃ p, e = .UnaryOp q.1 q.2 p := by unfold vUn at h; split at h <;> cases h; exact ⟨_, rfl⟩
theorem vCmp1_e {e : Expr} {q} (h : vCmp1 e = some q) : ∃ p, e = .Compare q.1 [q.2.1] [q.2.2] p := by unfold vCmp1 at h; split at h <;> cases h; exact ⟨_, rfl⟩
theorem vCmp2_e {e : Expr} {q} (h : vCmp2 e = some q) : ∃ p, e = .Compare q.1 [q.2.1, q.2.2.2.1] [q.2.2.1, q.2.2.2.2] p := by unfold vCmp2 at h; split at h <;> cases h; exact ⟨_, rfl⟩
theorem vBool2_e {e : Expr} {q} (h : vBool2 e = some q) : e = .BoolOp q.1 (q.2.1 :: q.2.2.1 :: q.2.2.2.1) q.2.2.2.2 := by unfold vBool2 at h; split at h <;> cases h; rfl
theorem vBool1_e {e : Expr} {q} (h : vBool1 e = some q) : ∃ p, e = .BoolOp q.1 [q.2] p := by unfold vBool1 at h; split at h <;> cases h; exact ⟨_, rfl⟩
theorem vIf_e {e : Expr} {q} (h : vIf e = some q) : ∃ p, e = .IfExp q.1 q.2.1 q.2.2 p := by unfold vIf at h; split at h <;> cases h; exact ⟨_, rfl⟩
theorem vSub_e {e : Expr} {q} (h : vSub e = some q) : ∃ p, e = .Subscript q.1 q.2 p := by unfold vSub at h; split at h <;> cases h; exact ⟨_, rfl⟩
theorem vSlice_e {e : Expr} {q} (h : vSlice e = some q) : ∃ p, e = .Slice q.1 q.2 none p := by unfold vSlice at h; split at h <;> cases h; exact ⟨_, rfl⟩
theorem vTup_e {e : Expr} {q} (h : vTup e = some q) : ∃ k p, e = .Tuple q k p := by unfold vTup at h; split at h <;> cases h; exact ⟨_, _, rfl⟩
theorem vLst_e {e : Expr} {q} (h : vLst e = some q) : ∃ p, e = .List q p := by unfold vLst at h; split at h <;> cases h; exact ⟨_, rfl⟩
theorem vDict0_e {e : Expr} (h : vDict0 e = true) : ∃ p, e = .Dict [] [] p := by unfold vDict0 at h; split at h <;> first | exact ⟨_, rfl⟩ | cases h
theorem vCallN_e {e : Expr} {q} (h : vCallN e = some q) : ∃ p1 p, e = .Call (.Name q.1 p1) q.2 [] p := by unfold vCallN at h; split at h <;> cases h; exact ⟨_, _, rfl⟩
theorem vCallM_e {e : Expr} {q} (h : vCallM e = some q) : ∃ a p, e = .Call (.Attribute q.1 q.2.1 a) q.2.2.1 [] p ∧ (a.endLine == p.line) = q.2.2.2 := by unfold vCallM at h; split at h <;> cases h; exact ⟨_, _, rfl, rfl⟩
theorem vAttr_e {e : Expr} {q} (h : vAttr e = some q) : ∃ p, e = .Attribute q.1 q.2 p := by unfold vAttr at h; split at h <;> cases h; exact ⟨_, rfl⟩
theorem vLc_e {e : Expr} {q} (h : vLc e = some q) : ∃ p, e = .ListComp q.1 [⟨q.2.1, q.2.2.1, q.2.2.2.1, 0⟩] q.2.2.2.2 p := by unfold vLc at h; split at h <;> cases h; exact ⟨_, rfl⟩
theorem vInt_e {e : Expr} {i : Int} (h : vInt e = some i) : ∃ k p, e = .Constant (.int i) k p := by unfold vInt at h; split at h <;> cases h; exact ⟨_, _, rfl⟩
theorem vStr_e {e : Expr} {s : Str} (h : vStr e = some s) : ∃ k p, e = .Constant (.str s) k p := by unfold vStr at h; split at h <;> cases h; exact ⟨_, _, rfl⟩

/-! ### names -/
structure Tb where
  fns : List (Str × Nat)
  mts : List (Str × Nat)
  cons : List (Str × D)
  ers : List (Str × Nat)
  hds : List (Str × Nat)
  iss : List (Str × Nat) := []
def bltN : List Str := ["range", "enumerate", "zip", "len", "list", "tuple", "int", "sum", "max", "min", "all", "any", "sorted", "isinstance", "bool"]
def dbgB (x : Str) : Bool := x == ("__debug__" : Str)
def visB (sc : Scope) (x : Str) : Bool := (sc.names.lookup x == some .local) || (sc.names.lookup x == some .cell) || (sc.names.lookup x == some .free)
def glB (sc : Scope) (x : Str) : Bool := sc.names.lookup x == some .globalImplicit
def stB (sc : Scope) (cs : List Str) (x : Str) : Bool := (sc.names.lookup x == some .local) || ((sc.names.lookup x == some .cell) && decide (x ∈ cs))
/-- what is known of a context -/
structure Ct (g : GE) (S : Sem) (T : Tb) (k : Nat) (X : Cx) (E : WX) (N : List Str) (sc : Scope) (cs : List Str) : Prop where
  K : X.K = g.K
  calm : X.calm = true
  hN : X.N = N
  nd : N.Nodup
  hsc : X.env.scope = sc
  fn : ∀ x ∈ cs, X.fn x = true
  tk : Takes X E
  room : Room k X.A
  un : X.A.units + 80 < cLine
  fns : ∀ nm f, T.fns.lookup nm = some f → FnAt X g k nm (S.fn f)
  mts : ∀ nm mm, T.mts.lookup nm = some mm → ∀ c f, S.mt c mm = some f → MtAt X g (k - 1) c nm (S.fn f)
  room1 : Room (k - 1 + 1) X.A
  eqf : T.mts.lookup ("__eq__" : Str) = some mEq → EqF X.K g S.cl
  isa : ∀ nm c, T.iss.lookup nm = some c → IsaF X.K X.mg g S.cl c nm
  con : ∀ nm d, T.cons.lookup nm = some d → ∃ u v, X.mg nm = some u ∧ RelV v u ∧ ∀ F, Rep g F d v
  blt : ∀ nm ∈ bltN, X.mg nm = none
  cls : ∀ c, S.cl c = true → ClsAt X g c
section
variable {g : GE} {S : Sem} {T : Tb} {k : Nat} {X : Cx} {E : WX} {N : List Str} {sc : Scope} {cs : List Str} {m : Bool}
theorem Ct.vis (C : Ct g S T k X E N sc cs) {x : Str} (h : visB sc x = true) : Vis X.env.scope x := by
  unfold visB at h
  rw [C.hsc]
  simp only [Bool.or_eq_true, beq_iff_eq] at h
  rcases h with (h | h) | h
  · exact .inl h
  · exact .inr (.inl h)
  · exact .inr (.inr h)
theorem Ct.gl (C : Ct g S T k X E N sc cs) {x : Str} (h : glB sc x = true) : Gl X x := by
  unfold glB at h
  show X.env.scope.names.lookup x = _
  rw [C.hsc]
  exact eq_of_beq h
theorem Ct.st (C : Ct g S T k X E N sc cs) {x : Str} (h : stB sc cs x = true) : Loc X.env.scope x ∧ (X.fn x = true ∨ X.env.scope.names.lookup x = some .local) := by
  unfold stB at h
  rw [C.hsc]
  simp only [Bool.or_eq_true, Bool.and_eq_true, beq_iff_eq, decide_eq_true_eq] at h
  rcases h with h | ⟨h, h2⟩
  · exact ⟨.inl h, .inr h⟩
  · exact ⟨.inr h, .inl (C.fn x h2)⟩
theorem Ct.blk (C : Ct g S T k X E N sc cs) {s : Shared} {H : Hp} {scope : Scope} {A : Addr} {cl : List (Str × Addr)} {fp : List Addr} :
    Ct g S T k (X.blk s H scope (compEnvC scope cl A X.env) fp) E0 N (relS scope sc) (scope.names.filterMap fun y => if scope.names.lookup y.1 == some .cell then some y.1 else none) where
  K := C.K
  calm := C.calm
  hN := C.hN
  nd := C.nd
  hsc := by
    show relS scope X.env.scope = _
    rw [C.hsc]
  fn := fun x hx => by
    obtain ⟨y, _, hy⟩ := List.mem_filterMap.mp hx
    show (scope.names.lookup x == some .cell) = true
    split at hy
    · rename_i h
      cases hy
      exact h
    · cases hy
  tk := fun u s' ⟨a, B, sI, pins, σ, H, cls, d, e, I, nb, up, sky, na, os, ag, w⟩ => w.elim
  room := C.room
  un := C.un
  fns := fun nm f h => ⟨(C.fns nm f h).ex⟩
  mts := fun nm mm h c f h2 => ⟨(C.mts nm mm h c f h2).ex⟩
  room1 := C.room1
  eqf := C.eqf
  isa := C.isa
  con := C.con
  blt := C.blt
  cls := fun c h => ⟨(C.cls c h).cl, (C.cls c h).no⟩
theorem Ct.var (C : Ct g S T k X E N sc cs) {x : Str} {p : Pos} {i : Nat} (h1 : N[i]? = some x) (h2 : visB sc x = true) (h3 : dbgB x = false) (h4 : (x == ("__classdict__" : Str)) = false) : PE X (.Name x p) (tVar i) :=
  pe_var (by rw [C.hN]; exact h1) (C.vis h2) h3 h4

/-! ### operators -/
def opB (o : BO) (p : Operator) : Bool := match o, p with
  | .add, .Add => true
  | .sub, .Sub => true
  | .mul, .Mult => true
  | .fdiv, .FloorDiv => true
  | .mod, .Mod => true
  | .pow, .Pow => true
  | _, _ => false
theorem op_pe {o : BO} {p : Operator} (h : opB o p = true) {ea eb : Expr} {ia ib : IE} {pos : Pos} (ha : PE X ea (tEv g S E true ia)) (hb : PE X eb (tEv g S E true ib)) : PE X (.BinOp ea p eb pos) (tEv g S E m (.bin o ia ib)) := by
  unfold opB at h
  split at h
  · exact s_add ha hb
  · exact s_sub ha hb
  · exact s_mul ha hb
  · exact s_fdiv ha hb
  · exact s_mod ha hb
  · exact s_pow ha hb
  · cases h
def cmpB (o : CO) (p : CmpOp) : Bool := match o, p with
  | .eq, .Eq => true
  | .ne, .NotEq => true
  | .lt, .Lt => true
  | .le, .LtE => true
  | .gt, .Gt => true
  | .ge, .GtE => true
  | .isin, .In => true
  | .notin, .NotIn => true
  | .isn, .Is => true
  | .notn, .IsNot => true
  | _, _ => false
theorem cmp_at (C : Ct g S T k X E N sc cs) {o : CO} {p : CmpOp} (h : cmpB o p = true) : ∃ r, CmpAt X g p o r := by
  have u1 : X.A.units + 64 < cLine := Nat.lt_of_le_of_lt (Nat.add_le_add_left (by decide) _) C.un
  have u2 : X.A.units + 1 < cLine := Nat.lt_of_le_of_lt (Nat.add_le_add_left (by decide) _) C.un
  unfold cmpB at h
  split at h
  · exact ⟨_, op_eqD u1, fun x y b F H Hs v1 v2 f1 f2 Q e n1 n2 h q => r_eq e n1 n2 h q⟩
  · exact ⟨_, op_neD u1, fun x y b F H Hs v1 v2 f1 f2 Q e n1 n2 h q => r_ne e n1 n2 h q⟩
  · exact ⟨_, op_lt, fun x y b F H Hs v1 v2 f1 f2 Q e n1 n2 h q => r_ord (co := .lt) (f := fun i j => decide (i < j)) (fun x y b h => ord_at (show ordO _ x y = some b from h)) n1 n2 h q⟩
  · exact ⟨_, op_le, fun x y b F H Hs v1 v2 f1 f2 Q e n1 n2 h q => r_ord (co := .le) (f := fun i j => decide (i ≤ j)) (fun x y b h => ord_at (show ordO _ x y = some b from h)) n1 n2 h q⟩
  · exact ⟨_, op_gt, fun x y b F H Hs v1 v2 f1 f2 Q e n1 n2 h q => r_ord (co := .gt) (f := fun i j => decide (j < i)) (fun x y b h => ord_at (show ordO _ x y = some b from h)) n1 n2 h q⟩
  · exact ⟨_, op_ge, fun x y b F H Hs v1 v2 f1 f2 Q e n1 n2 h q => r_ord (co := .ge) (f := fun i j => decide (j ≤ i)) (fun x y b h => ord_at (show ordO _ x y = some b from h)) n1 n2 h q⟩
  · exact ⟨_, op_inA u2, fun x y b F H Hs v1 v2 f1 f2 Q e n1 n2 h q => r_in (neg := false) e n1 n2 h q⟩
  · refine ⟨_, op_notInA u2, fun x y b F H Hs v1 v2 f1 f2 Q e n1 n2 h q => ?_⟩
    obtain ⟨c, hc, rfl⟩ := Option.map_eq_some_iff.mp h
    exact r_in (neg := true) e n1 n2 hc q
  · refine ⟨_, op_isN, fun x y b F H Hs v1 v2 f1 f2 Q e n1 n2 h q => ?_⟩
    obtain ⟨h1, h2⟩ := r_isn (Q := Q) n1 n2 h
    exact ⟨h1, by rw [h2]; exact q⟩
  · refine ⟨_, op_notN, fun x y b F H Hs v1 v2 f1 f2 Q e n1 n2 h q => ?_⟩
    obtain ⟨c, hc, rfl⟩ := Option.map_eq_some_iff.mp h
    obtain ⟨h1, h2⟩ := r_isn (Q := Q) n1 n2 hc
    exact ⟨h1, by rw [h2]; exact q⟩
  · cases h
def bltNm : BF → Str
  | .len => "len"
  | .list => "list"
  | .tuple => "tuple"
  | .int => "int"
  | .sum => "sum"
  | .max => "max"
  | .min => "min"
  | .max2 => "max"
  | .min2 => "min"
  | .all => "all"
  | .any => "any"
  | .sorted => "sorted"
  | .isbool => "?"
theorem blt_pe (C : Ct g S T k X E N sc cs) {b : BF} {nm : Str} (hb : b ≠ .isbool) (hnm : nm = bltNm b) (hg : glB sc nm = true) {p pos : Pos} {e : Expr} {rest : List Expr} {ies : List IE} (ha : PA X (e :: rest) (tEvv g S E ies)) (hs : (e :: rest).all (fun e => !isStarE e) = true) :
    PE X (.Call (.Name nm p) (e :: rest) [] pos) (tEv g S E m (.blt b ies)) := by
  subst hnm
  have G := C.gl hg
  cases b with
  | len => exact s_blt cr_lenA (b_len C.K) G (C.blt _ (by decide +kernel)) PyProof.Rows.Boot.«len» (by decide +kernel) (by decide +kernel) ha hs
  | list => exact s_bltT call_list_of b_list G (C.blt _ (by decide +kernel)) PyProof.Rows.Boot.«list» (by decide +kernel) (by decide +kernel) ha hs
  | tuple => exact s_bltT call_tuple_of b_tuple G (C.blt _ (by decide +kernel)) PyProof.Rows.Boot.«tuple» (by decide +kernel) (by decide +kernel) ha hs
  | int => exact s_bltT call_int1 b_int G (C.blt _ (by decide +kernel)) PyProof.Rows.Boot.«int» (by decide +kernel) (by decide +kernel) ha hs
  | sum => exact s_blt (cr_sum C.calm) b_sum G (C.blt _ (by decide +kernel)) PyProof.Rows.Boot.«sum» (by decide +kernel) (by decide +kernel) ha hs
  | max => exact s_blt (cr_max C.calm) b_max G (C.blt _ (by decide +kernel)) PyProof.Rows.Boot.«max» (by decide +kernel) (by decide +kernel) ha hs
  | min => exact s_blt (cr_min C.calm) b_min G (C.blt _ (by decide +kernel)) PyProof.Rows.Boot.«min» (by decide +kernel) (by decide +kernel) ha hs
  | max2 => exact s_blt (call_max2 C.calm) (b_int2 (fun _ => rfl) fun _ _ => rfl) G (C.blt _ (by decide +kernel)) PyProof.Rows.Boot.«max» (by decide +kernel) (by decide +kernel) ha hs
  | min2 => exact s_blt (call_min2 C.calm) (b_int2 (fun _ => rfl) fun _ _ => rfl) G (C.blt _ (by decide +kernel)) PyProof.Rows.Boot.«min» (by decide +kernel) (by decide +kernel) ha hs
  | all => exact s_blt (cr_all C.calm) b_all G (C.blt _ (by decide +kernel)) PyProof.Rows.Boot.«all» (by decide +kernel) (by decide +kernel) ha hs
  | any => exact s_blt (cr_any C.calm) b_any G (C.blt _ (by decide +kernel)) PyProof.Rows.Boot.«any» (by decide +kernel) (by decide +kernel) ha hs
  | sorted => exact s_blt cr_sortA b_sorted G (C.blt _ (by decide +kernel)) PyProof.Rows.Boot.«sorted» (by decide +kernel) (by decide +kernel) ha hs
  | isbool => exact absurd rfl hb
theorem kb_int : L2.kitB "int" "bool" = some false := by decide +kernel
theorem kb_bool : L2.kitB "bool" "bool" = some true := by decide +kernel
theorem kb_str : L2.kitB "str" "bool" = some false := by decide +kernel
theorem kb_non : L2.kitB "NoneType" "bool" = some false := by decide +kernel
theorem s_isbool (C : Ct g S T k X E N sc cs) (hg : glB sc "isinstance" = true) (hg2 : glB sc "bool" = true) {p p2 pos : Pos} {e : Expr} {ie : IE} (hs : isStarE e = false) (he : PE X e (tEv g S E true ie)) :
    PE X (.Call (.Name "isinstance" p) [e, .Name "bool" p2] [] pos) (tEv g S E m (.blt .isbool [ie])) :=
  (pe_callB L2.call_isi (C.gl hg) (C.blt _ (by decide +kernel)) PyProof.Rows.Boot.«isinstance» (pa_cons he (pa_cons (pe_bltn (v := .ty "bool") (C.gl hg2) (C.blt _ (by decide +kernel)) PyProof.Rows.Boot.«bool» rfl) pa_nil) (star_eq hs)) (by decide +kernel) (by decide +kernel) (star_eq hs) rfl).weak fun σ H Q ⟨F0, H0, F, σO, pn, A, h⟩ => by
    rw [ev, evv] at h
    refine ⟨F0, H0, F, σO, pn, A, h.bind.bind.imp fun o p F1 H1 s1 p1 k1 v f n => ?_⟩
    have k2 := k1.bind
    rw [evv] at k2
    have k3 := (k2.ret s1.fh p1).ret s1.fh p1
    obtain ⟨r, hr, k4⟩ := k3.now s1.fh p1
    change isBoolO o = some r at hr
    unfold isBoolO at hr
    split at hr
    · cases hr
      have := n.rep
      cases this
      exact ⟨_, _, _, _, true, rfl, .ty "bool", .base (.bl _), L2.kit_ty kb_bool, k4 _ [] (Got.fz (.bl _))⟩
    · cases hr
      have := n.rep
      cases this
      exact ⟨_, _, _, _, false, rfl, .ty "bool", .base (.int _), L2.kit_ty kb_int, k4 _ [] (Got.fz (.bl _))⟩
    · cases hr
      have := n.rep
      cases this
      exact ⟨_, _, _, _, false, rfl, .ty "bool", .base (.str _), L2.kit_ty kb_str, k4 _ [] (Got.fz (.bl _))⟩
    · cases hr
      have := n.rep
      cases this
      exact ⟨_, _, _, _, false, rfl, .ty "bool", .base .non, L2.kit_ty kb_non, k4 _ [] (Got.fz (.bl _))⟩
    · cases hr
end
end Bc
set_option Elab.async false
set_option linter.all false
set_option maxRecDepth 100000
set_option maxHeartbeats 4000000
/-! Part D2. The check of terms. -/
namespace Bc
open PySem PySem.Spec L2

/-! ### the check -/
def strD (s : Str) : D := .str s.cps.toList
/-- constants; a global constant by its name -/
def conB (T : Tb) (sc : Scope) (d : D) (e : Expr) : Bool := match d with
  | .int i => match vInt e with
    | some j => decide (i = j)
    | none => false
  | .str s => match vStr e with
    | some t => decide (t = ⟨s.toArray⟩)
    | none => match vName e with
      | some x => glB sc x && !dbgB x && (match T.cons.lookup x with | some (.str u) => decide (u = s) | _ => false)
      | none => false
  | .non => match vNB e with
    | some .non => true
    | _ => false
  | .bl b => match vNB e with
    | some (.bl c) => b == c
    | _ => false
  | _ => false
/-- a global constant that is a number -/
def conG (T : Tb) (sc : Scope) (d : D) (e : Expr) : Bool := match d, vName e with
  | .int i, some x => glB sc x && !dbgB x && (match T.cons.lookup x with | some (.int j) => decide (i = j) | _ => false)
  | _, _ => false
def okL (f : Expr → IE → Bool) : List Expr → List IE → Bool
  | [], [] => true
  | e :: es, i :: is => !isStarE e && f e i && okL f es is
  | _, _ => false
def okO (f : Expr → IE → Bool) : Option Expr → List IE → Bool
  | none, [] => true
  | some e, [i] => f e i
  | _, _ => false
def okN (N : List Str) (sc : Scope) (cs : List Str) (e : Expr) (i : Nat) : Bool := match vName e with
  | some x => decide (N[i]? = some x) && stB sc cs x
  | none => false
def okNs (N : List Str) (sc : Scope) (cs : List Str) : List Expr → List Nat → Bool
  | [], [] => true
  | e :: es, i :: is => okN N sc cs e i && okNs N sc cs es is
  | _, _ => false
def okTg (N : List Str) (sc : Scope) (cs : List Str) (e : Expr) (t : Tg) : Bool := match t with
  | .nm i => okN N sc cs e i
  | .tp is => match vTup e with
    | some es => okNs N sc cs es is
    | none => false
def okI (f : Expr → IE → Bool) (sc : Scope) (tup : Bool) (e : Expr) (ik : IK) (ies : List IE) : Bool := match ik, ies with
  | .seq, [ia] => !isSetE e && f e ia
  | .range1, [ia] => match vCallN e with
    | some (nm, [a]) => nm == "range" && glB sc "range" && okL f [a] [ia]
    | _ => false
  | .range2, [ia, ib] => match vCallN e with
    | some (nm, [a, b]) => nm == "range" && glB sc "range" && okL f [a, b] [ia, ib]
    | _ => false
  | .enum 0, [ia] => match vCallN e with
    | some (nm, [a]) => tup && nm == "enumerate" && glB sc "enumerate" && okL f [a] [ia]
    | _ => false
  | .zip, [ia, ib] => match vCallN e with
    | some (nm, [a, b]) => tup && nm == "zip" && glB sc "zip" && okL f [a, b] [ia, ib]
    | _ => false
  | _, _ => false
def isTupB (e : Expr) : Bool := (vTup e).isSome
def ownOf (N : List Str) (vs : List Nat) : List (Str × Nat) := vs.map fun v => (N[v]?.getD "", v)
def blkB (N : List Str) (sc scope : Scope) (vs : List Nat) : Bool :=
  scope.kind == .function && scope.names.all (fun y => scope.names.lookup y.1 == some y.2) && vs.all (fun v => (N[v]?).isSome) &&
  scope.names.all (fun y => !(y.2 == .free) || (sc.names.lookup y.1 == some .cell || sc.names.lookup y.1 == some .free)) &&
  scope.names.all (fun y => !(y.2 == .local || y.2 == .cell) || (decide (y.1 ∈ (ownOf N vs).map (·.1)) || decide (y.1 ∉ N)))
def blkCs (scope : Scope) : List Str := scope.names.filterMap fun y => if scope.names.lookup y.1 == some .cell then some y.1 else none
/-- one comparison, or two in a row -/
def okC (f : Expr → IE → Bool) (e : Expr) (ie : IE) : Bool := match ie with
  | .cmp o a b => match vCmp1 e with
    | some (l, p, r) => cmpB o p && f l a && f r b && !isSetE r
    | none => false
  | .chain o1 o2 a b c => match vCmp2 e with
    | some (l, p1, r1, p2, r2) => cmpB o1 p1 && cmpB o2 p2 && f l a && f r1 b && f r2 c && !isSetE r1 && !isSetE r2
    | none => false
  | _ => false
/-- == by an own __eq__ -/
def okQ (T : Tb) (f : Expr → IE → Bool) (e : Expr) (a b : IE) : Bool := match vCmp1 e with
  | some (l, p, r) => cmpB .eq p && decide (T.mts.lookup ("__eq__" : Str) = some mEq) && f l a && f r b && !isSetE r
  | none => false
mutual
def okE (T : Tb) (N : List Str) : Nat → Scope → List Str → Expr → IE → Bool
  | 0, _, _, _, _ => false
  | n + 1, sc, cs, e, ie => match vBool1 e with
    | some (_, e1) => okE T N n sc cs e1 ie
    | none => match ie with
      | .var i => match vName e with
        | some x => decide (N[i]? = some x) && visB sc x && !dbgB x && !(x == ("__classdict__" : Str))
        | none => false
      | .con d => conB T sc d e || conG T sc d e
      | .bin o a b => match vBin e with
        | some (l, p, r) => opB o p && okE T N n sc cs l a && okE T N n sc cs r b
        | none => false
      | .neg a => match vUn e with
        | some (.USub, e1) => okE T N n sc cs e1 a
        | _ => false
      | .cmp o a b => okC (okE T N n sc cs) e (.cmp o a b)
      | .chain o1 o2 a b c => okC (okE T N n sc cs) e (.chain o1 o2 a b c)
      | .oeq a b => okQ T (okE T N n sc cs) e a b
      | .and_ a b => match vBool2 e with
        | some (.And, e1, e2, r, p) => okE T N n sc cs e1 a && okE T N n sc cs (.BoolOp .And (e2 :: r) p) b
        | _ => false
      | .or_ a b => match vBool2 e with
        | some (.Or, e1, e2, r, p) => okE T N n sc cs e1 a && okE T N n sc cs (.BoolOp .Or (e2 :: r) p) b
        | _ => false
      | .not_ a => match vUn e with
        | some (.Not, e1) => okE T N n sc cs e1 a
        | _ => false
      | .ite c a b => match vIf e with
        | some (ec, ea, eb) => okT T N n sc cs ec c && okE T N n sc cs ea a && okE T N n sc cs eb b
        | none => false
      | .sub a b => match vSub e with
        | some (ea, eb) => !isSliceE eb && okE T N n sc cs ea a && okE T N n sc cs eb b
        | none => false
      | .slice a lo hi => match vSub e with
        | some (ea, eb) => match vSlice eb with
          | some (l, h) => okE T N n sc cs ea a && okO (okE T N n sc cs) l lo && okO (okE T N n sc cs) h hi
          | none => false
        | none => false
      | .tup es => match vTup e with
        | some xs => okL (okE T N n sc cs) xs es
        | none => false
      | .lst es => match vLst e with
        | some xs => okL (okE T N n sc cs) xs es
        | none => false
      | .dnew _ => vDict0 e
      | .call f es => match vCallN e with
        | some (nm, xs) => decide (T.fns.lookup nm = some f) && glB sc nm && !dbgB nm && okL (okE T N n sc cs) xs es
        | none => false
      | .meth mm o es => match vCallM e with
        | some (eo, nm, xs, ln) => ln && decide (T.mts.lookup nm = some mm) && !isCall0 eo && decide (xs.length < 20) && okE T N n sc cs eo o && okL (okE T N n sc cs) xs es
        | none => false
      | .fld o f => match vAttr e with
        | some (eo, nm) => decide (nm = fnameT f) && !isCall0 eo && okE T N n sc cs eo o
        | none => false
      | .blt .isbool [a] => match vCallN e with
        | some (nm, [x, y]) => nm == "isinstance" && glB sc "isinstance" && glB sc "bool" && decide (vName y = some "bool") && !isStarE x && okE T N n sc cs x a
        | _ => false
      | .blt b (i1 :: is) => match vCallN e with
        | some (nm, x :: xs) => decide (b ≠ .isbool) && nm == bltNm b && glB sc nm && okL (okE T N n sc cs) (x :: xs) (i1 :: is)
        | _ => false
      | .sm .join o [a] => match vCallM e with
        | some (eo, nm, [x], ln) => ln && nm == "join" && !isCall0 eo && okE T N n sc cs eo o && okL (okE T N n sc cs) [x] [a]
        | _ => false
      | .sm .index o [a] => match vCallM e with
        | some (eo, nm, [x], ln) => ln && nm == "index" && !isCall0 eo && okE T N n sc cs eo o && okL (okE T N n sc cs) [x] [a]
        | _ => false
      | .lc ik ies t cond el vs => match vLc e with
        | some (ee, tg, it, ifs, scope) => blkB N sc scope vs && decide (∀ i ∈ t.is, i ∈ vs) && !isSetE it && okI (okE T N n sc cs) sc (isTupB tg) it ik ies && okTg N (relS scope sc) (blkCs scope) tg t &&
          okE T N n (relS scope sc) (blkCs scope) ee el && (match ifs, cond with
            | [], [] => true
            | [c], [ic] => okT T N n (relS scope sc) (blkCs scope) c ic
            | _, _ => false)
        | none => false
      | .pget o f => match vSub e with
        | some (ea, eb) => decide (vStr eb = some (penKey f)) && okE T N n sc cs ea o
        | none => false
      | .isa a c => match vCallN e with
        | some (nm, [x, y]) => match vName y with
          | some cn => nm == "isinstance" && glB sc "isinstance" && decide (T.iss.lookup cn = some c) && glB sc cn && !dbgB cn && !isStarE x && okE T N n sc cs x a
          | none => false
        | _ => false
      | .olen a => match vCallN e with
        | some (nm, [x]) => nm == "len" && glB sc "len" && decide (T.mts.lookup ("__len__" : Str) = some mLen) && !isStarE x && okE T N n sc cs x a
        | _ => false
      | _ => false
/-- a test -/
def okT (T : Tb) (N : List Str) : Nat → Scope → List Str → Expr → IE → Bool
  | 0, _, _, _, _ => false
  | n + 1, sc, cs, e, ie => match vBool1 e with
    | some (_, e1) => okT T N n sc cs e1 ie
    | none => match ie with
      | .and_ a b => match vBool2 e with
        | some (.And, e1, e2, r, p) => okT T N n sc cs e1 a && okW T N n sc cs (.BoolOp .And (e2 :: r) p) b
        | _ => false
      | .or_ a b => match vBool2 e with
        | some (.Or, e1, e2, r, p) => okT T N n sc cs e1 a && okW T N n sc cs (.BoolOp .Or (e2 :: r) p) b
        | _ => false
      | .not_ a => match vUn e with
        | some (.Not, e1) => okT T N n sc cs e1 a
        | _ => false
      | .cmp o a b => okC (okE T N n sc cs) e (.cmp o a b)
      | .chain o1 o2 a b c => okC (okE T N n sc cs) e (.chain o1 o2 a b c)
      | .oeq a b => okQ T (okE T N n sc cs) e a b
      | ie => !isTestE e && okE T N n sc cs e ie
/-- the rest of an and, an or -/
def okW (T : Tb) (N : List Str) : Nat → Scope → List Str → Expr → IE → Bool
  | 0, _, _, _, _ => false
  | n + 1, sc, cs, e, ie => match vBool1 e with
    | some (_, e1) => okT T N n sc cs e1 ie
    | none => match ie with
      | .and_ a b => match vBool2 e with
        | some (.And, e1, e2, r, p) => okT T N n sc cs e1 a && okW T N n sc cs (.BoolOp .And (e2 :: r) p) b
        | _ => false
      | .or_ a b => match vBool2 e with
        | some (.Or, e1, e2, r, p) => okT T N n sc cs e1 a && okW T N n sc cs (.BoolOp .Or (e2 :: r) p) b
        | _ => false
      | _ => false
end
section
variable {g : GE} {S : Sem} {T : Tb} {k : Nat} {X : Cx} {E : WX} {N : List Str} {sc : Scope} {cs : List Str} {m : Bool}
theorem con_pe (C : Ct g S T k X E N sc cs) {d : D} {e : Expr} (h : (conB T sc d e || conG T sc d e) = true) : PE X e (tEv g S E m (.con d)) := by
  have glo : ∀ {x : Str} {d : D} {p : Pos}, glB sc x = true → dbgB x = false → T.cons.lookup x = some d → PE X (.Name x p) (tEv g S E m (.con d)) := fun {x d p} h1 h2 h3 => by
    obtain ⟨u, v, q1, q2, q3⟩ := C.con x d h3
    exact s_con (pe_glob (C.gl h1) q1 q2 h2) q3
  rw [Bool.or_eq_true] at h
  rcases h with h | h
  · unfold conB at h
    split at h
    · split at h
      · rename_i hv
        obtain ⟨k, p, rfl⟩ := vInt_e hv
        rw [of_decide_eq_true h]
        exact s_con pe_int fun F => .int _
      · cases h
    · split at h
      · rename_i hv
        obtain ⟨k, p, rfl⟩ := vStr_e hv
        rw [of_decide_eq_true h]
        exact s_con pe_str fun F => .str _
      · split at h
        · rename_i hv
          obtain ⟨p, rfl⟩ := vName_e hv
          rw [Bool.and_eq_true, Bool.and_eq_true, Bool.not_eq_true'] at h
          obtain ⟨⟨h1, h2⟩, h3⟩ := h
          split at h3
          · rename_i hc
            rw [of_decide_eq_true h3] at hc
            exact glo h1 h2 hc
          · cases h3
        · cases h
    · split at h
      · rename_i hv
        unfold vNB at hv
        split at hv <;> cases hv
        exact s_con pe_non fun F => .non
      · cases h
    · split at h
      · rename_i hv
        unfold vNB at hv
        split at hv <;> cases hv
        obtain rfl := eq_of_beq h
        exact s_con pe_bl fun F => .bl _
      · cases h
    · cases h
  · unfold conG at h
    split at h
    · rename_i hv
      obtain ⟨p, rfl⟩ := vName_e hv
      rw [Bool.and_eq_true, Bool.and_eq_true, Bool.not_eq_true'] at h
      obtain ⟨⟨h1, h2⟩, h3⟩ := h
      split at h3
      · rename_i hc
        rw [← of_decide_eq_true h3] at hc
        exact glo h1 h2 hc
      · cases h3
    · cases h
theorem okL_a {f : Expr → IE → Bool} (hf : ∀ e i, f e i = true → PE X e (tEv g S E false i)) : ∀ {es : List Expr} {is : List IE}, okL f es is = true → PA X es (tEvs g S E is) ∧ es.all (fun e => !isStarE e) = true
  | [], [], _ => ⟨a_nil, rfl⟩
  | [], _ :: _, h => by cases h
  | _ :: _, [], h => by cases h
  | e :: es, i :: is, h => by
    unfold okL at h
    rw [Bool.and_eq_true, Bool.and_eq_true] at h
    obtain ⟨⟨h1, h2⟩, h3⟩ := h
    obtain ⟨r1, r2⟩ := okL_a hf h3
    exact ⟨a_cons (by simpa using h1) (hf e i h2) r1, by rw [List.all_cons, h1, r2]; rfl⟩
theorem okL_v {f : Expr → IE → Bool} (hf : ∀ e i, f e i = true → PE X e (tEv g S E true i)) : ∀ {es : List Expr} {is : List IE}, okL f es is = true → PA X es (tEvv g S E is) ∧ es.all (fun e => !isStarE e) = true
  | [], [], _ => ⟨v_nil, rfl⟩
  | [], _ :: _, h => by cases h
  | _ :: _, [], h => by cases h
  | e :: es, i :: is, h => by
    unfold okL at h
    rw [Bool.and_eq_true, Bool.and_eq_true] at h
    obtain ⟨⟨h1, h2⟩, h3⟩ := h
    obtain ⟨r1, r2⟩ := okL_v hf h3
    exact ⟨v_cons (by simpa using h1) (hf e i h2) r1, by rw [List.all_cons, h1, r2]; rfl⟩
theorem okL_f {f : Expr → IE → Bool} (hf : ∀ e i, f e i = true → PE X e (tEv g S E false i)) : ∀ {es : List Expr} {is : List IE}, okL f es is = true → PA X es (tEvf g S E is) ∧ es.all (fun e => !isStarE e) = true
  | [], [], _ => ⟨f_nil, rfl⟩
  | [], _ :: _, h => by cases h
  | _ :: _, [], h => by cases h
  | e :: es, i :: is, h => by
    unfold okL at h
    rw [Bool.and_eq_true, Bool.and_eq_true] at h
    obtain ⟨⟨h1, h2⟩, h3⟩ := h
    obtain ⟨r1, r2⟩ := okL_f hf h3
    exact ⟨f_cons (by simpa using h1) (hf e i h2) r1, by rw [List.all_cons, h1, r2]; rfl⟩
theorem okO_p {f : Expr → IE → Bool} (hf : ∀ e i, f e i = true → PE X e (tEv g S E false i)) {l : Option Expr} {is : List IE} (h : okO f l is = true) : PO X l (tEvO g S E is) := by
  unfold okO at h
  split at h
  · exact o_none
  · exact o_some (hf _ _ h)
  · cases h
theorem okN_g (C : Ct g S T k X E N sc cs) {e : Expr} {i : Nat} (h : okN N sc cs e i = true) : NmAt X e i := by
  unfold okN at h
  split at h
  · rename_i x hv
    obtain ⟨p, rfl⟩ := vName_e hv
    rw [Bool.and_eq_true] at h
    obtain ⟨l, f⟩ := C.st h.2
    exact ⟨x, p, rfl, pg_name (by rw [C.hN]; exact C.nd) (by rw [C.hN]; exact of_decide_eq_true h.1) l f⟩
  · cases h
theorem okNs_g (C : Ct g S T k X E N sc cs) : ∀ {es : List Expr} {is : List Nat}, okNs N sc cs es is = true → NmsAt X es is
  | [], [], _ => .nil
  | [], _ :: _, h => by cases h
  | _ :: _, [], h => by cases h
  | e :: es, i :: is, h => by
    unfold okNs at h
    rw [Bool.and_eq_true] at h
    exact .cons (okN_g C h.1) (okNs_g C h.2)
theorem okTg_g (C : Ct g S T k X E N sc cs) {e : Expr} {t : Tg} (h : okTg N sc cs e t = true) : PG X e (tTg g t) := by
  unfold okTg at h
  split at h
  · obtain ⟨x, p, rfl, q⟩ := okN_g C h
    exact g_name q
  · split at h
    · rename_i hv
      obtain ⟨k, p, rfl⟩ := vTup_e hv
      exact g_tup C.calm C.K (okNs_g C h)
    · cases h
theorem okI_i (C : Ct g S T k X E N sc cs) {f : Expr → IE → Bool} (hf : ∀ e i, f e i = true → PE X e (tEv g S E false i)) {tg e : Expr} {ik : IK} {ies : List IE} (h : okI f sc (isTupB tg) e ik ies = true) : PI X tg e (tIt g S E ik ies) := by
  unfold okI at h
  split at h
  · rw [Bool.and_eq_true] at h
    exact i_seq C.K (hf _ _ h.2)
  · split at h
    · rename_i hv
      obtain ⟨p1, p, rfl⟩ := vCallN_e hv
      simp only [Bool.and_eq_true] at h
      obtain ⟨⟨h1, h2⟩, h3⟩ := h
      obtain rfl := eq_of_beq h1
      obtain ⟨q1, q2⟩ := okL_a hf h3
      exact i_range1 (C.gl h2) (C.blt _ (by decide +kernel)) (by simpa using q2) q1
    · cases h
  · split at h
    · rename_i hv
      obtain ⟨p1, p, rfl⟩ := vCallN_e hv
      simp only [Bool.and_eq_true] at h
      obtain ⟨⟨h1, h2⟩, h3⟩ := h
      obtain rfl := eq_of_beq h1
      obtain ⟨q1, q2⟩ := okL_a hf h3
      simp only [List.all_cons, List.all_nil, Bool.and_true, Bool.and_eq_true, Bool.not_eq_true'] at q2
      exact i_range2 (C.gl h2) (C.blt _ (by decide +kernel)) q2.1 q2.2 q1
    · cases h
  · split at h
    · rename_i hv
      obtain ⟨p1, p, rfl⟩ := vCallN_e hv
      simp only [Bool.and_eq_true] at h
      obtain ⟨⟨⟨ht, h1⟩, h2⟩, h3⟩ := h
      obtain rfl := eq_of_beq h1
      obtain ⟨q1, q2⟩ := okL_a hf h3
      obtain ⟨xs, hx⟩ := Option.isSome_iff_exists.mp ht
      obtain ⟨kk, tp, rfl⟩ := vTup_e hx
      exact i_enum C.K (C.gl h2) (C.blt _ (by decide +kernel)) (by simpa using q2) q1
    · cases h
  · split at h
    · rename_i hv
      obtain ⟨p1, p, rfl⟩ := vCallN_e hv
      simp only [Bool.and_eq_true] at h
      obtain ⟨⟨⟨ht, h1⟩, h2⟩, h3⟩ := h
      obtain rfl := eq_of_beq h1
      obtain ⟨q1, q2⟩ := okL_a hf h3
      simp only [List.all_cons, List.all_nil, Bool.and_true, Bool.and_eq_true, Bool.not_eq_true'] at q2
      obtain ⟨xs, hx⟩ := Option.isSome_iff_exists.mp ht
      obtain ⟨kk, tp, rfl⟩ := vTup_e hx
      exact i_zip C.K (C.gl h2) (C.blt _ (by decide +kernel)) q2.1 q2.2 q1
    · cases h
  · cases h
end
end Bc
set_option Elab.async false
set_option linter.all false
set_option maxRecDepth 100000
set_option maxHeartbeats 4000000
/-! Part D3. What is checked is the reading. -/
namespace Bc
open PySem PySem.Spec L2

theorem lastMarks2 {o1 o2 : CmpOp} {a b : Expr} (h1 : isSetE a = false) (h2 : isSetE b = false) : lastMarks [o1, o2] [a, b] = false := by
  cases b <;> first | rfl | cases h2
theorem ownOf_snd (N : List Str) (vs : List Nat) : (ownOf N vs).map (·.2) = vs := by
  unfold ownOf
  rw [List.map_map]
  exact List.map_id _
theorem blk_ok {N : List Str} {sc scope : Scope} {vs : List Nat} (h : blkB N sc scope vs = true) : BlkOk N sc scope (ownOf N vs) := by
  unfold blkB at h
  simp only [Bool.and_eq_true, List.all_eq_true, Bool.or_eq_true, Bool.not_eq_true', beq_iff_eq, decide_eq_true_eq] at h
  obtain ⟨⟨⟨⟨h1, h2⟩, h3⟩, h4⟩, h5⟩ := h
  refine ⟨h1, h2, fun p hp => ?_, fun y hy e => ?_, fun y hy e => ?_⟩
  · unfold ownOf at hp
    obtain ⟨v, hv, rfl⟩ := List.mem_map.mp hp
    obtain ⟨x, hx⟩ := Option.isSome_iff_exists.mp (h3 v hv)
    show N[v]? = some _
    rw [hx]
    rfl
  · rcases h4 y hy with z | z
    · rw [e] at z
      cases z
    · exact z
  · rcases h5 y hy with z | z
    · rcases e with e | e <;> rw [e] at z <;> cases z
    · exact z
section
variable {g : GE} {S : Sem} {T : Tb} {k : Nat} {N : List Str}
def AllE (g : GE) (S : Sem) (T : Tb) (k : Nat) (N : List Str) (n : Nat) : Prop := ∀ (X : Cx) (E : WX) (sc : Scope) (cs : List Str) (m : Bool) (e : Expr) (ie : IE), Ct g S T k X E N sc cs → okE T N n sc cs e ie = true → PE X e (tEv g S E m ie)
def AllT (g : GE) (S : Sem) (T : Tb) (k : Nat) (N : List Str) (n : Nat) : Prop := ∀ (X : Cx) (E : WX) (sc : Scope) (cs : List Str) (e : Expr) (ie : IE), Ct g S T k X E N sc cs → okT T N n sc cs e ie = true → PT X e (tEvT g S E ie)
def AllW (g : GE) (S : Sem) (T : Tb) (k : Nat) (N : List Str) (n : Nat) : Prop := ∀ (X : Cx) (E : WX) (sc : Scope) (cs : List Str) (e : Expr) (ie : IE), Ct g S T k X E N sc cs → okW T N n sc cs e ie = true → PW X e (tEvT g S E ie)
theorem okC_s {X : Cx} {E : WX} {sc : Scope} {cs : List Str} {m : Bool} {f : Expr → IE → Bool} (C : Ct g S T k X E N sc cs) (hf : ∀ e i m, f e i = true → PE X e (tEv g S E m i)) {e : Expr} {ie : IE} (h : okC f e ie = true) : PE X e (tEv g S E m ie) ∧ PT X e (tEvT g S E ie) := by
  unfold okC at h
  split at h
  · split at h
    · rename_i hv
      obtain ⟨p, rfl⟩ := vCmp1_e hv
      simp only [Bool.and_eq_true, Bool.not_eq_true'] at h
      obtain ⟨⟨⟨h1, h2⟩, h3⟩, h4⟩ := h
      obtain ⟨r, q1, q2⟩ := cmp_at C h1
      exact ⟨s_cmp q1 q2 (hf _ _ true h2) (hf _ _ true h3) (set_plain h4), t_cmp q1 q2 (hf _ _ true h2) (hf _ _ true h3) (set_plain h4)⟩
    · cases h
  · split at h
    · rename_i hv
      obtain ⟨p, rfl⟩ := vCmp2_e hv
      simp only [Bool.and_eq_true, Bool.not_eq_true'] at h
      obtain ⟨⟨⟨⟨⟨⟨h1, h2⟩, h3⟩, h4⟩, h5⟩, h6⟩, h7⟩ := h
      obtain ⟨r1, q1⟩ := cmp_at C h1
      obtain ⟨r2, q2⟩ := cmp_at C h2
      exact ⟨s_chain q1 q2 (hf _ _ true h3) (hf _ _ true h4) (hf _ _ true h5) (lastMarks2 h6 h7), t_chain q1 q2 (hf _ _ true h3) (hf _ _ true h4) (hf _ _ true h5) (lastMarks2 h6 h7)⟩
    · cases h
  · cases h
theorem okQ_s {X : Cx} {E : WX} {sc : Scope} {cs : List Str} {m : Bool} {f : Expr → IE → Bool} (C : Ct g S T k X E N sc cs) (hf : ∀ e i m, f e i = true → PE X e (tEv g S E m i)) {e : Expr} {a b : IE} (h : okQ T f e a b = true) : PE X e (tEv g S E m (.oeq a b)) ∧ PT X e (tEvT g S E (.oeq a b)) := by
  unfold okQ at h
  split at h
  · rename_i l p0 r hv
    obtain ⟨p, rfl⟩ := vCmp1_e hv
    simp only [Bool.and_eq_true, Bool.not_eq_true'] at h
    obtain ⟨⟨⟨⟨h1, h2⟩, h3⟩, h4⟩, h5⟩ := h
    have hp : p0 = .Eq := by
      cases p0 <;> first | rfl | cases h1
    subst hp
    have hl := of_decide_eq_true h2
    have hu : X.A.units < cLine := Nat.lt_of_le_of_lt (Nat.le_add_right _ _) C.un
    exact ⟨s_oeq C.K (C.mts _ _ hl) (C.eqf hl) (C.room.mono (Nat.sub_le k 1)) hu (hf _ _ true h3) (hf _ _ true h4) (set_plain h5),
      t_oeq C.K (C.mts _ _ hl) (C.eqf hl) (C.room.mono (Nat.sub_le k 1)) hu (hf _ _ true h3) (hf _ _ true h4) (set_plain h5)⟩
  · cases h
theorem okT_s {n : Nat} (hE : AllE g S T k N n) (hT : AllT g S T k N n) (hW : AllW g S T k N n) : AllT g S T k N (n + 1) := by
  intro X E sc cs e ie C h
  have fE : ∀ e i m, okE T N n sc cs e i = true → PE X e (tEv g S E m i) := fun e i m h => hE X E sc cs m e i C h
  unfold okT at h
  split at h
  · rename_i hv
    obtain ⟨p, rfl⟩ := vBool1_e hv
    have q := hT X E sc cs _ ie C h
    rename_i o e1
    cases o with
    | And => exact (pw_and1 q).pt
    | Or => exact (pw_or1 q).pt
  · split at h
    · split at h
      · rename_i hv
        obtain rfl := vBool2_e hv
        rw [Bool.and_eq_true] at h
        exact (t_and (hT X E sc cs _ _ C h.1) (hW X E sc cs _ _ C h.2)).pt
      · cases h
    · split at h
      · rename_i hv
        obtain rfl := vBool2_e hv
        rw [Bool.and_eq_true] at h
        exact (t_or (hT X E sc cs _ _ C h.1) (hW X E sc cs _ _ C h.2)).pt
      · cases h
    · split at h
      · rename_i hv
        obtain ⟨p, rfl⟩ := vUn_e hv
        exact t_not (hT X E sc cs _ _ C h)
      · cases h
    · exact (okC_s (m := false) C fE h).2
    · exact (okC_s (m := false) C fE h).2
    · exact (okQ_s (m := false) C fE h).2
    · rw [Bool.and_eq_true, Bool.not_eq_true'] at h
      exact t_val (fE _ _ false h.2) h.1
theorem okW_s {n : Nat} (hT : AllT g S T k N n) (hW : AllW g S T k N n) : AllW g S T k N (n + 1) := by
  intro X E sc cs e ie C h
  unfold okW at h
  split at h
  · rename_i hv
    obtain ⟨p, rfl⟩ := vBool1_e hv
    have q := hT X E sc cs _ ie C h
    rename_i o e1
    cases o with
    | And => exact pw_and1 q
    | Or => exact pw_or1 q
  · split at h
    · split at h
      · rename_i hv
        obtain rfl := vBool2_e hv
        rw [Bool.and_eq_true] at h
        exact t_and (hT X E sc cs _ _ C h.1) (hW X E sc cs _ _ C h.2)
      · cases h
    · split at h
      · rename_i hv
        obtain rfl := vBool2_e hv
        rw [Bool.and_eq_true] at h
        exact t_or (hT X E sc cs _ _ C h.1) (hW X E sc cs _ _ C h.2)
      · cases h
    · cases h
theorem okE_s {n : Nat} (hE : AllE g S T k N n) (hT : AllT g S T k N n) : AllE g S T k N (n + 1) := by
  intro X E sc cs m e ie C h
  have fE : ∀ e i m, okE T N n sc cs e i = true → PE X e (tEv g S E m i) := fun e i m h => hE X E sc cs m e i C h
  have u1 : X.A.units + 1 < cLine := Nat.lt_of_le_of_lt (Nat.add_le_add_left (by decide) _) C.un
  unfold okE at h
  split at h
  · rename_i hv
    obtain ⟨p, rfl⟩ := vBool1_e hv
    exact s_one (fE _ ie m h)
  · split at h
    · split at h
      · rename_i hv
        obtain ⟨p, rfl⟩ := vName_e hv
        simp only [Bool.and_eq_true, Bool.not_eq_true'] at h
        obtain ⟨⟨⟨h1, h2⟩, h3⟩, h4⟩ := h
        exact s_var (C.var (of_decide_eq_true h1) h2 h3 h4)
      · cases h
    · exact con_pe C h
    · split at h
      · rename_i hv
        obtain ⟨p, rfl⟩ := vBin_e hv
        simp only [Bool.and_eq_true] at h
        exact op_pe h.1.1 (fE _ _ true h.1.2) (fE _ _ true h.2)
      · cases h
    · split at h
      · rename_i hv
        obtain ⟨p, rfl⟩ := vUn_e hv
        exact s_neg (fE _ _ false h)
      · cases h
    · exact (okC_s C fE h).1
    · exact (okC_s C fE h).1
    · exact (okQ_s C fE h).1
    · split at h
      · rename_i hv
        obtain rfl := vBool2_e hv
        rw [Bool.and_eq_true] at h
        exact s_and (fE _ _ false h.1) (fE _ _ false h.2)
      · cases h
    · split at h
      · rename_i hv
        obtain rfl := vBool2_e hv
        rw [Bool.and_eq_true] at h
        exact s_or (fE _ _ false h.1) (fE _ _ false h.2)
      · cases h
    · split at h
      · rename_i hv
        obtain ⟨p, rfl⟩ := vUn_e hv
        exact s_not (fE _ _ false h)
      · cases h
    · split at h
      · rename_i hv
        obtain ⟨p, rfl⟩ := vIf_e hv
        simp only [Bool.and_eq_true] at h
        exact s_ite (hT X E sc cs _ _ C h.1.1) (fE _ _ m h.1.2) (fE _ _ m h.2)
      · cases h
    · split at h
      · rename_i hv
        obtain ⟨p, rfl⟩ := vSub_e hv
        simp only [Bool.and_eq_true, Bool.not_eq_true'] at h
        exact s_ix u1 (fE _ _ true h.1.2) (fE _ _ false h.2) (ix_plain h.1.1)
      · cases h
    · split at h
      · rename_i hv
        obtain ⟨p, rfl⟩ := vSub_e hv
        split at h
        · rename_i hs
          obtain ⟨p2, e2⟩ := vSlice_e hs
          subst e2
          simp only [Bool.and_eq_true] at h
          exact s_slice (fE _ _ true h.1.1) (okO_p (fun e i h => fE e i false h) h.1.2) (okO_p (fun e i h => fE e i false h) h.2)
        · cases h
      · cases h
    · split at h
      · rename_i hv
        obtain ⟨kk, p, rfl⟩ := vTup_e hv
        exact s_tup (okL_a (fun e i h => fE e i false h) h).1
      · cases h
    · split at h
      · rename_i hv
        obtain ⟨p, rfl⟩ := vLst_e hv
        exact s_lst (okL_a (fun e i h => fE e i false h) h).1
      · cases h
    · obtain ⟨p, rfl⟩ := vDict0_e h
      exact s_dnew _
    · split at h
      · rename_i hv
        obtain ⟨p1, p, rfl⟩ := vCallN_e hv
        rename_i f es _ nm xs _
        simp only [Bool.and_eq_true, Bool.not_eq_true'] at h
        obtain ⟨⟨⟨h1, h2⟩, h3⟩, h4⟩ := h
        obtain ⟨q1, q2⟩ := okL_a (fun e i h => fE e i false h) h4
        have F := C.fns _ _ (of_decide_eq_true h1)
        cases xs with
        | nil =>
          cases es with
          | nil => exact s_call0 F (C.gl h2) h3 C.room C.tk
          | cons _ _ => cases h4
        | cons x xs => exact s_call F (C.gl h2) h3 C.room C.tk q1 q2
      · cases h
    · split at h
      · rename_i hv
        obtain ⟨a, p, rfl, hl⟩ := vCallM_e hv
        rename_i mm o es _ eo nm xs ln _
        simp only [Bool.and_eq_true, Bool.not_eq_true'] at h
        obtain ⟨⟨⟨⟨⟨h0, h1⟩, h2⟩, h3⟩, h4⟩, h5⟩ := h
        obtain ⟨q1, q2⟩ := okL_a (fun e i h => fE e i false h) h5
        refine s_meth (C.mts _ _ (of_decide_eq_true h1)) (fE _ _ false h4) h2 (C.room.mono (Nat.sub_le k 1)) C.tk q1 q2 (of_decide_eq_true h3) (hl.trans h0) ?_
        cases xs with
        | cons _ _ => exact .inl (by simp)
        | nil =>
          cases es with
          | nil => exact .inr rfl
          | cons _ _ => cases h5
      · cases h
    · split at h
      · rename_i hv
        obtain ⟨p, rfl⟩ := vAttr_e hv
        simp only [Bool.and_eq_true, Bool.not_eq_true'] at h
        exact s_fld (of_decide_eq_true h.1.1) C.cls (fE _ _ true h.2) h.1.2
      · cases h
    · split at h
      · rename_i hv
        obtain ⟨p1, p, rfl⟩ := vCallN_e hv
        simp only [Bool.and_eq_true, Bool.not_eq_true'] at h
        obtain ⟨⟨⟨⟨⟨h1, h2⟩, h3⟩, h4⟩, h5⟩, h6⟩ := h
        obtain rfl := eq_of_beq h1
        obtain ⟨p2, rfl⟩ := vName_e (of_decide_eq_true h4)
        exact s_isbool C h2 h3 h5 (fE _ _ true h6)
      · cases h
    · split at h
      · rename_i hv
        obtain ⟨p1, p, rfl⟩ := vCallN_e hv
        simp only [Bool.and_eq_true] at h
        obtain ⟨⟨⟨h1, h2⟩, h3⟩, h4⟩ := h
        obtain ⟨q1, q2⟩ := okL_v (fun e i h => fE e i true h) h4
        exact blt_pe C (of_decide_eq_true h1) (eq_of_beq h2) h3 q1 q2
      · cases h
    · split at h
      · rename_i hv
        obtain ⟨a, p, rfl, hl⟩ := vCallM_e hv
        simp only [Bool.and_eq_true, Bool.not_eq_true'] at h
        obtain ⟨⟨⟨⟨h0, h1⟩, h2⟩, h3⟩, h4⟩ := h
        obtain rfl := eq_of_beq h1
        obtain ⟨q1, q2⟩ := okL_v (fun e i h => fE e i true h) h4
        exact s_sm PySem.F.slot_str_join PySem.F.type_str_join mt_join m_join (fE _ _ false h3) h2 q1 q2 (by simp) (hl.trans h0)
      · cases h
    · split at h
      · rename_i hv
        obtain ⟨a, p, rfl, hl⟩ := vCallM_e hv
        simp only [Bool.and_eq_true, Bool.not_eq_true'] at h
        obtain ⟨⟨⟨⟨h0, h1⟩, h2⟩, h3⟩, h4⟩ := h
        obtain rfl := eq_of_beq h1
        obtain ⟨q1, q2⟩ := okL_v (fun e i h => fE e i true h) h4
        exact s_sm PySem.F.slot_str_index PySem.F.type_str_index mt_sindex m_index (fE _ _ false h3) h2 q1 q2 (by simp) (hl.trans h0)
      · cases h
    · split at h
      · rename_i hv
        obtain ⟨p, rfl⟩ := vLc_e hv
        rename_i ik ies t cond el vs _ ee tg it ifs scope _
        simp only [Bool.and_eq_true, Bool.not_eq_true'] at h
        obtain ⟨⟨⟨⟨⟨⟨h1, h2⟩, h3⟩, h4⟩, h5⟩, h6⟩, h7⟩ := h
        have ht : ∀ (s : Shared) (H : Hp) (A : Addr) (cl : List (Str × Addr)) (fp : List Addr), PTs (X.blk s H scope (compEnvC scope cl A X.env) fp) ifs (tTc g S E0 cond) := fun s H A cl fp => by
          split at h7
          · exact c_nil
          · exact c_one (hT _ E0 _ _ _ _ C.blk h7)
          · cases h7
        have q := s_lc (S := S) (E := E) (m := m) (own := ownOf N vs) (pos := p) (ifs := ifs) (cond := cond) C.calm (by rw [C.hN]; exact C.nd) (okI_i C (fun e i h => fE e i false h) h4) (by rw [C.hN, C.hsc]; exact blk_ok h1) (by rw [ownOf_snd]; exact of_decide_eq_true h2)
          (fun s H A cl fp => okTg_g (k := k) (S := S) (T := T) C.blk h5) ht (fun s H A cl fp => hE _ E0 _ _ false _ _ C.blk h6) h3
        rw [ownOf_snd] at q
        exact q
      · cases h
    · split at h
      · rename_i hv
        obtain ⟨p, rfl⟩ := vSub_e hv
        rename_i o f _ ea eb _
        rw [Bool.and_eq_true] at h
        obtain ⟨j, p2, rfl⟩ := vStr_e (of_decide_eq_true h.1)
        exact s_pget u1 (fE _ _ true h.2)
      · cases h
    · split at h
      · rename_i hv
        obtain ⟨p1, p, rfl⟩ := vCallN_e hv
        split at h
        · rename_i hn
          obtain ⟨p2, rfl⟩ := vName_e hn
          simp only [Bool.and_eq_true, Bool.not_eq_true'] at h
          obtain ⟨⟨⟨⟨⟨⟨h1, h2⟩, h3⟩, h4⟩, h5⟩, h6⟩, h7⟩ := h
          obtain rfl := eq_of_beq h1
          exact s_isa (C.isa _ _ (of_decide_eq_true h3)) (C.gl h2) (C.blt _ (by decide)) (C.gl h4) h5 h6 (fE _ _ true h7)
        · cases h
      · cases h
    · split at h
      · rename_i hv
        obtain ⟨p1, p, rfl⟩ := vCallN_e hv
        simp only [Bool.and_eq_true, Bool.not_eq_true'] at h
        obtain ⟨⟨⟨⟨h1, h2⟩, h3⟩, h4⟩, h5⟩ := h
        obtain rfl := eq_of_beq h1
        exact s_olen (C.mts _ _ (of_decide_eq_true h3)) C.room1 (C.gl h2) (C.blt _ (by decide)) (fE _ _ true h5) h4
      · cases h
    · cases h
theorem ok_all (n : Nat) : AllE g S T k N n ∧ AllT g S T k N n ∧ AllW g S T k N n := by
  induction n with
  | zero => exact ⟨fun X E sc cs m e ie C h => (by rw [okE] at h; cases h), fun X E sc cs e ie C h => (by rw [okT] at h; cases h), fun X E sc cs e ie C h => (by rw [okW] at h; cases h)⟩
  | succ n ih => exact ⟨okE_s ih.1 ih.2.1, okT_s ih.1 ih.2.1 ih.2.2, okW_s ih.2.1 ih.2.2⟩
end
end Bc
set_option Elab.async false
set_option linter.all false
set_option maxRecDepth 100000
set_option maxHeartbeats 4000000
/-! Part E. Own errors: super().__init__(text) in an __init__ over ValueError. -/
namespace Bc
open PySem PySem.Spec L2 PySem.W

/-- what the written part tells of an error's __init__ at f, of the class at C -/
structure SupF (prog : Program) (K : Frag) (C f cc cda : Addr) (fd : FuncData) (sn0 : Str) : Prop where
  oex : OexC K C
  fn : ∃ oc od osl, K.lookup f = some ⟨oc, od, .func fd, osl⟩
  par : ∃ ar : Arg, (fd.params.posonlyargs ++ fd.params.args).head? = some ar ∧ ar.arg = sn0
  code : ∃ ccl cdd ccs vs file tf, K.lookup cda = some ⟨ccl, cdd, .fields vs, ccs⟩ ∧ vs[2]? = some (.str file tf) ∧ ((prog.main.file : Str) == file) = true
  cell : ∃ cl cld csl, K.lookup cc = some ⟨cl, cld, .cell (some (.ref C)), csl⟩
  cls : ∃ cd, clsIn K C = some cd
  mro : mroIn K C (.ref C) = some true
  sup : ks_superIn K C C "__init__" = some (some (.builtin "ValueError.__init__"))
  ve : subIn K (.ref C) (.type "ValueError") = some true
  st : nsIn K cStatics "thirdparty.any" = some none
  top : (prog.main.scope.names.lookup ("super" : Str)).isSome = false
section
variable {X : Cx} {pins : List (Addr × Obj)} {σ : L2.St} {H : Hp} {s : Shared} {C f cc cda a : Addr} {fd : FuncData} {sn0 : Str}
theorem mw_call {Q : Value → Shared → Prop} {E : Value → Shared → Prop} {A : Around} {u : Addr} {rest : List Value} (T : OexC X.K C) (I : Inv X pins σ H s) (e : H a = some (exo a C none)) (hu : s.heap.get? u = some (kxs_mw "ValueError.__init__" a)) (hz : rest.length ≤ sizeLine)
    (h : ∀ s', Inv X pins σ H s' → Q .none s') : wpAny (model X.prog X.w) A (call (.ref u) rest) Q E s := by
  obtain ⟨nm, q, N, bs, bm, sn, sub, ab, col, dd, k0, k1, k2, k3, k5, hC, hbm⟩ := T.cls
  obtain ⟨t1, ho⟩ := exo_at I.hok e
  have fin : ∀ h', (∀ b o, b ≠ a → s.heap.get? b = some o → h'.get? b = some o) → h'.get? a = some (excObj C s.heap.objs.size none .none) → Q .none { s with heap := h' } := fun h' k hx => by
    have J := I.write (t' := s.toks) (x := a) (e := a) (o := exo a C none) (by rw [e]; exact True.intro) (.inl rfl) k ⟨_, hx⟩ (exo_ok hx)
    have eu : upd H a (exo a C none) = H := by
      funext b
      by_cases hb : b = a
      · rw [hb, upd_same, e]
      · rw [upd_ne hb]
    rw [eu] at J
    exact h _ J
  have hCs := I.kIn _ _ hC
  obtain ⟨hh, g, d, tk, os⟩ := s
  refine wpAny_call (codeAny_of_tree ?_)
  show wpAny _ A.in1 (callAny (.ref u) ⟨rest, []⟩) _ _ _
  simp only [callAny]
  refine wpAny_bind (wpAny_load hu ?_)
  simp only [kxs_mw, show (Value.type "method-wrapper" == Value.type "method" || Value.type "method-wrapper" == Value.type "builtin_function_or_method" || Value.type "method-wrapper" == Value.type "method-wrapper") = true by decide, if_true]
  refine KFB.if_so (by decide) ?_
  refine wpAny_bind (check_bound_init F.excBase_ValueError.toExcCallFacts hCs ho rfl ?_)
  refine wpAny_bind (wpAny_pure (wpAny_pure ?_))
  refine ⟨plainId_quiet F.excBase_ValueError.init.plain _, codeAny_builtin F.excBase_ValueError.initEntry ?_⟩
  exact exc_init_tree (cls := .ref C) (t0 := t1) (dv := none) (c2 := .none) (c3 := .none) (b4 := .bool false) ho hz fun h' k1 k2 _ => fin h' k1 k2
theorem meth_eqA {o : Expr} {nm : Str} {apos pos : Pos} {args : List Expr} {env : Env} (hf : methodCallForm (args.length + 0) (backTo pos (starEach args env)) (backToKw pos (keywordEach [] env)) = true) (hl : (apos.endLine == pos.line) = true) :
    eval (.Call (.Attribute o nm apos) args [] pos) env = (do
      let ov ← attributeBase o nm env (eval o env)
      standAt apos.atName
      let (f, first) ← holding [ov] (getMethod ov nm (do return (← importBound o env).getD true))
      callWith pos f first (backTo pos (starEach args env)) []) := by
  show (do
      let ov ← attributeBase o nm env (eval o env)
      standAt apos.atName
      methodCall o nm apos pos env ov (args.length + 0) (backTo pos (starEach args env)) (backToKw pos (keywordEach [] env))) = _
  unfold methodCall calleeOf methodCallPos
  rw [hf, hl]
  rfl
/-- super().__init__(text), a statement -/
theorem super_stmt {body : List Stmt} {qual : Str} {scope : Scope} {L : Addr} {m : Str} {j : Nat} {p0 p1 p2 p3 p4 p5 : Pos} {Q : Flow → Shared → Prop} (S : SupF X.prog X.K C f cc cda fd sn0) (henv : X.env = envX qual scope L f (.ref cda) [("__class__", cc)]) (hk : scope.kind = .function)
    (hks : scope.names.lookup ("super" : Str) = some .globalImplicit) (hkc : scope.names.lookup ("__class__" : Str) = some .free) (hka : scope.names.lookup sn0 = some .local) (hN : X.N[0]? = some sn0) (hm : X.mg "super" = none)
    (I : Inv X pins σ H s) (hσ : σ[0]? = some (some (.ref a))) (e : H a = some (exo a C none)) (hln : (p2.endLine == p4.line) = true) (h : ∀ s', Inv X pins σ H s' → Q .next s') :
    _root_.PySem.wpAt (model X.prog X.w) X.A (.func body X.env) (exec (.Expr (.Call (.Attribute (.Call (.Name "super" p0) [] [] p1) "__init__" p2) [.Constant (.str m) j p3] [] p4) p5) X.env) Q X.xe s := by
  obtain ⟨oc, od, osl, hf⟩ := S.fn
  obtain ⟨ar, hp, rfl⟩ := S.par
  obtain ⟨ccl, cdd, ccs, vs, file, tf, hcode, hvs, hfile⟩ := S.code
  obtain ⟨cl, cld, csl, hcell⟩ := S.cell
  obtain ⟨cd, hcd⟩ := S.cls
  have KX := I.kIn
  obtain ⟨t1, ho⟩ := exo_at I.hok e
  have IA : InstAt s.heap a ({ cls := .ref C, dict := none, data := .fields #[.ref t1, .none, .none, .none, .bool false, .none] } : Obj) C none := ⟨ho, rfl, rfl, trivial⟩
  obtain ⟨oD, hD1, hD2⟩ : ∃ oD, s.heap.get? C = some oD ∧ oD.data = .cls cd := by
    have z := hcd
    unfold clsIn at z
    split at z
    · rename_i c d cd' sl ho'
      cases z
      exact ⟨_, KX _ _ ho', rfl⟩
    · cases z
  have kk : ∀ x, X.env.kindOf x = scope.names.lookup x := fun x => by
    rw [henv]
    rfl
  have qt : interactive X.env = false := I.quiet
  refine ks_wpAt_Expr_any (ks_wpAt_MethodCall (args := [.Constant (.str m) j p3]) ?_ (meth_eqA (few_ok rfl (by simp)) hln)) qt rfl
  refine ks_wpAt_super_base (env := X.env) ((kk _).trans hks) ((kk _).trans hkc) (by decide +kernel) (by rw [henv]) (KX _ _ hf) rfl hp (by rw [henv]) (KX _ _ hcode) rfl hvs hfile S.top ?_
  obtain ⟨mb, hb1, hb2⟩ := I.mod.blt
  refine ks_loadName_global I.ok.kind ((kk _).trans hks) (Calls.loadGlobal_builtin (by rw [I.ok.glob]; exact I.mod.glob.keeps I.bk) hm (by rw [I.ok.blt]; exact hb1.keeps I.bk) ((hb2 "super" (by decide +kernel)).trans PyProof.Rows.Boot.«super») ⟨rfl, ?_⟩)
  refine wpAny_loadName_free I.ok.kind ((kk _).trans hkc) (by rw [henv]; rfl) ⟨_, KX _ _ hcell, rfl⟩ ?_
  obtain ⟨mL, hn, hl⟩ := id I.loc
  obtain ⟨u, ru, lk⟩ := hl 0 ar.arg (.ref a) hN hσ (.inl ((kk _).trans hka))
  obtain rfl : u = Value.ref a := ru
  have hmv : mL ar.arg = some (.ref a) := by
    rcases lk with ⟨_, z⟩ | ⟨z, _⟩
    · exact z
    · rw [kk, hka] at z
      rcases z with z | z <;> cases z
  refine wpAny_loadName_local I.ok.kind ((kk _).trans hka) hn hmv ?_
  obtain ⟨hh, g, d, t, os⟩ := s
  refine ks_wpAny_isType_cls hD1 hD2 ⟨rfl, ?_⟩
  refine ks_wpAny_call_super hD1 hD2 ho rfl (fun c z => by cases z) (looks_mroIn KX S.mro) (fun h' hso k => ?_)
  -- the super object stands
  have I1 : Inv X pins σ H ⟨h', g, d, t, os⟩ := I.kept (t' := t) k
  have KX1 := I1.kIn
  obtain ⟨t2, ho1⟩ := exo_at I1.hok e
  have IA1 : InstAt h' a ({ cls := .ref C, dict := none, data := .fields #[.ref t2, .none, .none, .none, .bool false, .none] } : Obj) C none := ⟨ho1, rfl, rfl, trivial⟩
  have hsup := S.sup
  unfold ks_superIn at hsup
  rw [hcd] at hsup
  refine kxs_getMethod kxs_ValueError hso (looks_opaque KX1 S.st) (l₀ := cd.mro) (fun A Q E s k q => wpAny_bind ((looks_clsIn KX1 hcd) A _ E s k (wpAny_pure q))) rfl KX1 hsup (IA1.type.andThen (looks_subIn KX1 S.ve)) (ks_ne KX1 IA1 hcd) (by decide +kernel) ?_
  have I2 : Inv X pins σ H ⟨h'.push (kxs_mw "ValueError.__init__" a), g, d, t + 1, os⟩ := I1.kept (t' := t + 1) fun b o z => Heap.get?_push_of_some _ z
  have hu : (h'.push (kxs_mw "ValueError.__init__" a)).get? h'.objs.size = some (kxs_mw "ValueError.__init__" a) := Heap.get?_push_size _ rfl
  refine kxs_callWith (i := "ValueError.__init__") (x := a) rfl (Calls.evalArgs_plain ?_)
  refine PyProof.Rows.args_cons (Calls.Constant_str (PyProof.Rows.args_nil ?_)) rfl
  exact ⟨hu, mw_call S.oex (I2.tok _) e hu (by show 1 ≤ sizeLine; decide) fun s' J => h s' J⟩
end
end Bc
set_option Elab.async false
set_option linter.all false
set_option maxRecDepth 100000
set_option maxHeartbeats 4000000
/-! Part E2. The promise of an own error's __init__; raise. -/
namespace Bc
open PySem PySem.Spec L2 PySem.W

/-- the parts of super().__init__(text) -/
def isSuper (st : Stmt) : Bool := match st with
  | .Expr (.Call (.Attribute (.Call (.Name s _) [] [] _) i p2) [.Constant (.str _) _ _] [] p4) _ => s == "super" && i == "__init__" && p2.endLine == p4.line
  | _ => false
/-- self.f = v by names -/
def isSelfSet (st : Stmt) (self v f : Str) : Bool := match st with
  | .Assign [.Attribute (.Name a _) g _] (.Name b _) _ => a == self && b == v && g == f
  | _ => false
/-- an error with one field: what its __init__ promises -/
def spErr (C : Addr) (fld : Str) : Sp := fun vs H' Q _ => ∃ (H : Hp) (a : Addr) (v : V), vs = [.ref a, v] ∧ H' = upd H a (exo a C none) ∧ H a = none ∧ ∀ dx, H dx = none → dx ≠ a → Q .non (upd (upd H' dx (exd dx [(fld, v)])) a (exo a C (some dx)))
/-- what the text tells of the __init__ of such an error -/
structure ErrF (P : Program) (K : Frag) (mg : Str → Option Value) (C f : Addr) (fld : Str) : Prop where
  ex : ∃ (F : NdefX.NF) (cc : Addr) (sn pn : Str) (oc : Value) (od : Option Addr) (osl : Array (Option Value)) (doc pm ctv : Value) (s1 s2 : Stmt), F.cl = ([("__class__", cc)] : List (Str × Addr)) ∧ F.body = [s1, s2] ∧ isSuper s1 = true ∧ isSelfSet s2 sn pn fld = true ∧
    K.lookup f = some ⟨oc, od, .func (F.fd doc pm ctv), osl⟩ ∧ codeIn K (.ref F.c) F.qual = true ∧ SupF P K C f cc F.c (F.fd doc pm ctv) sn ∧ NdefX.NScope [sn, pn, "__class__"] [sn, pn] ["__class__"] F.scope ∧ F.scope.names.lookup ("super" : Str) = some .globalImplicit ∧
    dbgB sn = false ∧ dbgB pn = false ∧ (sn == ("__classdict__" : Str)) = false ∧ (pn == ("__classdict__" : Str)) = false ∧
    findIn K (.ref C) fld = some none ∧ mg "super" = none ∧ Binds K (F.fd doc pm ctv) [sn, pn] [] ∧ findIn K (.ref C) "__init__" = some (some (.ref f)) ∧ typeIn K (.ref f) = some (.type "function")
section
variable {P : Program} {w : World} {K : Frag} {mg : Str → Option Value} {base : Heap}
theorem err_ok {C f : Addr} {fld : Str} (h : ErrF P K mg C f fld) : ∃ fd ps, FnOk P w K mg base (L2.CX P w) 1 f fd ps (spErr C fld) ∧ Binds K fd ps [] := by
  obtain ⟨F, cc, sn, pn, oc, od, osl, doc, pm, ctv, s1, s2, hcl, hbody, hs1, hs2, lk, hcd, SF, S, hsup, d1, d2, d3, d4, hno, hmS, hb, _, _⟩ := h
  refine ⟨_, [sn, pn], ⟨fun vs H Q E h => ?_, fun A outer s H' args us vs Q E hr e0 hbd r hsp => ?_⟩, hb⟩
  · obtain ⟨H, a, v, rfl, _⟩ := h
    rfl
  · obtain ⟨H, a, v, rfl, rfl, ha, hk⟩ := hsp
    have KB := e0.mod.kin
    have KX : K.In s.heap := KB.keeps fun b o e => (e0.bs b o e).1
    have lim : s.heap.NoLimit := e0.mod.nolimit.keeps fun b o e => (e0.bs b o e).1
    refine codeAny_call_function hr.depth (KX _ _ lk) rfl S.co S.gen rfl (codeRec_of KX hcd) (hbd _ _ _ _ ?_)
    refine wpAny_newFunctionEnv S.nocell (fun ⟨n, _⟩ hy => S.par n (List.of_mem_zip hy).1) (fun h₁ hns hsb => ⟨lim.fresh _ hsb, ?_⟩) S.kind
    show codeAny _ _ (.func F.body (NdefX.envF F f s.heap.objs.size)) _ _
    refine ks_codeAny_funcAt ?_
    have kp : ∀ b o, s.heap.get? b = some o → h₁.get? b = some o := fun b o e => hsb.extBut b o (Nat.ne_of_lt (Heap.lt_size e)) (Heap.get?_push_of_some _ e)
    obtain ⟨cl, cld, csl, hcell⟩ := SF.cell
    have Cs : NdefX.CellsAt F.cl ["__class__"] [none] s.heap (upd H a (exo a C none)) := by
      rw [hcl]
      refine ⟨rfl, fun y c e => ?_, fun x y c e1 e2 => ?_, fun i y e => ?_⟩
      · have : c = cc := by
          rw [List.lookup_cons] at e
          split at e
          · exact (Option.some.inj e).symm
          · cases e
        subst this
        exact ⟨(e0.bs _ _ (KB _ _ hcell)).2, _, _, KX _ _ hcell, rfl⟩
      · have hx : ∀ {z : Str}, ([("__class__", cc)] : List (Str × Addr)).lookup z = some c → z = ("__class__" : Str) := fun {z} q => by
          rw [List.lookup_cons] at q
          by_cases hz : (z == "__class__") = true
          · exact eq_of_beq hz
          · rw [Bool.eq_false_iff.2 hz] at q
            cases q
        rw [hx e1, hx e2]
      · cases i with
        | zero =>
          cases e
          exact ⟨cc, rfl, fun v z => by cases z⟩
        | succ i => simp at e
    have I : Inv (NdefX.ncx (L2.CX P w) P w K mg base [sn, pn, "__class__"] F f A outer s (upd H a (exo a C none)) E) [] (NdefX.startF [sn, pn, "__class__"] [.ref a, v] [none]) (upd H a (exo a C none)) { s with heap := h₁, toks := s.toks + ([sn, pn].zip us).length } :=
      NdefX.inv_startN S hr.hd e0 rfl r Cs hns kp
    generalize hX : NdefX.ncx (L2.CX P w) P w K mg base [sn, pn, "__class__"] F f A outer s (upd H a (exo a C none)) E = X at I
    have fin : ∀ {s' : Shared} {σ' : L2.St} {H' : Hp} {v : V} {u : Value}, Inv X [] σ' H' s' → RelV v u → Q v H' → CE outer P w (upd H a (exo a C none)) s Q u s' := fun {s' σ' H' v u} J rv q => by
      subst hX
      exact ⟨v, H', J.os, J.bare, J.base, J.hok, rv, q⟩
    have l0 := S.par sn (by simp)
    have l1 := S.par pn (by simp)
    -- the first statement
    unfold isSuper at hs1
    split at hs1
    · rename_i sN p0 p1 iN p2 m j p3 p4 p5
      simp only [Bool.and_eq_true] at hs1
      obtain ⟨⟨e1, e2⟩, hln⟩ := hs1
      obtain rfl := eq_of_beq e1
      obtain rfl := eq_of_beq e2
      unfold isSelfSet at hs2
      split at hs2
      · rename_i aN q1 gN q2 bN q3 q4
        simp only [Bool.and_eq_true] at hs2
        obtain ⟨⟨e3, e4⟩, e5⟩ := hs2
        obtain rfl := eq_of_beq e3
        obtain rfl := eq_of_beq e4
        obtain rfl := eq_of_beq e5
        rw [hbody]
        have hvis : ∀ x, F.scope.names.lookup x = some .local → Vis X.env.scope x := fun x hx => by
          subst hX
          exact .inl hx
        have rest : PSs X [.Assign [.Attribute (.Name aN q1) gN q2] (.Name bN q3) q4] _ := pss_one (ps_ost (pe_var (i := 0) (by subst hX; rfl) (hvis _ l0) d1 d3) (pe_var (i := 1) (by subst hX; rfl) (hvis _ l1) d2 d4))
        let QQ : Flow → Shared → Prop := fun f s' => CR (L2.CX P w) outer P w (upd H a (exo a C none)) s Q E (.ok (.ret (match f with | .ret v => v | _ => .none))) s'
        have sup := super_stmt (X := X) (pins := []) (σ := NdefX.startF [aN, bN, "__class__"] [.ref a, v] [none]) (H := upd H a (exo a C none)) (s := { s with heap := h₁, toks := s.toks + ([aN, bN].zip us).length }) (C := C) (f := f) (cc := cc) (cda := F.c) (a := a) (fd := F.fd doc pm ctv) (sn0 := aN)
          (body := F.body) (qual := F.qual) (scope := F.scope) (L := s.heap.objs.size) (m := m) (j := j) (p0 := p0) (p1 := p1) (p2 := p2) (p3 := p3) (p4 := p4) (p5 := p5)
          (Q := fun fl s' => match fl with
            | .next => _root_.PySem.wpAt (model X.prog X.w) X.A (.func F.body X.env) (execs [.Assign [.Attribute (.Name aN q1) gN q2] (.Name bN q3) q4] X.env) QQ X.xe s'
            | f => QQ f s')
          (by subst hX; exact SF) (by subst hX; rw [← hcl]; rfl) S.kind hsup (S.frk _ (by simp)) l0 (by subst hX; rfl) (by subst hX; exact hmS) I rfl upd_same hln (fun s' J => ?_)
        · have big := ks_wpAt_execs_cons (M := model X.prog X.w) (A := X.A) (c := .func F.body X.env) (E := X.xe) (env := X.env) (rest := [.Assign [.Attribute (.Name aN q1) gN q2] (.Name bN q3) q4]) (Q := QQ) sup
          have hA : X.A = A.deeper (NdefX.envF F f s.heap.objs.size) := by
            subst hX
            rfl
          have hEnv : X.env = NdefX.envF F f s.heap.objs.size := by
            subst hX
            rfl
          have hxe : X.xe = fun e s' => wpAny (model P w) (A.deeper (NdefX.envF F f s.heap.objs.size)) (leaving (NdefX.envF F f s.heap.objs.size) e) (fun _ s'' => L2.CX P w outer (upd H a (exo a C none)) s E e s'') (fun e' s'' => L2.CX P w outer (upd H a (exo a C none)) s E e' s'') s' := by
            subst hX
            rfl
          have hP : X.prog = P := by
            subst hX
            rfl
          have hW : X.w = w := by
            subst hX
            rfl
          rw [hA, hEnv, hxe, hP, hW, hbody] at big
          exact big
        · refine wpAt_of_wpAny ?_
          have hP : X.prog = P := by
            subst hX
            rfl
          have hW : X.w = w := by
            subst hX
            rfl
          have run := rest.run [] s' _ _ { nx := fun _ H' => Q .non H', rt := Q } J ?_
          · refine wpAny_mono run (fun fl s2 hs => ?_) fun e s2 hs => hs
            cases fl with
            | ret u =>
              obtain ⟨v, σ', H2, J2, rv, q⟩ := hs
              exact fin J2 rv q
            | next =>
              obtain ⟨σ', H2, J2, q⟩ := hs
              exact fin (v := V.non) (u := Value.none) J2 rfl q
            | brk =>
              obtain ⟨_, _, _, q⟩ := hs
              exact False.elim q
            | cont =>
              obtain ⟨_, _, _, q⟩ := hs
              exact False.elim q
          · refine ⟨v, rfl, .ref a, rfl, a, C, rfl, by subst hX; exact SF.oex, by subst hX; exact hno, .inl ⟨upd_same, fun dx hdx ne => ?_⟩⟩
            rw [upd_ne ne] at hdx
            exact hk dx hdx ne
      · cases hs2
    · cases hs1
end
end Bc
set_option Elab.async false
set_option linter.all false
set_option maxRecDepth 100000
set_option maxHeartbeats 4000000
/-! Part E3. raise C(e) of an own error with one field. -/
namespace Bc
open PySem PySem.Spec L2

/-- the own error c at hand under a name -/
structure ErAt (X : Cx) (g : GE) (c : Nat) (nm : Str) : Prop where
  ex : ∃ fI fd ps fld, OexC X.K (g.exc c) ∧ PySem.W.findIn X.K (.ref (g.exc c)) "__init__" = some (some (.ref fI)) ∧ PySem.W.typeIn X.K (.ref fI) = some (.type "function") ∧
    FnOk X.prog X.w X.K X.mg X.base (L2.CX X.prog X.w) 1 fI fd ps (spErr (g.exc c) fld) ∧ Binds X.K fd ps [] ∧ X.mg nm = some (.ref (g.exc c)) ∧ efT c = some fld
section
variable {X : Cx} {g : GE} {S : Sem} {E : WX} {pos pos' p : Pos}
theorem del_end {H : Hp} {a d : Addr} {x y z : HO} (ha : H a = none) (hne : d ≠ a) {fs : List (Str × V)} : upd (del (upd (upd (upd H a x) d y) a z) a) d (.xd fs) = upd H d (.xd fs) := by
  funext b
  by_cases h1 : b = d
  · rw [h1, upd_same, upd_same]
  · rw [upd_ne h1, upd_ne h1]
    by_cases h2 : b = a
    · rw [h2, del_same, ha]
    · rw [del_ne h2, upd_ne h2, upd_ne h1, upd_ne h2]
theorem evs_one {ie : IE} {σ : Sto} {p p' : Pen} {ds : List D} (h : evs S [ie] σ p = some (.ok ds, p')) : ∃ d, ds = [d] := by
  rw [evs] at h
  rcases M.bind_ok h with ⟨o, p1, h1, h2⟩ | ⟨e, p1, h1, h2⟩
  · rw [evs] at h2
    cases h2
    exact ⟨_, rfl⟩
  · cases h2
theorem _root_.Bc.After.one {F H : Hp} {E : XK} {ie : IE} {σ : Sto} {p : Pen} {K K' : List D → Pen → Hp → Hp → Prop} (h : After g F H E (evs S [ie] σ p) K) (k : ∀ d p F' H', Stp g F H F' H' → PenAt g F' H' p → K [d] p F' H' → K' [d] p F' H') : After g F H E (evs S [ie] σ p) K' := by
  obtain ⟨⟨r, p'⟩, h1, h2⟩ := h
  cases r with
  | ok ds =>
    obtain ⟨d, rfl⟩ := evs_one h1
    exact ⟨_, h1, fun F' H' s q => k d p' F' H' s q (h2 F' H' s q)⟩
  | error x => exact ⟨_, h1, h2⟩
theorem s_raise {c : Nat} {nm : Str} {e : Expr} {ie : IE} (er : ErAt X g c nm) (hc : X.calm = true) (hr : Room 2 X.A) (hg : Gl X nm) (hdb : (nm == ("__debug__" : Str)) = false) (tk : Takes X E) (ha : PA X [e] (tEvs g S E [ie])) (hs : isStarE e = false) :
    PS X (.Raise (some (.Call (.Name nm p) [e] [] pos)) none pos') (tSt g E (ex S (.raise_ c [ie]))) := by
  obtain ⟨fI, fd, ps, fld, T, iC, tI, F1, hb, hm, hf⟩ := er.ex
  have pm : PMk X (.Call (.Name nm p) [e] [] pos) (tMkO (g.exc c) (spErr (g.exc c) fld) [] (tEvs g S E [ie])) :=
    pmk_oex T iC tI F1 hr hb .nil (passes_call (W := E) tk fun _ _ _ _ z => False.elim z) hg hm ha hdb (star_eq hs) (star_plain rfl)
  refine (ps_raise hc tk pm).weak fun D σV H ⟨F0, H0, F, σO, pn, A, h⟩ => ?_
  rw [ex] at h
  refine ⟨F0, H0, F, σO, pn, A, (h.bind.ev A.base).one fun d p F1 H1 s1 p1 k vs rv => ?_⟩
  have bs := A.base.trans p1.1 s1
  obtain ⟨q, hq, k2⟩ := k
  cases hq
  cases rv with
  | cons r1 r0 =>
    cases r0
    rename_i v
    refine ⟨Nat.le_add_left 1 999, fun a ha => ⟨H1, a, v, rfl, rfl, ha, fun dx hdx hne => ?_⟩⟩
    obtain ⟨s2, p2⟩ := alloc (o := .xd [(fld, v)]) s1.fh p1 hdx
    refine ⟨rfl, dx, [(fld, v)], upd_same, ?_, hdx, ?_⟩
    · rw [upd_ne hne, upd_same]
    · rw [del_end ha hne]
      exact k2 _ _ F1 _ (bs.trans p2.1 s2) p2 ⟨rfl, fld, dx, v, hf, rfl, upd_same, r1⟩
end
end Bc
set_option Elab.async false
set_option linter.all false
set_option maxRecDepth 100000
set_option maxHeartbeats 4000000
/-! Part E4. What a handler's terms tell; try around one statement. -/
namespace Bc
open PySem PySem.Spec L2

section
variable {X : Cx} {g : GE} {S : Sem} {E : WX} {pos pos' p : Pos}
theorem xd_pen {F H : Hp} {pn : Pen} (q : PenAt g F H pn) {a : Addr} {fs : List (Str × V)} (h : H a = some (.xd fs)) : a ≠ g.pa := fun z => by
  obtain ⟨_, ca, h1, _⟩ := q
  rw [z, h1] at h
  cases h
theorem ExcAt.step {F H F' H' : Hp} {pn : Pen} {e : Exc} {c : Value} {d : Option Addr} (q : PenAt g F H pn) (s : Stp g F H F' H') (h : ExcAt g F H e c d) : ExcAt g F' H' e c d := by
  refine ⟨h.1, ?_⟩
  have h2 := h.2
  cases hf : e.f with
  | none => trivial
  | some dd =>
    rw [hf] at h2
    obtain ⟨n, ad, v, q1, q2, q3, q4⟩ := h2
    exact ⟨n, ad, v, q1, q2, s.keep _ _ (xd_pen q q3) q3, q4.mono s.ff⟩
/-- the caught error's term f, read -/
def tHE (g : GE) (i : Option Nat) (c0 : Nat) (a : Addr) (cls : Value) (d : Option Addr) (f : Exc → Option D) : TE := fun σV H Q => ∃ F pn e r, Same F H ∧ PenAt g F H pn ∧ ExcAt g F H e cls d ∧ (c0 = 8 ∨ e.c = c0) ∧ (∀ j, i = some j → σV[j]? = some (some (.ref a))) ∧ f e = some r ∧
  ∀ F' H', Stp g F H F' H' → PenAt g F' H' pn → ∀ v, Rep g F' r v → Q v H'
def hevL (fs : List (Exc → Option D)) (e : Exc) : Option (List D) := match fs with
  | [] => some []
  | f :: fs => match f e, hevL fs e with
    | some d, some ds => some (d :: ds)
    | _, _ => none
def tHEs (g : GE) (i : Option Nat) (c0 : Nat) (a : Addr) (cls : Value) (d : Option Addr) (fs : List (Exc → Option D)) : TA := fun σV H Q => ∃ F pn e rs, Same F H ∧ PenAt g F H pn ∧ ExcAt g F H e cls d ∧ (c0 = 8 ∨ e.c = c0) ∧ (∀ j, i = some j → σV[j]? = some (some (.ref a))) ∧ hevL fs e = some rs ∧
  ∀ F' H', Stp g F H F' H' → PenAt g F' H' pn → ∀ vs, Reps g F' rs vs → Q vs H'
variable {i : Option Nat} {c0 : Nat} {a : Addr} {cls : Value} {d : Option Addr}
theorem h_str {x : Str} {t : List Nat} {j : Nat} (hx : x = ⟨t.toArray⟩) : PE X (.Constant (.str x) j pos) (tHE g i c0 a cls d fun _ => some (.str t)) := pe_str.weak fun σ H Q ⟨F, pn, e, r, h1, h2, h3, h4, h5, h6, k⟩ => by
  cases h6
  have := k F H (Stp.refl h1) h2 _ (.str t)
  rw [← hx] at this
  exact this
theorem h_fld {i : Nat} {oe : Obj} {pn : List (Addr × Obj)} {nm fld : Str} {np : Pos} (T : XfC X.K (g.exc c0)) (hno : PySem.W.findIn X.K (.ref (g.exc c0)) fld = some none) (h8 : c0 ≠ 8) (hf : efT c0 = some fld)
    (hz : Zc cls d oe) (hd : ∃ vs, oe.data = .fields vs) (hN : X.N[i]? = some nm) (hv : Vis X.env.scope nm) (hdb : (nm == ("__debug__" : Str)) = false) (hcd : (nm == ("__classdict__" : Str)) = false) :
    PE (X.suite a ((a, oe) :: pn)) (.Attribute (.Name nm np) fld pos) (tHE g (some i) c0 a cls d fun e => e.f) :=
  (pe_xf (pn := pn) T hno hz hd (pe_var (X := X.suite a ((a, oe) :: pn)) hN hv hdb hcd) rfl).weak fun σ H Q ⟨F, p, e, r, h1, h2, h3, h4, h5, h6, k⟩ => by
    have h4 : e.c = c0 := by
      rcases h4 with h4 | h4
      · exact absurd h4 h8
      · exact h4
    have q := h3.2
    rw [show e.f = some r from h6] at q
    obtain ⟨n, ad, v, q1, q2, q3, q4⟩ := q
    refine ⟨_, h5 i rfl, rfl, ?_, ad, _, v, q2, q3, ?_, k F H (Stp.refl h1) h2 v q4⟩
    · rw [h3.1, h4]
    · rw [h4, hf] at q1
      cases q1
      rw [List.lookup_cons, beq_self_eq_true]
theorem ha_nil : PA X [] (tHEs g i c0 a cls d []) := pa_nil.weak fun σ H Q ⟨F, pn, e, r, h1, h2, h3, h4, h5, h6, k⟩ => by
  cases h6
  exact k F H (Stp.refl h1) h2 [] .nil
theorem ha_cons {ea : Expr} {es : List Expr} {f : Exc → Option D} {fs : List (Exc → Option D)} (hs : isStarE ea = false) (ha : PE X ea (tHE g i c0 a cls d f)) (hr : PA X es (tHEs g i c0 a cls d fs)) : PA X (ea :: es) (tHEs g i c0 a cls d (f :: fs)) :=
  (pa_cons ha hr (star_eq hs)).weak fun σ H Q ⟨F, pn, e, rs, h1, h2, h3, h4, h5, h6, k⟩ => by
    rw [hevL] at h6
    split at h6
    · rename_i d1 ds1 e1 e2
      cases h6
      refine ⟨F, pn, e, d1, h1, h2, h3, h4, h5, e1, fun F1 H1 s1 p1 v r1 => ?_⟩
      refine ⟨F1, pn, e, ds1, s1.fh, p1, h3.step h2 s1, h4, h5, e2, fun F2 H2 s2 p2 vs r2 => ?_⟩
      exact k F2 H2 (s1.trans p2.1 s2) p2 _ (.cons (r1.mono s2.ff) r2)
    · cases h6
theorem h_tup {es : List Expr} {fs : List (Exc → Option D)} {x1 : Nat} (hl : fs.length ≤ 100) (ha : PA X es (tHEs g i c0 a cls d fs)) : PE X (.Tuple es x1 pos) (tHE g i c0 a cls d fun e => (hevL fs e).map .tup) :=
  (pe_tup ha).weak fun σ H Q ⟨F, pn, e, r, h1, h2, h3, h4, h5, h6, k⟩ => by
    rw [Option.map_eq_some_iff] at h6
    obtain ⟨rs, h7, rfl⟩ := h6
    have len : ∀ {fs : List (Exc → Option D)} {rs : List D}, hevL fs e = some rs → rs.length = fs.length := by
      intro fs
      induction fs with
      | nil =>
        intro rs h
        cases h
        rfl
      | cons f fs ih =>
        intro rs h
        rw [hevL] at h
        split at h
        · rename_i e1 e2
          cases h
          rw [List.length_cons, List.length_cons, ih e2]
        · cases h
    refine ⟨F, pn, e, rs, h1, h2, h3, h4, h5, h7, fun F1 H1 s1 p1 vs r1 => ⟨?_, fun t ht => ?_⟩⟩
    · rw [← r1.length, len h7]
      exact Nat.le_trans hl (by decide)
    · obtain ⟨s2, p2⟩ := allocF (o := .tup vs) s1.fh p1 ht
      exact k _ _ (s1.trans p2.1 s2) p2 _ (.tup upd_same (r1.mono s2.ff))
end
end Bc
set_option Elab.async false
set_option linter.all false
set_option maxRecDepth 100000
set_option maxHeartbeats 4000000
/-! Part E5. try around one statement. -/
namespace Bc
open PySem PySem.Spec L2

section
variable {g : GE} {F0 H0 F H : Hp} {E : XK} {α β : Type}
/-- behind one statement; an error counts from where the statement began -/
def After1 (g : GE) (F0 H0 F H : Hp) (E : XK) {α : Type} (r : Option (Except Exc α × Pen)) (K : α → Pen → Hp → Hp → Prop) : Prop := ∃ q, r = some q ∧ match q with
  | (.ok a, p) => ∀ F' H', Stp g F0 H0 F' H' → PenAt g F' H' p → Same F F' → K a p F' H'
  | (.error x, p) => ∀ c d F' H', Stp g F H F' H' → PenAt g F' H' p → ExcAt g F' H' x c d → E c d H'
theorem After1.ev {x : M α} {k : α → β} {pn : Pen} {K : β → Pen → Hp → Hp → Prop} (h : After1 g F0 H0 F H E (M.bind x (fun o => M.ret (k o)) pn) K) (s : Stp g F0 H0 F H) : After g F H E (x pn) fun o p F' H' => K (k o) p F' H' := by
  obtain ⟨q, hq, h2⟩ := h
  rcases M.bind_ok hq with ⟨a, p, h3, h4⟩ | ⟨e, p, h3, h4⟩
  · cases h4
    exact ⟨_, h3, fun F' H' s' q => h2 F' H' (s.trans q.1 s') q s'.ff⟩
  · subst h4
    exact ⟨_, h3, fun c d F' H' s' q ex => h2 c d F' H' s' q ex⟩
end
def tSx (g : GE) (W : WX) (f : Sto → M (Fl × Sto)) : TS := fun D σV H => ∃ F0 H0 F σO pn, Abs g F0 H0 σV H F σO pn ∧ After1 g F0 H0 F H (WE W σV) (f σO pn) (fin g F0 H0 D)
section
variable {X : Cx} {g : GE} {S : Sem} {E : WX} {pos pos' p : Pos}
theorem sx_asg {e : Expr} {ie : IE} {i : Nat} {x : Str} (hN : X.N.Nodup) (hi : X.N[i]? = some x) (hx : Loc X.env.scope x) (hf : X.fn x = true ∨ X.env.scope.names.lookup x = some .local) (hs : isCompE e = false) (he : PE X e (tEv g S E false ie)) :
    PS X (.Assign [.Name x pos'] e pos) (tSx g E (ex S (.asg i ie))) := (ps_set hN hi hx he (swap_none hs) hf).weak fun D σV H ⟨F0, H0, F, σO, pn, A, h⟩ => by
  rw [ex] at h
  exact ⟨F0, H0, F, σO, pn, A, (h.ev A.base).imp fun o p F1 H1 s1 p1 k v f n => k _ (A.put s1 p1 n.toNew)⟩
theorem sx_expr {e : Expr} {ie : IE} (he : PE X e (tEv g S E false ie)) (hs : isCompE e = false) : PS X (.Expr e pos) (tSx g E (ex S (.expr ie))) := (ps_expr he (swap_none hs)).weak fun D σV H ⟨F0, H0, F, σO, pn, A, h⟩ => by
  rw [ex] at h
  exact ⟨F0, H0, F, σO, pn, A, (h.ev A.base).imp fun o p F1 H1 s1 p1 k v f n => k σV (A.step s1 p1)⟩
theorem sx_ret {e : Expr} {ie : IE} (he : PE X e (tEv g S E false ie)) : PS X (.Return (some e) pos) (tSx g E (ex S (.ret ie))) := (ps_ret he).weak fun D σV H ⟨F0, H0, F, σO, pn, A, h⟩ => by
  rw [ex] at h
  refine ⟨F0, H0, F, σO, pn, A, (h.ev A.base).all fun o p k F1 H1 s1 p1 v f n => ?_⟩
  obtain ⟨F', s1', p1', r1, sm⟩ := n.frz s1 p1
  exact k F' H1 s1' p1' v r1
/-- the handler's one statement -/
def tHS (g : GE) (i : Option Nat) (c : Nat) (a : Addr) (cls : Value) (d : Option Addr) (h : HS) : TS := fun D σ H => match h with
  | .ret x => tHE g i c a cls d (hev x) σ H D.rt
  | .asg j x => tHE g i c a cls d (hev x) σ H fun v H1 => D.nx (σ.set j (some v)) H1
theorem exs_one {s : IS} {σ : Sto} {p : Pen} : exs S [s] σ p = ex S s σ p := by
  rw [exs]
  unfold M.bind
  cases ex S s σ p with
  | none => rfl
  | some q =>
    obtain ⟨r, p'⟩ := q
    cases r with
    | error e => rfl
    | ok r =>
      obtain ⟨fl, σ'⟩ := r
      cases fl with
      | nx =>
        show exs S [] σ' p' = _
        rw [exs]
        rfl
      | rt d => rfl
      | bk => rfl
      | ct => rfl
theorem try_go {cls : Value} {d : Option Addr} {c i : Nat} {hh : HS} {D : Ends} {F0 H0 F H F1 H1 : Hp} {σV : L2.St} {σO : Sto} {pn p1 : Pen} {e : Exc} {q : Except Exc (Fl × Sto) × Pen} (A : Abs g F0 H0 σV H F σO pn) (s : Stp g F H F1 H1) (pp : PenAt g F1 H1 p1) (x : ExcAt g F1 H1 e cls d) (hc : c = e.c ∨ c = 8)
    (hi : i < σV.length) (a : Addr) (hq : ((hh.run e (clrO (some i) σO)).map fun r => ((.ok (r.1, clrO (some i) r.2), p1) : Except Exc (Fl × Sto) × Pen)) = some q) (k : Res g F0 H0 (WE E σV) (fun a p F' H' => Same F F' → fin g F0 H0 D a p F' H') q) :
    tHS g (some i) c a cls d hh { nx := fun σ' H' => D.nx (σ'.set i none) H', rt := D.rt, bk := fun σ' H' => D.bk (σ'.set i none) H', ct := fun σ' H' => D.ct (σ'.set i none) H' } (σV.set i (some (.ref a))) H1 := by
  have hc' : c = 8 ∨ e.c = c := hc.symm.imp id fun z => z.symm
  have sl : ∀ j, some i = some j → (σV.set i (some (V.ref a)))[j]? = some (some (.ref a)) := fun j z => by
    cases z
    exact List.getElem?_set_self hi
  rw [Option.map_eq_some_iff] at hq
  obtain ⟨r, h1, rfl⟩ := hq
  unfold HS.run at h1
  cases hh with
  | ret t =>
    dsimp only at h1
    rw [Option.map_eq_some_iff] at h1
    obtain ⟨dd, h2, rfl⟩ := h1
    exact ⟨F1, p1, e, dd, s.fh, pp, x, hc', sl, h2, fun F2 H2 s2 p2 v rv => k F2 H2 (A.base.trans p2.1 (s.trans p2.1 s2)) p2 (s.ff.trans s2.ff) v rv⟩
  | asg j t =>
    dsimp only at h1
    rw [Option.map_eq_some_iff] at h1
    obtain ⟨dd, h2, rfl⟩ := h1
    refine ⟨F1, p1, e, dd, s.fh, pp, x, hc', sl, h2, fun F2 H2 s2 p2 v rv => k F2 H2 (A.base.trans p2.1 (s.trans p2.1 s2)) p2 (s.ff.trans s2.ff) _ ?_⟩
    exact (((A.step s pp).clear (i := i) (x := some (.ref a))).put s2 p2 (NewOwn.fz rv)).clear
theorem s_try {st hst : Stmt} {ib : IS} {c i : Nat} {nm n : Str} {hh : HS} {np : Pos} (hs : X.stack = X.env :: X.outer) (hf : X.env.frame = some X.env.locals) (hN : X.N.Nodup) (hi : X.N[i]? = some n) (hln : X.env.kindOf n = some .local) (hc : Names X nm (.ref (g.exc c))) (tk : Takes X E)
    (hex : ∀ c1, PySem.W.exmOne X.K (.ref (g.exc c1)) (.ref (g.exc c)) = some (decide (c = c1 ∨ c = 8)))
    (hb : ∀ (W : WX) (pn : List (Addr × Obj)) (xe : Value → Shared → Prop), Takes (X.tr pn xe) W → PassesOwn (model X.prog X.w) X.A X.env xe → PS (X.tr pn xe) st (tSx g W (ex S ib)))
    (hsu : ∀ (a : Addr) (oe : Obj) (cls : Value) (d : Option Addr) (pn : List (Addr × Obj)), Zc cls d oe → (∃ vs, oe.data = .fields vs) → PS (X.suite a ((a, oe) :: pn)) hst (tHS g (some i) c a cls d hh)) :
    PS X (.Try [st] [.ExceptHandler (some (.Name nm np)) (some n) [hst] pos'] [] [] pos) (tSt g E (ex S (.try_ [ib] c (some i) hh))) := by
  refine ⟨fun pins s σV H D I h => (ps_try_as (tb := fun W => tSx g W (ex S ib)) (ts := fun a cls d => tHS g (some i) c a cls d hh) (Wout := E) hs hf hN hi hln hc tk (fun W pn xe t q => pss_one (hb W pn xe t q)) (fun a oe cls d pn z f => pss_one (hsu a oe cls d pn z f))).run pins s σV H D I ?_⟩
  have hl : i < σV.length := by
    rw [I.len]
    exact (List.getElem?_eq_some_iff.mp hi).1
  obtain ⟨F0, H0, F, σO, pn, A, q, hq, k⟩ := h
  rw [ex] at hq
  unfold tryRun at hq
  rw [exs_one] at hq
  cases hr : ex S ib σO pn with
  | none =>
    rw [hr] at hq
    cases hq
  | some qq =>
    obtain ⟨r, p1⟩ := qq
    rw [hr] at hq
    refine ⟨F0, H0, F, σO, pn, A, _, hr, ?_⟩
    cases r with
    | ok r =>
      cases hq
      exact k
    | error e =>
      dsimp only at hq
      intro cl d F1 H1 s1 pp x
      refine ⟨decide (c = e.c ∨ c = 8), ?_, fun hb a ha => ?_, fun hb => ?_⟩
      · rw [x.1]
        exact hex e.c
      · rw [if_pos (of_decide_eq_true hb)] at hq
        exact try_go A s1 pp x (of_decide_eq_true hb) hl a hq k
      · rw [if_neg (of_decide_eq_false hb)] at hq
        cases hq
        exact k cl d F1 H1 (A.base.trans pp.1 s1) pp x
end
end Bc
set_option Elab.async false
set_option linter.all false
set_option maxRecDepth 100000
set_option maxHeartbeats 4000000
/-! Part D4. The check of statements. -/
namespace Bc
open PySem PySem.Spec L2

def vAsg : Stmt → Option (Expr × Expr × Pos)
  | .Assign [t] e p => some (t, e, p)
  | _ => none
theorem vAsg_e {s : Stmt} {q} (h : vAsg s = some q) : s = .Assign [q.1] q.2.1 q.2.2 := by unfold vAsg at h; split at h <;> cases h; rfl
def vExp : Stmt → Option (Expr × Pos)
  | .Expr e p => some (e, p)
  | _ => none
theorem vExp_e {s : Stmt} {q} (h : vExp s = some q) : s = .Expr q.1 q.2 := by unfold vExp at h; split at h <;> cases h; rfl
/-- x = [..] on one line, x a local that the block has not -/
def lineB (e : Expr) (l : Nat) (x : Str) (sc : Scope) : Bool := sc.kind == .function && sc.names.lookup x == some .local && l == e.pos.line && (match vLc e with
  | some (_, _, _, _, scope) => !(scope.names.any fun (n, k) => n == x && (k == .local || k == .cell))
  | none => false)
def okAsg (T : Tb) (N : List Str) (n : Nat) (sc : Scope) (cs : List Str) (t e : Expr) (i : Nat) (ie : IE) : Bool := match t with
  | .Name x p => decide (N[i]? = some x) && stB sc cs x && okE T N n sc cs e ie && (!isCompE e || lineB e p.line x sc)
  | _ => false
def okPar (N : List Str) (sc : Scope) : List Expr → List Nat → Bool
  | [], [] => true
  | .Name x _ :: es, i :: is => decide (N[i]? = some x) && sc.names.lookup x == some .local && !(is.contains i) && okPar N sc es is
  | _, _ => false
def okSs (f : Stmt → IS → Bool) : List Stmt → List IS → Bool
  | [], [] => true
  | ss, .freeze _ :: is => okSs f ss is
  | s :: ss, i :: is => f s i && okSs f ss is
  | _, _ => false
/-- the one statement of a try -/
def okTB (T : Tb) (N : List Str) (n : Nat) (sc : Scope) (cs : List Str) (st : Stmt) (ib : IS) : Bool := match ib with
  | .asg i ie => match st with
    | .Assign [.Name x _] e _ => decide (N[i]? = some x) && stB sc cs x && !isCompE e && okE T N n sc cs e ie
    | _ => false
  | .expr ie => match st with
    | .Expr e _ => !isCompE e && okE T N n sc cs e ie
    | _ => false
  | .ret ie => match st with
    | .Return (some e) _ => okE T N n sc cs e ie
    | _ => false
  | _ => false
/-- a handler's term -/
def okHA (N : List Str) (sc : Scope) (i c : Nat) (e : Expr) (h : HE) : Bool := match h with
  | .con (.str t) => match e with
    | .Constant (.str x) _ _ => decide (x = ⟨t.toArray⟩)
    | _ => false
  | .fld => match e with
    | .Attribute (.Name x _) f _ => decide (N[i]? = some x) && visB sc x && !dbgB x && !(x == ("__classdict__" : Str)) && !(c == 8) && decide (efT c = some f)
    | _ => false
  | _ => false
def okHL (f : Expr → HE → Bool) : List Expr → List HE → Bool
  | [], [] => true
  | e :: es, h :: hs => !isStarE e && f e h && okHL f es hs
  | _, _ => false
def okHE (N : List Str) (sc : Scope) (i c : Nat) (e : Expr) (h : HE) : Bool := match h with
  | .tup hs => match e with
    | .Tuple es _ _ => decide (hs.length ≤ 100) && okHL (okHA N sc i c) es hs
    | _ => false
  | _ => okHA N sc i c e h
def okHS (N : List Str) (sc : Scope) (cs : List Str) (i c : Nat) (st : Stmt) (hh : HS) : Bool := match hh with
  | .ret h => match st with
    | .Return (some e) _ => okHE N sc i c e h
    | _ => false
  | .asg j h => match st with
    | .Assign [.Name x _] e _ => decide (N[j]? = some x) && stB sc cs x && !isCompE e && okHE N sc i c e h
    | _ => false
def okS (T : Tb) (N : List Str) : Nat → Scope → List Str → Stmt → IS → Bool
  | 0, _, _, _, _ => false
  | n + 1, sc, cs, s, i => match i with
    | .stuck => true
    | .pass => match s with
      | .Pass _ => true
      | _ => false
    | .brk => match s with
      | .Break _ => true
      | _ => false
    | .cont => match s with
      | .Continue _ => true
      | _ => false
    | .retN => match s with
      | .Return none _ => true
      | _ => false
    | .ret ie => match s with
      | .Return (some e) _ => okE T N n sc cs e ie
      | _ => false
    | .expr ie => match vExp s with
      | some (e, _) => !isCompE e && okE T N n sc cs e ie
      | none => false
    | .asg i ie => match vAsg s with
      | some (t, e, _) => okAsg T N n sc cs t e i ie
      | none => false
    | .asgL _ i ie => match vAsg s with
      | some (.Name x _, e, _) => decide (N[i]? = some x) && stB sc cs x && okE T N n sc cs e ie && !isCompE e
      | _ => false
    | .asgT is ie => match vAsg s with
      | some (.Tuple es _ _, e, _) => okNs N sc cs es is && okE T N n sc cs e ie && !isCompE e && (notTupE e || !(es.length == 2 || es.length == 3) || tupFoldB e)
      | _ => false
    | .par is ies => match vAsg s with
      | some (.Tuple es _ _, .Tuple vs _ _, _) => (es.length == 2 || es.length == 3) && (okPar N sc es is && swB sc es vs || okNs N sc cs es is && ((swNames sc es).length != es.length && vs.length == es.length)) && okL (okE T N n sc cs) vs ies
      | _ => false
    | .aug i op ie => match s with
      | .AugAssign (.Name x _) o e _ => decide (N[i]? = some x) && stB sc cs x && okE T N n sc cs e ie && (match op, o with | .add, .Add => true | .sub, .Sub => true | _, _ => false)
      | _ => false
    | .app i ie => match s with
      | .Expr (.Call (.Attribute (.Name x _) nm ap) [e] [] cp) _ => decide (N[i]? = some x) && visB sc x && !dbgB x && !(x == ("__classdict__" : Str)) && nm == "append" && !isStarE e && okE T N n sc cs e ie && ap.endLine == cp.line
      | _ => false
    | .appi i k ie => match s with
      | .Expr (.Call (.Attribute (.Subscript (.Name x _) ek _) nm ap) [e] [] cp) _ => decide (N[i]? = some x) && visB sc x && !dbgB x && !(x == ("__classdict__" : Str)) && nm == "append" && !isStarE e && okE T N n sc cs e ie && ap.endLine == cp.line && !isSliceE ek && okE T N n sc cs ek k
      | _ => false
    | .pop i j => match s with
      | .Assign [.Name x _] (.Call (.Attribute (.Name y _) nm ap) [] [] cp) _ => decide (N[i]? = some x) && stB sc cs x && decide (N[j]? = some y) && visB sc y && !dbgB y && !(y == ("__classdict__" : Str)) && nm == "pop" && ap.endLine == cp.line
      | _ => false
    | .store i k e => match s with
      | .Assign [.Subscript (.Name x _) ek _] ee _ => decide (N[i]? = some x) && visB sc x && !dbgB x && !(x == ("__classdict__" : Str)) && !isSliceE ek && !isCompE ee && okE T N n sc cs ek k && okE T N n sc cs ee e
      | _ => false
    | .pset i f e => match s with
      | .Assign [.Subscript (.Name x _) ek _] ee _ => decide (N[i]? = some x) && visB sc x && !dbgB x && !(x == ("__classdict__" : Str)) && decide (vStr ek = some (penKey f)) && !isCompE ee && okE T N n sc cs ee e
      | _ => false
    | .setf i f e => match s with
      | .Assign [.Attribute (.Name x _) nm _] ee _ => decide (N[i]? = some x) && visB sc x && !dbgB x && !(x == ("__classdict__" : Str)) && decide (nm = fnameT f) && !isCompE ee && okE T N n sc cs ee e
      | _ => false
    | .ife c a b => match s with
      | .If ec sa sb _ => okT T N n sc cs ec c && okSs (okS T N n sc cs) sa a && okSs (okS T N n sc cs) sb b
      | _ => false
    | .for_ ik ies t body => match s with
      | .For tg it sb [] _ => !isSetE it && okI (okE T N n sc cs) sc (isTupB tg) it ik ies && okTg N sc cs tg t && okSs (okS T N n sc cs) sb body
      | _ => false
    | .while_ c body => match s with
      | .While ec sb [] _ => okT T N n sc cs ec c && okSs (okS T N n sc cs) sb body
      | _ => false
    | .raise_ c [ie] => match s with
      | .Raise (some (.Call (.Name x _) [e] [] _)) none _ => decide (T.ers.lookup x = some c) && glB sc x && !dbgB x && !isStarE e && okE T N n sc cs e ie
      | _ => false
    | .try_ [ib] c (some i) hh => match s with
      | .Try [st] [.ExceptHandler (some (.Name x _)) (some nm) [hst] _] [] [] _ => decide (N[i]? = some nm) && sc.names.lookup nm == some .local && decide (T.hds.lookup x = some c) && glB sc x && !dbgB x && okTB T N n sc cs st ib && okHS N sc cs i c hst hh
      | _ => false
    | _ => false
section
variable {g : GE} {S : Sem} {T : Tb} {k : Nat} {N : List Str}
/-- a def's or a try's context -/
structure Cs (g : GE) (S : Sem) (T : Tb) (k : Nat) (X : Cx) (E : WX) (N : List Str) (sc : Scope) (cs : List Str) : Prop where
  ct : Ct g S T k X E N sc cs
  pass : PassesOwn (model X.prog X.w) X.A X.env X.xe
  flat : Flat E
  stk : X.stack = X.env :: X.outer
  frm : X.env.frame = some X.env.locals
  room2 : Room 2 X.A
  ers : ∀ nm c, T.ers.lookup nm = some c → ErAt X g c nm
  hds : ∀ nm c, T.hds.lookup nm = some c → X.mg nm = some (.ref (g.exc c)) ∧ (∀ c1, PySem.W.exmOne X.K (.ref (g.exc c1)) (.ref (g.exc c)) = some (decide (c = c1 ∨ c = 8))) ∧ ∀ fld, efT c = some fld → XfC X.K (g.exc c) ∧ PySem.W.findIn X.K (.ref (g.exc c)) fld = some none
theorem Ct.tr {X : Cx} {E W : WX} {sc : Scope} {cs : List Str} (C : Ct g S T k X E N sc cs) {pn : List (Addr × Obj)} {xe : Value → Shared → Prop} (t : Takes (X.tr pn xe) W) : Ct g S T k (X.tr pn xe) W N sc cs where
  K := C.K
  calm := C.calm
  hN := C.hN
  nd := C.nd
  hsc := C.hsc
  fn := C.fn
  tk := t
  room := C.room
  un := C.un
  fns := fun nm f h => ⟨(C.fns nm f h).ex⟩
  mts := fun nm mm h c f h2 => ⟨(C.mts nm mm h c f h2).ex⟩
  room1 := C.room1
  eqf := C.eqf
  isa := C.isa
  con := C.con
  blt := C.blt
  cls := fun c h => ⟨(C.cls c h).1, (C.cls c h).2⟩
theorem hevs_L (e : Exc) : ∀ hs : List HE, hevs hs e = hevL (hs.map hev) e
  | [] => by rw [hevs]; rfl
  | h :: hs => by
    rw [hevs, hevs_L e hs, List.map_cons, hevL]
    first
    | done
    | (cases hev h e with
      | none => rfl
      | some d =>
        cases hevL (hs.map hev) e with
        | none => rfl
        | some ds => rfl)
section
variable {X : Cx} {sc : Scope} {cs : List Str} {E : WX} {c i : Nat} {a : Addr} {oe : Obj} {cls : Value} {d : Option Addr} {pn : List (Addr × Obj)}
theorem okHA_e (C : Cs g S T k X E N sc cs) {x : Str} (hx : T.hds.lookup x = some c) (z : Zc cls d oe) (f : ∃ vs, oe.data = .fields vs) {e : Expr} {h : HE} (ok : okHA N sc i c e h = true) : PE (X.suite a ((a, oe) :: pn)) e (tHE g (some i) c a cls d (hev h)) := by
  unfold okHA at ok
  split at ok
  · split at ok
    · rename_i t _ y _ _
      have e : hev (HE.con (.str t)) = fun _ => some (.str t) := by
        funext z
        rw [hev]
      rw [e]
      exact h_str (of_decide_eq_true ok)
    · cases ok
  · split at ok
    · simp only [Bool.and_eq_true, Bool.not_eq_true'] at ok
      obtain ⟨⟨⟨⟨⟨h1, h2⟩, h3⟩, h4⟩, h5⟩, h6⟩ := ok
      obtain ⟨q1, q2, q3⟩ := C.hds _ _ hx
      obtain ⟨q4, q5⟩ := q3 _ (of_decide_eq_true h6)
      have e : hev HE.fld = fun e => e.f := by
        funext z
        rw [hev]
      rw [e]
      exact h_fld q4 q5 (fun e => by subst e; cases h5) (of_decide_eq_true h6) z f (by rw [C.ct.hN]; exact of_decide_eq_true h1) (C.ct.vis h2) h3 h4
    · cases ok
  · cases ok
theorem okHL_a {f : Expr → HE → Bool} {X' : Cx} (hf : ∀ e h, f e h = true → PE X' e (tHE g (some i) c a cls d (hev h))) : ∀ {es : List Expr} {hs : List HE}, okHL f es hs = true → PA X' es (tHEs g (some i) c a cls d (hs.map hev))
  | [], [], _ => ha_nil
  | e :: es, h :: hs, ok => by
    unfold okHL at ok
    simp only [Bool.and_eq_true, Bool.not_eq_true'] at ok
    exact ha_cons ok.1.1 (hf _ _ ok.1.2) (okHL_a hf ok.2)
  | [], _ :: _, ok => by cases ok
  | _ :: _, [], ok => by cases ok
theorem okHE_e (C : Cs g S T k X E N sc cs) {x : Str} (hx : T.hds.lookup x = some c) (z : Zc cls d oe) (f : ∃ vs, oe.data = .fields vs) {e : Expr} {h : HE} (ok : okHE N sc i c e h = true) : PE (X.suite a ((a, oe) :: pn)) e (tHE g (some i) c a cls d (hev h)) := by
  unfold okHE at ok
  split at ok
  · split at ok
    · rw [Bool.and_eq_true] at ok
      rename_i hs _ _ _ _
      have e : hev (HE.tup hs) = fun e => (hevL (hs.map hev) e).map .tup := by
        funext z
        rw [hev, hevs_L]
      rw [e]
      exact h_tup (by rw [List.length_map]; exact of_decide_eq_true ok.1) (okHL_a (fun e h o => okHA_e C hx z f o) ok.2)
    · cases ok
  · exact okHA_e C hx z f ok
theorem okHS_s (C : Cs g S T k X E N sc cs) {x : Str} (hx : T.hds.lookup x = some c) (z : Zc cls d oe) (f : ∃ vs, oe.data = .fields vs) {st : Stmt} {hh : HS} (ok : okHS N sc cs i c st hh = true) : PS (X.suite a ((a, oe) :: pn)) st (tHS g (some i) c a cls d hh) := by
  have nd : X.N.Nodup := by
    rw [C.ct.hN]
    exact C.ct.nd
  unfold okHS at ok
  split at ok
  · split at ok
    · exact ps_ret (okHE_e C hx z f ok)
    · cases ok
  · split at ok
    · simp only [Bool.and_eq_true, Bool.not_eq_true'] at ok
      obtain ⟨⟨⟨h1, h2⟩, h3⟩, h4⟩ := ok
      obtain ⟨l, lf⟩ := C.ct.st h2
      exact ps_set (X := X.suite a ((a, oe) :: pn)) nd (by rw [C.ct.hN]; exact of_decide_eq_true h1) l (okHE_e C hx z f h4) (swap_none h3) lf
    · cases ok
theorem okTB_s {n : Nat} (C : Ct g S T k X E N sc cs) {st : Stmt} {ib : IS} (ok : okTB T N n sc cs st ib = true) : PS X st (tSx g E (ex S ib)) := by
  have nd : X.N.Nodup := by
    rw [C.hN]
    exact C.nd
  have fE : ∀ e i, okE T N n sc cs e i = true → PE X e (tEv g S E false i) := fun e i h => (ok_all n).1 X E sc cs false e i C h
  unfold okTB at ok
  split at ok
  · split at ok
    · simp only [Bool.and_eq_true, Bool.not_eq_true'] at ok
      obtain ⟨⟨⟨h1, h2⟩, h3⟩, h4⟩ := ok
      obtain ⟨l, lf⟩ := C.st h2
      exact sx_asg nd (by rw [C.hN]; exact of_decide_eq_true h1) l lf h3 (fE _ _ h4)
    · cases ok
  · split at ok
    · rw [Bool.and_eq_true, Bool.not_eq_true'] at ok
      exact sx_expr (fE _ _ ok.2) ok.1
    · cases ok
  · split at ok
    · exact sx_ret (fE _ _ ok)
    · cases ok
  · cases ok
end
def AllS (g : GE) (S : Sem) (T : Tb) (k : Nat) (N : List Str) (n : Nat) : Prop := ∀ (X : Cx) (E : WX) (sc : Scope) (cs : List Str) (s : Stmt) (i : IS), Cs g S T k X E N sc cs → okS T N n sc cs s i = true → PS X s (tSt g E (ex S i))
theorem okSs_s {X : Cx} {E : WX} {f : Stmt → IS → Bool} (hE : Flat E) (hf : ∀ s i, f s i = true → PS X s (tSt g E (ex S i))) : ∀ {is : List IS} {ss : List Stmt}, okSs f ss is = true → PSs X ss (tSt g E (exs S is))
  | [], [], _ => ss_nil
  | [], _ :: _, h => by
    unfold okSs at h
    cases h
  | i :: is, ss, h => by
    unfold okSs at h
    split at h
    · rename_i h1 h2
      cases h2
    · rename_i h1
      cases h1
      exact ss_frz (okSs_s hE hf h)
    · rename_i h1
      cases h1
      rw [Bool.and_eq_true] at h
      exact ss_cons hE (hf _ _ h.1) (okSs_s hE hf h.2)
    · cases h
theorem asg_pe {n : Nat} {X : Cx} {E : WX} {sc : Scope} {cs : List Str} {t e : Expr} {p : Pos} {i : Nat} {ie : IE} (C : Cs g S T k X E N sc cs) (h : okAsg T N n sc cs t e i ie = true) : PS X (.Assign [t] e p) (tSt g E (ex S (.asg i ie))) := by
  unfold okAsg at h
  split at h
  · rename_i x px
    simp only [Bool.and_eq_true, Bool.or_eq_true, Bool.not_eq_true'] at h
    obtain ⟨⟨⟨h1, h2⟩, h3⟩, h4⟩ := h
    have nd : X.N.Nodup := by
      rw [C.ct.hN]
      exact C.ct.nd
    have hi : X.N[i]? = some x := by
      rw [C.ct.hN]
      exact of_decide_eq_true h1
    obtain ⟨l, f⟩ := C.ct.st h2
    rcases h4 with h4 | h4
    · exact s_asg nd hi l f h4 ((ok_all n).1 X E sc cs false e ie C.ct h3)
    · unfold lineB at h4
      simp only [Bool.and_eq_true, beq_iff_eq] at h4
      obtain ⟨⟨⟨h5, h6⟩, h7⟩, h8⟩ := h4
      split at h8
      · rename_i ee tg it ifs scope hv
        obtain ⟨lp, rfl⟩ := vLc_e hv
        cases n with
        | zero =>
          rw [okE] at h3
          cases h3
        | succ n =>
          unfold okE at h3
          have e1 : vBool1 ((ee, tg, it, ifs, scope).1.ListComp [⟨(ee, tg, it, ifs, scope).2.1, (ee, tg, it, ifs, scope).2.2.1, (ee, tg, it, ifs, scope).2.2.2.1, 0⟩] (ee, tg, it, ifs, scope).2.2.2.2 lp) = none := rfl
          rw [e1] at h3
          dsimp only at h3
          cases ie with
          | lc ik ies t cond el vs =>
            dsimp only at h3
            simp only [vLc, Bool.and_eq_true, Bool.not_eq_true'] at h3
            obtain ⟨⟨⟨⟨⟨⟨g1, g2⟩, g3⟩, g4⟩, g5⟩, g6⟩, g7⟩ := h3
            have fE : ∀ e i m, okE T N n sc cs e i = true → PE X e (tEv g S E m i) := fun e i m h => (ok_all n).1 X E sc cs m e i C.ct h
            have ht : ∀ (s : Shared) (H : Hp) (A : Addr) (cl : List (Str × Addr)) (fp : List Addr), PTs (X.blk s H scope (compEnvC scope cl A X.env) fp) ifs (tTc g S E0 cond) := fun s H A cl fp => by
              split at g7
              · exact c_nil
              · exact c_one ((ok_all n).2.1 _ E0 _ _ _ _ C.ct.blk g7)
              · cases g7
            have q := s_asgLc (S := S) (E := E) (own := ownOf N vs) (pos := lp) (spos := p) (py := px) (ifs := ifs) (cond := cond) C.ct.calm nd hi (by rw [C.ct.hsc]; exact h6) (by simpa using h8) (by rw [beq_iff_eq]; exact h7)
              (by unfold Env.blockKind; rw [C.ct.hsc, h5]; rfl) (okI_i C.ct (fun e i h => fE e i false h) g4) (by rw [C.ct.hN, C.ct.hsc]; exact blk_ok g1) (by rw [ownOf_snd]; exact of_decide_eq_true g2)
              (fun s H A cl fp => okTg_g (k := k) (S := S) (T := T) C.ct.blk g5) ht (fun s H A cl fp => (ok_all n).1 _ E0 _ _ false _ _ C.ct.blk g6) g3
            rw [ownOf_snd] at q
            exact q
          | con d =>
            exfalso
            cases d <;> simp [conB, conG, vInt, vStr, vName, vNB] at h3
          | blt b es =>
            exfalso
            revert h3
            simp only [vCallN, vCallM, vLc, okC, vName, vBin, vUn, vCmp1, vCmp2, vBool2, vIf, vSub, vTup, vLst, vDict0, vAttr]
            split <;> first | (intro z; cases z; done) | (rename_i z; cases z)
          | sm b o es =>
            exfalso
            revert h3
            simp only [vCallN, vCallM, vLc, okC, vName, vBin, vUn, vCmp1, vCmp2, vBool2, vIf, vSub, vTup, vLst, vDict0, vAttr]
            split <;> first | (intro z; cases z; done) | (rename_i z; cases z)
          | _ => simp [okC, okQ, vName, vBin, vUn, vCmp1, vCmp2, vBool2, vIf, vSub, vTup, vLst, vDict0, vCallN, vCallM, vAttr] at h3
      · cases h8
  · cases h
theorem okPar_c {e : Expr} {es : List Expr} {is : List Nat} {sc : Scope} (h : okPar N sc (e :: es) is = true) : ∃ x p i is', e = .Name x p ∧ is = i :: is' ∧ N[i]? = some x ∧ sc.names.lookup x = some .local ∧ i ∉ is' ∧ okPar N sc es is' = true := by
  unfold okPar at h
  split at h
  · rename_i h1 h2
    cases h2
  · rename_i h1
    cases h1
    simp only [Bool.and_eq_true, Bool.not_eq_true', beq_iff_eq] at h
    obtain ⟨⟨⟨h1, h2⟩, h3⟩, h4⟩ := h
    exact ⟨_, _, _, _, rfl, rfl, of_decide_eq_true h1, h2, by simpa using h3, h4⟩
  · cases h
theorem swN_all {sc : Scope} {l : Nat} : ∀ {us : List Expr} {xs : List Str}, (us.filterMap fun
    | .Name id pos => if sc.names.lookup id == some .local && pos.line == l then some id else none
    | _ => none).length = us.length → us.map vName = xs.map some → (us.filterMap fun
    | .Name id pos => if sc.names.lookup id == some .local && pos.line == l then some id else none
    | _ => none) = xs
  | [], [], _, _ => rfl
  | [], _ :: _, _, h => by cases h
  | _ :: _, [], _, h => by cases h
  | u :: us, x :: xs, h, hx => by
    rw [List.map_cons, List.map_cons, List.cons.injEq] at hx
    obtain ⟨p, rfl⟩ := vName_e hx.1
    rw [List.filterMap_cons] at h ⊢
    have len : ∀ us : List Expr, (us.filterMap fun
      | .Name id pos => if sc.names.lookup id == some .local && pos.line == l then some id else none
      | _ => none).length ≤ us.length := fun us => List.length_filterMap_le _ _
    cases hc : (sc.names.lookup x == some .local && p.line == l) with
    | true =>
      simp only [hc, if_true] at h ⊢
      rw [swN_all (by simpa using h) hx.2]
    | false =>
      simp only [hc, Bool.false_eq_true, if_false] at h
      have := len us
      rw [h, List.length_cons] at this
      omega
theorem sw_at {X : Cx} {sc : Scope} {ts vs : List Expr} {xs : List Str} {k pt k2 pt2} (hsc : X.env.scope = sc) (h : swB sc ts vs = true) (hx : ts.map vName = xs.map some) : swappedStores [.Tuple ts k pt] (.Tuple vs k2 pt2) X.env = pure (some xs) := by
  subst hsc
  rw [sw_some h]
  unfold swB at h
  simp only [Bool.and_eq_true, Bool.not_eq_true', beq_iff_eq] at h
  have h5 := h.1.1.1.2
  rw [show swNames X.env.scope ts = xs from swN_all h5 hx]
theorem okS_s {n : Nat} (ih : AllS g S T k N n) : AllS g S T k N (n + 1) := by
  intro X E sc cs s i C h
  have hE := C.flat
  have nd : X.N.Nodup := by
    rw [C.ct.hN]
    exact C.ct.nd
  have hN := C.ct.hN
  have fE : ∀ e i m, okE T N n sc cs e i = true → PE X e (tEv g S E m i) := fun e i m h => (ok_all n).1 X E sc cs m e i C.ct h
  have fT : ∀ e i, okT T N n sc cs e i = true → PT X e (tEvT g S E i) := fun e i h => (ok_all n).2.1 X E sc cs e i C.ct h
  have fS : ∀ {is : List IS} {ss : List Stmt}, okSs (okS T N n sc cs) ss is = true → PSs X ss (tSt g E (exs S is)) := fun h => okSs_s hE (fun s i h => ih X E sc cs s i C h) h
  have u1 : X.A.units + 1 < cLine := Nat.lt_of_le_of_lt (Nat.add_le_add_left (by decide) _) C.ct.un
  unfold okS at h
  split at h
  · exact s_stuck
  · split at h
    · exact s_pass
    · cases h
  · split at h
    · exact s_brk
    · cases h
  · split at h
    · exact s_cont
    · cases h
  · split at h
    · exact s_retN
    · cases h
  · split at h
    · exact s_ret (fE _ _ false h)
    · cases h
  · split at h
    · rename_i hv
      obtain rfl := vExp_e hv
      rw [Bool.and_eq_true, Bool.not_eq_true'] at h
      exact s_expr (fE _ _ false h.2) h.1
    · cases h
  · split at h
    · rename_i hv
      obtain rfl := vAsg_e hv
      exact asg_pe C h
    · cases h
  · split at h
    · rename_i hv
      obtain rfl := vAsg_e hv
      simp only [Bool.and_eq_true, Bool.not_eq_true'] at h
      obtain ⟨⟨⟨h1, h2⟩, h3⟩, h4⟩ := h
      obtain ⟨l, f⟩ := C.ct.st h2
      exact s_asgL nd (by rw [hN]; exact of_decide_eq_true h1) l f h4 (fE _ _ false h3)
    · cases h
  · split at h
    · rename_i hv
      obtain rfl := vAsg_e hv
      simp only [Bool.and_eq_true, Bool.or_eq_true, Bool.not_eq_true'] at h
      obtain ⟨⟨⟨h1, h2⟩, h3⟩, h4⟩ := h
      refine s_asgT (g_tup C.ct.calm C.ct.K (okNs_g C.ct h1)) (fE _ _ false h2) h3 ?_
      rcases h4 with (h4 | h4) | h4
      · exact sw_none h4
      · rename_i e _
        cases e with
        | Tuple vs k2 p2 => exact sw_none4 h4
        | _ => rfl
      · rename_i e _
        cases e with
        | Tuple vs k2 p2 => exact sw_fold h4
        | _ => rfl
    · cases h
  · split at h
    · rename_i hv
      obtain rfl := vAsg_e hv
      rename_i is ies _ es kt pt vs k2 p2 pp
      simp only [Bool.and_eq_true] at h
      obtain ⟨⟨h1, h2⟩, h4⟩ := h
      have ha := (okL_f (fun e i h => fE e i false h) h4).1
      rw [Bool.or_eq_true] at h2
      rcases h2 with h2 | h2
      rotate_left
      · simp only [Bool.and_eq_true] at h2
        obtain ⟨h2, h3, _⟩ := h2
        have nm := okNs_g C.ct h2
        exact s_parN C.ct.calm nm (by
          rw [← nm.len]
          simp only [Bool.or_eq_true, beq_iff_eq] at h1
          omega) ha (sw_short (by rw [C.ct.hsc]; exact h3))
      simp only [Bool.and_eq_true] at h2
      obtain ⟨h2, h3⟩ := h2
      have hlen : vs.length = es.length := by
        unfold swB at h3
        simp only [Bool.and_eq_true, beq_iff_eq] at h3
        exact h3.1.1.1.1.1.1.2
      match es, h1, h2, h3, hlen with
      | [e1, e2], h1, h2, h3, hlen =>
        obtain ⟨x, px, i, is1, rfl, rfl, a1, a2, a3, r1⟩ := okPar_c h2
        obtain ⟨y, py, j, is2, rfl, rfl, b1, b2, b3, r2⟩ := okPar_c r1
        match is2, r2, vs, hlen, ha, h3 with
        | [], _, [v1, v2], _, ha, h3 =>
          exact s_par2 C.ct.calm nd (by rw [hN]; exact a1) (by rw [hN]; exact b1) (fun e => a3 (by rw [e]; exact List.mem_cons_self)) (by rw [C.ct.hsc]; exact a2) (by rw [C.ct.hsc]; exact b2) ha (sw_at C.ct.hsc h3 rfl)
        | _ :: _, r2, _, _, _, _ => cases r2
      | [e1, e2, e3], h1, h2, h3, hlen =>
        obtain ⟨x, px, i, is1, rfl, rfl, a1, a2, a3, r1⟩ := okPar_c h2
        obtain ⟨y, py, j, is2, rfl, rfl, b1, b2, b3, r2⟩ := okPar_c r1
        obtain ⟨z, pz, l, is3, rfl, rfl, c1, c2, c3, r3⟩ := okPar_c r2
        match is3, r3, vs, hlen, ha, h3 with
        | [], _, [v1, v2, v3], _, ha, h3 =>
          exact s_par3 C.ct.calm nd (by rw [hN]; exact a1) (by rw [hN]; exact b1) (by rw [hN]; exact c1) (fun e => a3 (by rw [e]; exact List.mem_cons_self)) (fun e => a3 (by rw [e]; exact List.mem_cons_of_mem _ List.mem_cons_self)) (fun e => b3 (by rw [e]; exact List.mem_cons_self))
            (by rw [C.ct.hsc]; exact a2) (by rw [C.ct.hsc]; exact b2) (by rw [C.ct.hsc]; exact c2) ha (sw_at C.ct.hsc h3 rfl)
        | _ :: _, r3, _, _, _, _ => cases r3
      | [], h1, _, _, _ => simp at h1
      | [_], h1, _, _, _ => simp at h1
      | _ :: _ :: _ :: _ :: _, h1, _, _, _ => simp at h1
    · cases h
  · split at h
    · simp only [Bool.and_eq_true] at h
      obtain ⟨⟨⟨h1, h2⟩, h3⟩, h4⟩ := h
      obtain ⟨l, f⟩ := C.ct.st h2
      refine s_aug ?_ nd (by rw [hN]; exact of_decide_eq_true h1) l f (fE _ _ false h3)
      split at h4
      · exact .inl ⟨rfl, rfl⟩
      · exact .inr ⟨rfl, rfl⟩
      · cases h4
    · cases h
  · split at h
    · simp only [Bool.and_eq_true, Bool.not_eq_true'] at h
      obtain ⟨⟨⟨⟨⟨⟨⟨h1, h2⟩, h3⟩, h4⟩, h5⟩, h6⟩, h7⟩, h8⟩ := h
      obtain rfl := eq_of_beq h5
      exact s_app (C.ct.var (of_decide_eq_true h1) h2 h3 h4) h6 (fE _ _ false h7) h8
    · cases h
  · split at h
    · simp only [Bool.and_eq_true, Bool.not_eq_true'] at h
      obtain ⟨⟨⟨⟨⟨⟨⟨⟨⟨h1, h2⟩, h3⟩, h4⟩, h5⟩, h6⟩, h7⟩, h8⟩, h9⟩, h10⟩ := h
      obtain rfl := eq_of_beq h5
      exact s_appi (C.ct.var (of_decide_eq_true h1) h2 h3 h4) (fE _ _ false h10) (ix_plain h9) h6 (fE _ _ false h7) h8
    · cases h
  · split at h
    · simp only [Bool.and_eq_true, Bool.not_eq_true'] at h
      obtain ⟨⟨⟨⟨⟨⟨⟨h1, h2⟩, h3⟩, h4⟩, h5⟩, h6⟩, h7⟩, h8⟩ := h
      obtain rfl := eq_of_beq h7
      obtain ⟨l, f⟩ := C.ct.st h2
      exact s_pop nd (by rw [hN]; exact of_decide_eq_true h1) l f (C.ct.var (of_decide_eq_true h3) h4 h5 h6) h8
    · cases h
  · split at h
    · simp only [Bool.and_eq_true, Bool.not_eq_true'] at h
      obtain ⟨⟨⟨⟨⟨⟨⟨h1, h2⟩, h3⟩, h4⟩, h5⟩, h6⟩, h7⟩, h8⟩ := h
      exact s_store u1 (C.ct.var (of_decide_eq_true h1) h2 h3 h4) (fE _ _ false h7) (fE _ _ false h8) h6 h5
    · cases h
  · split at h
    · simp only [Bool.and_eq_true, Bool.not_eq_true'] at h
      obtain ⟨⟨⟨⟨⟨⟨h1, h2⟩, h3⟩, h4⟩, h5⟩, h6⟩, h7⟩ := h
      obtain ⟨j, p2, rfl⟩ := vStr_e (of_decide_eq_true h5)
      exact s_pset u1 (C.ct.var (of_decide_eq_true h1) h2 h3 h4) (fE _ _ false h7) h6
    · cases h
  · split at h
    · simp only [Bool.and_eq_true, Bool.not_eq_true'] at h
      obtain ⟨⟨⟨⟨⟨⟨h1, h2⟩, h3⟩, h4⟩, h5⟩, h6⟩, h7⟩ := h
      exact s_setf (of_decide_eq_true h5) C.ct.cls (C.ct.var (of_decide_eq_true h1) h2 h3 h4) (fE _ _ false h7) h6
    · cases h
  · split at h
    · simp only [Bool.and_eq_true] at h
      exact s_if hE (fT _ _ h.1.1) (fS h.1.2) (fS h.2)
    · cases h
  · split at h
    · simp only [Bool.and_eq_true, Bool.not_eq_true'] at h
      obtain ⟨⟨⟨h1, h2⟩, h3⟩, h4⟩ := h
      exact s_for hE C.pass C.ct.calm (okI_i C.ct (fun e i h => fE e i false h) h2) (okTg_g C.ct h3) (fS h4) h1
    · cases h
  · split at h
    · simp only [Bool.and_eq_true] at h
      exact s_while hE C.pass (fT _ _ h.1) (fS h.2)
    · cases h
  · split at h
    · simp only [Bool.and_eq_true, Bool.not_eq_true'] at h
      obtain ⟨⟨⟨⟨h1, h2⟩, h3⟩, h4⟩, h5⟩ := h
      exact s_raise (C.ers _ _ (of_decide_eq_true h1)) C.ct.calm C.room2 (C.ct.gl h2) h3 C.ct.tk (a_cons h4 (fE _ _ false h5) a_nil) h4
    · cases h
  · split at h
    · simp only [Bool.and_eq_true, Bool.not_eq_true', beq_iff_eq] at h
      obtain ⟨⟨⟨⟨⟨⟨h1, h2⟩, h3⟩, h4⟩, h5⟩, h6⟩, h7⟩ := h
      have hx := of_decide_eq_true h3
      obtain ⟨q1, q2, q3⟩ := C.hds _ _ hx
      exact s_try C.stk C.frm nd (by rw [hN]; exact of_decide_eq_true h1) (by show X.env.scope.names.lookup _ = _; rw [C.ct.hsc]; exact h2) ⟨C.ct.gl h4, h5, .inl q1⟩ C.ct.tk q2 (fun W pn xe t q => okTB_s (C.ct.tr t) h6) (fun a oe cls d pn z f => okHS_s C hx z f h7)
    · cases h
  · cases h
theorem okS_all (n : Nat) : AllS g S T k N n := by
  induction n with
  | zero =>
    intro X E sc cs s i C h
    unfold okS at h
    cases h
  | succ n ih => exact okS_s ih
end
end Bc
set_option Elab.async false
set_option linter.all false
set_option maxRecDepth 100000
set_option maxHeartbeats 4000000
/-! Part D5. Defs, classes that are made, methods; all at once, by the depth of calls. -/
namespace Bc
open PySem PySem.Spec L2

/-! ### the same, another self -/
def GE.me (g : GE) (x : Addr) : GE := { g with slf := x }
mutual
theorem Rep.me {g : GE} {F : Hp} (x : Addr) : ∀ {d : D} {v : V}, Rep g F d v → Rep (g.me x) F d v
  | _, _, .non => .non
  | _, _, .bl b => .bl b
  | _, _, .int i => .int i
  | _, _, .str s => .str s
  | _, _, .lst h r => .lst h (r.me x)
  | _, _, .tup h r => .tup h (r.me x)
  | _, _, .dK h hk ha r => .dK h hk ha (r.me x)
  | _, _, .dT h hk ha r => .dT h hk ha (r.me x)
  | _, _, .obj h r => .obj h (r.me x)
  | _, _, .pen => .pen
  | _, _, .scr h => .scr h
theorem Reps.me {g : GE} {F : Hp} (x : Addr) : ∀ {ds : List D} {vs : List V}, Reps g F ds vs → Reps (g.me x) F ds vs
  | _, _, .nil => .nil
  | _, _, .cons h r => .cons (h.me x) (r.me x)
end
theorem GE.me_me (g : GE) (x y : Addr) : (g.me x).me y = g.me y := rfl
theorem GE.me_self (g : GE) : g.me g.slf = g := rfl
theorem Stp.me {g : GE} {F H F' H' : Hp} (x : Addr) (s : Stp g F H F' H') : Stp (g.me x) F H F' H' := ⟨s.ff, s.fh, s.new, s.keep, s.pk⟩
theorem PenAt.me {g : GE} {F H : Hp} {pn : Pen} (x : Addr) (p : PenAt g F H pn) : PenAt (g.me x) F H pn := p
theorem ExcAt.me {g : GE} {F H : Hp} {e : Exc} {c : Value} {d : Option Addr} (x : Addr) (h : ExcAt g F H e c d) : ExcAt (g.me x) F H e c d := by
  refine ⟨h.1, ?_⟩
  have h2 := h.2
  cases hf : e.f with
  | none => trivial
  | some dd =>
    rw [hf] at h2
    obtain ⟨n, ad, v, q1, q2, q3, q4⟩ := h2
    exact ⟨n, ad, v, q1, q2, q3, q4.me x⟩
theorem After.me {g : GE} {F H : Hp} {E : XK} {α : Type} {r : Option (Except Exc α × Pen)} {K : α → Pen → Hp → Hp → Prop} (x : Addr) (h : After g F H E r K) : After (g.me x) F H E r K := by
  obtain ⟨⟨r, p⟩, h1, h2⟩ := h
  cases r with
  | ok a => exact ⟨_, h1, fun F' H' s q => h2 F' H' (s.me g.slf) q⟩
  | error e => exact ⟨_, h1, fun c d F' H' s q z => h2 c d F' H' (s.me g.slf) q (z.me g.slf)⟩

/-! ### running a def's body -/
/-- a class that is made: __init__ fills the fields -/
def mkD (r : Fl × Sto) : Option D := match r with
  | (.nx, some (.ins c fs) :: _) => some (.obj c fs)
  | _ => none
noncomputable def runMk (S : Sem) (c n : Nat) (body : List IS) (ds : List D) : M D := M.bind (exs S body (some (.ins c []) :: (ds.map (fun d => some (.fz d)) ++ List.replicate (n - (ds.length + 1)) none))) fun r => M.of (mkD r)
inductive Kn where
  | fn (N np : Nat) (body : List IS)
  | mk (c N np : Nat) (body : List IS)
noncomputable def Kn.run (S : Sem) : Kn → List D → M D
  | .fn N np body, ds => if ds.length = np then runDef S N body ds else M.stuck
  | .mk c N np body, ds => if ds.length + 1 = np then runMk S c N body ds else M.stuck
/-- the defs at depth n -/
noncomputable def semN (tbl : Nat → Option Kn) (mt : Nat → Nat → Option Nat) (cl : Nat → Bool) : Nat → Sem
  | 0 => ⟨fun _ _ => M.stuck, mt, cl⟩
  | n + 1 => ⟨fun f ds => match tbl f with
    | some k => k.run (semN tbl mt cl n) ds
    | none => M.stuck, mt, cl⟩
section
variable {P : Program} {w : World} {K : PySem.W.Frag} {mg : Str → Option Value} {base : Heap} {g : GE}
theorem start_own {F H : Hp} : ∀ {ds : List D} {vs : List V}, Reps g F ds vs → ∀ n, OwnSl g F H (ds.map (fun d => some (.fz d)) ++ List.replicate n none) (vs.map some ++ List.replicate n none) []
  | _, _, .nil, n => by
    induction n with
    | zero => exact .nil
    | succ n ih => exact .no ih
  | _, _, .cons h r, n => OwnSl.yes (f := []) (.fz h) (start_own r n)
theorem after_def {S : Sem} {F H : Hp} {E : XK} {n : Nat} {body : List IS} {ds : List D} {pn : Pen} {Q : VK} {D' : Ends} (hD : D' = { nx := fun _ H' => Q .non H', rt := Q })
    (h : After g F H E (runDef S n body ds pn) fun d p F' H' => ∀ v, Rep g F' d v → Q v H') : After0 g F H F E (exs S body (ds.map (fun d => some (.fz d)) ++ List.replicate (n - ds.length) none) pn) (fin g F H D') := by
  subst hD
  unfold runDef at h
  refine (h.zero.bind).imp fun r p F1 H1 s1 e1 p1 k => ?_
  obtain ⟨fl, σ'⟩ := r
  cases fl with
  | nx =>
    obtain ⟨d, hd, k2⟩ := k.now s1 p1
    cases hd
    exact fun _ _ => k2 _ .non
  | rt d =>
    obtain ⟨d', hd, k2⟩ := k.now s1 p1
    cases hd
    exact k2
  | bk =>
    obtain ⟨d', hd, k2⟩ := k.now s1 p1
    cases hd
  | ct =>
    obtain ⟨d', hd, k2⟩ := k.now s1 p1
    cases hd
/-- the facts about the text that do not speak of the depth -/
structure Facts (P : Program) (g : GE) (T : Tb) (cl : Nat → Bool) (K : PySem.W.Frag) (mg : Str → Option Value) : Prop where
  fk : K = g.K
  con : ∀ nm d, T.cons.lookup nm = some d → ∃ u v, mg nm = some u ∧ RelV v u ∧ ∀ F, Rep g F d v
  blt : ∀ nm ∈ bltN, mg nm = none
  cls : ∀ c, cl c = true → Cls K (g.cls c) ∧ ∀ f ∈ fidT c, NoAttr K (g.cls c) (fnameT f)
  eqf : T.mts.lookup ("__eq__" : Str) = some mEq → EqF K g cl
  isa : ∀ nm c, T.iss.lookup nm = some c → IsaF K mg g cl c nm
  ers : ∀ nm c, T.ers.lookup nm = some c → mg nm = some (.ref (g.exc c)) ∧ ∃ fI fld, ErrF P K mg (g.exc c) fI fld ∧ efT c = some fld
  hds : ∀ nm c, T.hds.lookup nm = some c → mg nm = some (.ref (g.exc c)) ∧ (∀ c1, PySem.W.exmOne K (.ref (g.exc c1)) (.ref (g.exc c)) = some (decide (c = c1 ∨ c = 8))) ∧ ∀ fld, efT c = some fld → XfC K (g.exc c) ∧ PySem.W.findIn K (.ref (g.exc c)) fld = some none
theorem Facts.me {T : Tb} {cl : Nat → Bool} (f : Facts P g T cl K mg) (x : Addr) : Facts P (g.me x) T cl K mg := ⟨f.fk, fun nm d h => by
  obtain ⟨u, v, h1, h2, h3⟩ := f.con nm d h
  exact ⟨u, v, h1, h2, fun F => (h3 F).me x⟩, f.blt, f.cls, f.eqf, fun nm c h => ⟨(f.isa nm c h).1, (f.isa nm c h).2, (f.isa nm c h).3⟩, f.ers, f.hds⟩
/-- the defs and methods at one depth -/
structure Defs (g : GE) (S : Sem) (T : Tb) (P : Program) (w : World) (K : PySem.W.Frag) (mg : Str → Option Value) (base : Heap) (k : Nat) : Prop where
  fns : ∀ nm f, T.fns.lookup nm = some f → ∃ a, mg nm = some (.ref a) ∧ PySem.W.keepIn K (.ref a) = true ∧ CallAt P w K mg base g k (.ref a) [] (S.fn f)
  mts : ∀ nm mm, T.mts.lookup nm = some mm → ∀ c f, S.mt c mm = some f → ∃ a, Meth K (g.cls c) nm a ∧ Cls K (g.cls c) ∧ (∀ vs : List V, ((clsNames c).zip vs).lookup nm = none) ∧ ∀ v, CallAt P w K mg base g (k - 1) (.ref a) [v] (S.fn f)
theorem cs_of {S : Sem} {T : Tb} {k : Nat} {N ps : List Str} {qual : Str} {scope : Scope} {f : Addr} {cd : Value} {A : Around} {outer : List Env} {s : Shared} {H : Hp} {E : XK} {cs : List Str} (fa : Facts P g T S.cl K mg) (df : Defs g S T P w K mg base k) (SC : FnScope N ps scope)
    (hk : 2 ≤ k) (hr : Room k (A.deeper (PyProof.Rows.envOfC qual scope s.heap.objs.size f cd))) : Cs g S T k (cxOf (L2.CX P w) P w K mg base N qual scope f cd A outer s H E) (fun c d _ H => E c d H) N scope cs where
  ct := {
    K := fa.fk
    calm := rfl
    hN := rfl
    nd := SC.nd
    hsc := rfl
    fn := fun _ _ => rfl
    tk := L2.takes_of rfl rfl rfl rfl
    room := hr
    un := by
      have h := hr.un
      show (A.deeper (PyProof.Rows.envOfC qual scope s.heap.objs.size f cd)).units + 80 < cLine
      omega
    fns := fun nm f h => ⟨df.fns nm f h⟩
    mts := fun nm mm h c f h2 => ⟨df.mts nm mm h c f h2⟩
    room1 := by
      rw [Nat.sub_add_cancel (Nat.le_trans (by decide) hk)]
      exact hr
    eqf := fa.eqf
    isa := fa.isa
    con := fa.con
    blt := fa.blt
    cls := fun c h => ⟨(fa.cls c h).1, (fa.cls c h).2⟩ }
  pass := L2.passes_of rfl
  flat := fun _ _ _ _ _ h => h
  stk := rfl
  frm := rfl
  room2 := hr.mono hk
  ers := fun nm c h => by
    obtain ⟨h1, fI, fld, ef, h2⟩ := fa.ers nm c h
    obtain ⟨fd, ps, q1, q2⟩ := err_ok (w := w) (base := base) ef
    obtain ⟨F, cc, sn, pn, oc, od, osl, doc, pm, ctv, s1, s2, _, _, _, _, _, _, SF, _, _, _, _, _, _, _, _, _, r1, r2⟩ := ef.ex
    exact ⟨fI, fd, ps, fld, SF.oex, r1, r2, q1, q2, h1, h2⟩
  hds := fa.hds
/-- names that may be cells of the def -/
def csOf (sc : Scope) : List Str := sc.names.map Prod.fst
/-- a def -/
theorem def_ok {S : Sem} {T : Tb} {k n : Nat} {N ps : List Str} {nm qual : Str} {st : Stmt} {a : Addr} {fd : FuncData} {body : List IS} (fa : Facts P g T S.cl K mg) (df : Defs g S T P w K mg base k) (hk : 2 ≤ k) (F : Fun K nm qual st a fd) (SC : FnScope N ps (defScope st))
    (ok : okSs (okS T N n (defScope st) (csOf (defScope st))) (defBody st) body = true) : FnOk P w K mg base (L2.CX P w) (k + 1) a fd ps (spM g (Kn.run S (.fn N.length ps.length body))) := by
  refine F.okX SC (fun vs H Q E h => ?_) (fun cdv A outer s H vs Q E hr h => ?_)
  · obtain ⟨F0, pn, ds, e, p, r, q, h1, _⟩ := h
    by_cases hl : ds.length = ps.length
    · rw [← r.length]
      exact hl
    · rw [Kn.run, if_neg hl] at h1
      cases h1
  · obtain ⟨F0, pn, ds, e, p, r, h⟩ := h
    have C := cs_of (outer := outer) (H := H) (E := E) (cs := csOf (defScope st)) fa df SC hk hr
    refine ⟨_, okSs_s C.flat (fun s i hs => okS_all n _ _ _ _ _ _ C hs) ok, F0, H, F0, ds.map (fun d => some (.fz d)) ++ List.replicate (N.length - ds.length) none, pn, ⟨Stp.refl e, p, [], ?_, .nil, fun a ha => by simp at ha⟩, ?_⟩
    · unfold L2.start
      rw [← r.length]
      exact start_own r _
    · by_cases hl : ds.length = ps.length
      · rw [Kn.run, if_pos hl] at h
        exact after_def rfl h
      · rw [Kn.run, if_neg hl] at h
        exact h.no.elim
/-- what __init__ promises -/
def spMk (g : GE) (c : Nat) (f : List D → M D) : Sp := fun vs H' Q E => ∃ (H : Hp) (x dx : Addr) (ws : List V) (F : Hp) (pn : Pen) (ds : List D), vs = .ref x :: ws ∧ H x = none ∧ H dx = none ∧ dx ≠ x ∧ H' = upd (upd H dx (.own x)) x (.ins (g.cls c) dx []) ∧
  Same F H ∧ PenAt g F H pn ∧ Reps g F ds ws ∧ After g F H E (f ds pn) fun d p F' H2 => Rep g F' d (.ref x) → Q .non H2
theorem mk_ok {S : Sem} {T : Tb} {k n c : Nat} {N ps : List Str} {nm qual : Str} {st : Stmt} {a : Addr} {fd : FuncData} {body : List IS} (fa : Facts P g T S.cl K mg) (df : ∀ x, Defs (g.me x) S T P w K mg base k) (hk : 2 ≤ k) (F : Fun K nm qual st a fd) (SC : FnScope N ps (defScope st))
    (ok : okSs (okS T N n (defScope st) (csOf (defScope st))) (defBody st) body = true) : FnOk P w K mg base (L2.CX P w) (k + 1) a fd ps (spMk g c (Kn.run S (.mk c N.length ps.length body))) := by
  refine F.okX SC (fun vs H Q E h => ?_) (fun cdv A outer s H' vs Q E hr h => ?_)
  · obtain ⟨H0, x, dx, ws, F0, pn, ds, rfl, _, _, _, _, _, _, r, q, h1, _⟩ := h
    by_cases hl : ds.length + 1 = ps.length
    · rw [List.length_cons, ← r.length]
      exact hl
    · rw [Kn.run, if_neg hl] at h1
      cases h1
  · obtain ⟨H, x, dx, ws, F0, pn, ds, rfl, hx, hdx, ne, rfl, e, p, r, h⟩ := h
    have C := cs_of (outer := outer) (H := upd (upd H dx (.own x)) x (.ins (g.cls c) dx [])) (E := E) (cs := csOf (defScope st)) (fa.me x) (df x) SC hk hr
    obtain ⟨s1, p1⟩ := alloc (o := .own x) e p hdx
    have hx1 : upd H dx (.own x) x = none := by rw [upd_ne (Ne.symm ne)]; exact hx
    obtain ⟨s2, p2⟩ := alloc (o := .ins (g.cls c) dx []) s1.fh p1 hx1
    have sx : Stp g F0 H F0 (upd (upd H dx (.own x)) x (.ins (g.cls c) dx [])) := s1.trans p2.1 s2
    have hxF : F0 x = none := by
      cases z : F0 x with
      | none => rfl
      | some u =>
        rw [e x u z] at hx
        cases hx
    refine ⟨_, okSs_s C.flat (fun s i hs => okS_all n _ _ _ _ _ _ C hs) ok, F0, H, F0, some (.ins c []) :: (ds.map (fun d => some (.fz d)) ++ List.replicate (N.length - (ds.length + 1)) none), pn, ⟨sx.me x, p2, [x] ++ [], ?_, by simp, fun a ha => ?_⟩, ?_⟩
    · unfold L2.start
      rw [List.map_cons, List.cons_append, List.length_cons, ← r.length]
      refine .yes (.ins (dx := dx) (vs := []) ?_ rfl .nil) (start_own (r.me x) _)
      rw [upd_same, List.zip_nil_right]
      rfl
    · have : a = x := by simpa using ha
      subst this
      exact ⟨penNe p hx, hxF, hx⟩
    · by_cases hl : ds.length + 1 = ps.length
      · rw [Kn.run, if_pos hl] at h
        unfold runMk at h
        refine ((h.me x).zero.bind).imp fun r p' F1 H1 s1 e1 p1 k => ?_
        obtain ⟨fl, σ'⟩ := r
        cases fl with
        | nx =>
          intro σV' A'
          obtain ⟨F2, sm, A2⟩ := A'.freeze 0
          obtain ⟨d, hd, k2⟩ := (k.on sm).now A2.base A2.pen
          have hd' : ∃ c' fs rest, σ' = some (.ins c' fs) :: rest ∧ d = .obj c' fs := by
            change mkD (.nx, σ') = some d at hd
            unfold mkD at hd
            split at hd
            · rename_i h1
              cases h1
              exact ⟨_, _, _, rfl, (Option.some.inj hd).symm⟩
            · cases hd
          obtain ⟨c', fs, rest, rfl, rfl⟩ := hd'
          obtain ⟨v, f, q1, q2, _⟩ := A'.get (i := 0) (o := .ins c' fs) rfl
          have hv : v = .ref x := by
            cases q2 with
            | ins _ hs _ => rw [hs]; rfl
          subst hv
          obtain ⟨v2, f2, q3, q4, _⟩ := A2.get (i := 0) (o := .fz (.obj c' fs)) rfl
          rw [q1] at q3
          cases q3
          cases q4 with
          | fz rr => exact k2 (rr.me g.slf)
        | rt d =>
          obtain ⟨d', hd, k2⟩ := k.now s1 p1
          cases hd
        | bk =>
          obtain ⟨d', hd, k2⟩ := k.now s1 p1
          cases hd
        | ct =>
          obtain ⟨d', hd, k2⟩ := k.now s1 p1
          cases hd
      · rw [Kn.run, if_neg hl] at h
        exact h.no.elim
/-! ### calls by what a def promises -/
theorem callAt_fn {k : Nat} {a : Addr} {first : List V} {fd : FuncData} {ps : List Str} {f : List D → M D} (F : FnOk P w K mg base (L2.CX P w) k a fd ps (spM g f)) (hb : Binds K fd ps []) : CallAt P w K mg base g k (.ref a) first f := by
  intro X hP hw hK hm hbs hr E tk pins s σ H Q us vs I r h
  subst hP hw hK hm hbs
  exact run_fnS (E := WE E) F hr hb (passAt tk σ) I r h
theorem run_mk {X : Cx} {CX : CXT} {k : Nat} {f C : Addr} {fd : FuncData} {ps : List Str} {sp : Sp} {E : XK} {pins : List (Addr × Obj)} {σ : L2.St} {H : Hp} {s : Shared} {Q : VK} {us : List Value} {vs : List V} (M : Mk X.K C f) (F : FnOk X.prog X.w X.K X.mg X.base CX k f fd ps sp) (hr : Room (k + 1) X.A) (hb : Binds X.K fd ps [])
    (hx : PassesAt CX X σ E) (I : Inv X pins σ H s) (r : Vals vs us)
    (h : ∀ x dx, H x = none → H dx = none → dx ≠ x → sp (.ref x :: vs) (upd (upd H dx (.own x)) x (.ins C dx [])) (fun v H2 => v = .non ∧ Q (.ref x) H2) E) :
    wpAny (model X.prog X.w) X.A (call (.ref C) us) (EP X pins σ Q) X.xe s := by
  have hq := h (s.heap.objs.size + 1) s.heap.objs.size (I.hok.fresh (Nat.le_succ _)) (I.hok.fresh (Nat.le_refl _)) (Nat.ne_of_lt (Nat.lt_succ_self _))
  have I2 := Inv.made (C := C) I
  have r2 : Vals (V.ref (s.heap.objs.size + 1) :: vs) (Value.ref (s.heap.objs.size + 1) :: us) := .cons rfl r
  have hl : (Value.ref (s.heap.objs.size + 1) :: us ++ []).length = ps.length := by
    have e := r2.length
    rw [F.len _ _ _ _ hq] at e
    rw [List.append_nil]
    exact e.symm
  have hbb := hb _ (Value.ref (s.heap.objs.size + 1) :: us) I2.kIn hl
  rw [List.append_nil] at hbb
  refine wpAny_call (make_map (f := f) I.kIn M.makes M.init (beq_iff_eq.mp M.fn) (codeAny_mono (F.run _ X.stack _ _ ⟨Value.ref (s.heap.objs.size + 1) :: us, []⟩ (Value.ref (s.heap.objs.size + 1) :: us) _ _ E (hr.make C us [])
    (I2.env0.make C us []) hbb r2 hq) fun r s' hq' => ?_))
  cases r with
  | error e => exact hx pins _ _ e s' I2 hq'
  | ok fl =>
    cases fl with
    | ret u =>
      obtain ⟨v, H', I3, rv, ev, q3⟩ := I2.after hq'
      subst ev
      exact ⟨rv, ⟨V.ref (s.heap.objs.size + 1), H', I3, rfl, q3⟩⟩
    | next => exact False.elim hq'
    | brk => exact False.elim hq'
    | cont => exact False.elim hq'
theorem callAt_mk {k c : Nat} {a : Addr} {fd : FuncData} {ps : List Str} {f : List D → M D} (M : Mk K (g.cls c) a) (F : FnOk P w K mg base (L2.CX P w) k a fd ps (spMk g c f)) (hb : Binds K fd ps []) : CallAt P w K mg base g (k + 1) (.ref (g.cls c)) [] f := by
  intro X hP hw hK hm hbs hr E tk pins s σ H Q us vs I r h
  subst hP hw hK hm hbs
  obtain ⟨F0, pn, ds, e, p, rs, h⟩ := h
  exact run_mk (E := WE E σ) M F hr hb (passAt tk σ) I r fun x dx hx hdx ne => ⟨H, x, dx, vs, F0, pn, ds, rfl, hx, hdx, ne, rfl, e, p, rs, h.imp fun d p' F' H' _ _ k z => ⟨rfl, k _ z⟩⟩
end
end Bc
set_option Elab.async false
set_option linter.all false
set_option maxRecDepth 100000
set_option maxHeartbeats 4000000
/-! Part D6. All defs at once; the pen; the law. -/
namespace Bc
open PySem PySem.Spec L2

section
variable {P : Program} {w : World} {K : PySem.W.Frag} {mg : Str → Option Value} {base : Heap} {g : GE} {T : Tb} {tbl : Nat → Option Kn} {mt : Nat → Nat → Option Nat} {cl : Nat → Bool}
/-- a def of the module -/
structure FnF (g : GE) (K : PySem.W.Frag) (mg : Str → Option Value) (T : Tb) (tbl : Nat → Option Kn) (nm : Str) (f : Nat) : Prop where
  ex : ∃ (a : Addr) (fd : FuncData) (st : Stmt) (N ps : List Str) (body : List IS) (n : Nat), mg nm = some (.ref a) ∧ Fun K nm nm st a fd ∧ FnScope N ps (defScope st) ∧ Binds K fd ps [] ∧ tbl f = some (.fn N.length ps.length body) ∧ okSs (okS T N n (defScope st) (csOf (defScope st))) (defBody st) body = true
/-- a class that is made -/
structure MkF (g : GE) (K : PySem.W.Frag) (mg : Str → Option Value) (T : Tb) (tbl : Nat → Option Kn) (nm : Str) (f : Nat) : Prop where
  ex : ∃ (c : Nat) (a : Addr) (fd : FuncData) (st : Stmt) (N ps : List Str) (body : List IS) (n : Nat) (qual : Str), mg nm = some (.ref (g.cls c)) ∧ Mk K (g.cls c) a ∧ Fun K "__init__" qual st a fd ∧ FnScope N ps (defScope st) ∧ Binds K fd ps [] ∧ tbl f = some (.mk c N.length ps.length body) ∧
    okSs (okS T N n (defScope st) (csOf (defScope st))) (defBody st) body = true
/-- a method -/
structure MtF (g : GE) (K : PySem.W.Frag) (T : Tb) (tbl : Nat → Option Kn) (c : Nat) (nm : Str) (f : Nat) : Prop where
  ex : ∃ (a : Addr) (fd : FuncData) (st : Stmt) (N ps : List Str) (body : List IS) (n : Nat) (qual : Str), Meth K (g.cls c) nm a ∧ Cls K (g.cls c) ∧ (clsNames c).contains nm = false ∧ Fun K nm qual st a fd ∧ FnScope N ps (defScope st) ∧ Binds K fd ps [] ∧ tbl f = some (.fn N.length ps.length body) ∧
    okSs (okS T N n (defScope st) (csOf (defScope st))) (defBody st) body = true
theorem CallAt.mono {j k : Nat} {u : Value} {first : List V} {f : List D → M D} (h : CallAt P w K mg base g j u first f) (l : j ≤ k) : CallAt P w K mg base g k u first f := fun X hP hw hK hm hb hr => h X hP hw hK hm hb (hr.mono l)
theorem callAt_stuck {k : Nat} {u : Value} {first : List V} : CallAt P w K mg base g k u first (fun _ => M.stuck) := by
  intro X hP hw hK hm hb hr E tk pins s σ H Q us vs I r ⟨F, pn, ds, _, _, _, h⟩
  exact h.no.elim
theorem no_look {L : List Str} {nm : Str} (h : L.contains nm = false) (vs : List V) : (L.zip vs).lookup nm = none := by
  induction L generalizing vs with
  | nil => rfl
  | cons x L ih =>
    cases vs with
    | nil => rfl
    | cons v vs =>
      rw [List.contains_cons, Bool.or_eq_false_iff] at h
      rw [List.zip_cons_cons, List.lookup_cons, h.1]
      exact ih h.2 vs
/-- what all laws need of the text -/
structure AllF (g : GE) (K : PySem.W.Frag) (mg : Str → Option Value) (T : Tb) (tbl : Nat → Option Kn) (mt : Nat → Nat → Option Nat) (cl : Nat → Bool) : Prop where
  fns : ∀ nm f, T.fns.lookup nm = some f → FnF g K mg T tbl nm f ∨ MkF g K mg T tbl nm f
  mts : ∀ nm mm, T.mts.lookup nm = some mm → ∀ c f, mt c mm = some f → MtF g K T tbl c nm f
theorem fn_at {k : Nat} (hk : 2 ≤ k) (S : Sem) (n : Nat) (fa : ∀ x, Facts P (g.me x) T cl K mg) (hcl : S.cl = cl) (df : ∀ x, Defs (g.me x) S T P w K mg base k) (x : Addr) {nm : Str} {f : Nat} (h : FnF g K mg T tbl nm f ∨ MkF g K mg T tbl nm f) {F : List D → M D}
    (hF : F = fun ds => match tbl f with | some q => q.run S ds | none => M.stuck) : ∃ a, mg nm = some (.ref a) ∧ PySem.W.keepIn K (.ref a) = true ∧ CallAt P w K mg base (g.me x) (k + 2) (.ref a) [] F := by
  subst hcl
  rcases h with ⟨a, fd, st, N, ps, body, n, h1, h2, h3, h4, h5, h6⟩ | ⟨c, a, fd, st, N, ps, body, n, qual, h1, h2, h3, h4, h5, h6, h7⟩
  · rw [h5] at hF
    subst hF
    exact ⟨a, h1, h2.kp, (callAt_fn (def_ok (fa x) (df x) hk h2 h3 h6) h4).mono (by omega)⟩
  · rw [h6] at hF
    subst hF
    exact ⟨_, h1, h2.kp, callAt_mk h2 (mk_ok (g := g.me x) (fa x) (fun y => df y) hk h3 h4 h7) h5⟩
theorem defs_all (fa : ∀ x, Facts P (g.me x) T cl K mg) (A : AllF g K mg T tbl mt cl) : ∀ (n : Nat) (x : Addr), Defs (g.me x) (semN tbl mt cl n) T P w K mg base (2 * n + 2)
  | 0, x => ⟨fun nm f h => by
      have q : ∃ a, mg nm = some (.ref a) ∧ PySem.W.keepIn K (.ref a) = true := by
        rcases A.fns nm f h with ⟨a, fd, st, N, ps, body, n, h1, h2, _⟩ | ⟨c, a, fd, st, N, ps, body, n, qual, h1, h2, _⟩
        · exact ⟨a, h1, h2.kp⟩
        · exact ⟨_, h1, h2.kp⟩
      obtain ⟨a, h1, h2⟩ := q
      exact ⟨a, h1, h2, callAt_stuck⟩, fun nm mm h c f h2 => by
      obtain ⟨a, fd, st, N, ps, body, n, qual, h1, h2, h3, _⟩ := A.mts nm mm h c f h2
      exact ⟨a, h1, h2, no_look h3, fun v => callAt_stuck⟩⟩
  | n + 1, x => by
    have ih := fun y => defs_all fa A n y
    have hcl : (semN tbl mt cl n).cl = cl := by cases n <;> rfl
    refine ⟨fun nm f h => ?_, fun nm mm h c f h2 => ?_⟩
    · exact fn_at (Nat.le_add_left 2 (2 * n)) (semN tbl mt cl n) n fa hcl ih x (A.fns nm f h) (by funext ds; rfl)
    · obtain ⟨a, fd, st, N, ps, body, n', qual, h1, h3, h4, h5, h6, h7, h8, h9⟩ := A.mts nm mm h c f h2
      refine ⟨a, h1, h3, no_look h4, fun v => ?_⟩
      have e : (semN tbl mt cl (n + 1)).fn f = Kn.run (semN tbl mt cl n) (.fn N.length ps.length body) := by
        funext ds
        show (match tbl f with | some q => q.run (semN tbl mt cl n) ds | none => M.stuck) = _
        rw [h8]
      rw [e]
      exact (callAt_fn (def_ok (show Facts P (g.me x) T (semN tbl mt cl n).cl K mg by rw [hcl]; exact fa x) (ih x) (Nat.le_add_left 2 (2 * n)) h5 h6 h9) h7).mono (by omega)

/-! ### the pen -/
def penL (ca : Addr) : List (Key × V) := [(Sum.inr ("cells" : Str), .ref ca), (Sum.inr ("at" : Str), .int (0 : Nat)), (Sum.inr ("left" : Str), .int (0 : Nat))]
def spPen (K : PySem.W.Frag) : Sp := fun vs H Q _ => ∃ (a : Addr) (ns : List Int), vs = [.ref a] ∧ SqL K H a (ns.map V.int) ∧ ns.length ≤ 63 ∧ ∀ pa ca t, H pa = none → H t = none → H ca = none → pa ≠ t → pa ≠ ca → t ≠ ca →
  Q (.ref pa) (upd (upd (upd (upd H pa (.dK [])) t (.lst (ns.map V.int))) ca (.lst (ns.map V.int))) pa (.dK (penL ca)))
/-- what the pen's def looks like -/
def isPenDef (st : Stmt) : Bool := match defBody st with
  | [.Return (some (.Dict [some (.Constant (.str k1) _ _), some (.Constant (.str k2) _ _), some (.Constant (.str k3) _ _)]
      [.Call (.Name l _) [.Subscript (.Name s _) (.Slice none (some (.Constant (.int i) _ _)) none _) _] [] _, .Constant (.int z1) _ _, .Constant (.int z2) _ _] _)) _] =>
    k1 == "cells" && k2 == "at" && k3 == "left" && l == "list" && s == "_law_script" && i == 63 && z1 == 0 && z2 == 0
  | _ => false
theorem cut63 (ns : List Int) (h : ns.length ≤ 63) : cutV (ns.map V.int) none (some 63) = ns.map V.int := by
  unfold cutV
  have h1 : HT.sIx (ns.map V.int).length 0 none = 0 := rfl
  have h2 : HT.sIx (ns.map V.int).length (ns.map V.int).length (some 63) = (ns.map V.int).length := by
    rw [List.length_map]
    unfold HT.sIx
    simp
    omega
  rw [h1, h2, List.drop_zero]
  simp only [Nat.sub_zero]
  exact List.take_length
theorem pen_ok {a : Addr} {fd : FuncData} {st : Stmt} (F : Fun K "_law_pen" "_law_pen" st a fd) (SC : FnScope ["_law_script"] ["_law_script"] (defScope st)) (hv : visB (defScope st) "_law_script" = true) (hg : glB (defScope st) "list" = true) (hm : mg "list" = none) (hd : isPenDef st = true) :
    FnOk P w K mg base (L2.CX P w) 1 a fd ["_law_script"] (spPen K) := by
  refine F.okX SC (fun vs H Q E h => ?_) (fun cdv A outer s H vs Q E hr h => ?_)
  · obtain ⟨a, ns, rfl, _⟩ := h
    rfl
  · obtain ⟨sa, ns, rfl, hS, hlen, hk⟩ := h
    unfold isPenDef at hd
    split at hd
    · rename_i hb
      rw [hb]
      simp only [Bool.and_eq_true, beq_iff_eq] at hd
      obtain ⟨⟨⟨⟨⟨⟨⟨e1, e2⟩, e3⟩, e4⟩, e5⟩, e6⟩, e7⟩, e8⟩ := hd
      subst e1 e2 e3 e4 e5 e6 e7 e8
      have hvis : Vis (cxOf (L2.CX P w) P w K mg base ["_law_script"] "_law_pen" (defScope st) a cdv A outer s H E).env.scope "_law_script" := by
        unfold visB at hv
        simp only [Bool.or_eq_true, beq_iff_eq] at hv
        rcases hv with (h | h) | h
        · exact .inl h
        · exact .inr (.inl h)
        · exact .inr (.inr h)
      have hgl : Gl (cxOf (L2.CX P w) P w K mg base ["_law_script"] "_law_pen" (defScope st) a cdv A outer s H E) "list" := eq_of_beq hg
      refine ⟨_, pss_one (ps_ret (pe_disp (pps_cons pe_str (pe_callTy call_list_of hgl hm PyProof.Rows.Boot.«list» (pa_cons (pe_slice sl_list (pe_var (i := 0) rfl hvis) po_none (po_some pe_int)) pa_nil) (by decide +kernel) (by decide +kernel)) (pps_cons pe_str pe_int (pps_cons pe_str pe_int pps_nil))) rfl rfl (by simp) (by simp))), ?_⟩
      intro pa hpa
      refine ⟨_, rfl, 63, rfl, sa, ns.map V.int, rfl, ?_, fun t ht => ?_⟩
      · have : Same H (upd H pa (.dK [])) := same_new (Same.refl H) hpa
        exact this.seq hS
      rw [cut63 ns hlen]
      have ht0 : H t = none := by
        cases z : H t with
        | none => rfl
        | some u =>
          have : t ≠ pa := ne_of_none z hpa
          rw [upd_ne this, z] at ht
          cases ht
      have tp : t ≠ pa := fun e => by
        rw [e, upd_same] at ht
        cases ht
      refine ⟨t, ns.map V.int, rfl, .inl (.inl (.inl upd_same)), fun ca hca => ?_⟩
      have cat : ca ≠ t := fun e => by
        rw [e, upd_same] at hca
        cases hca
      have cap : ca ≠ pa := fun e => by
        rw [e, upd_ne (Ne.symm tp), upd_same] at hca
        cases hca
      have hca0 : H ca = none := by
        rw [upd_ne cat, upd_ne cap] at hca
        exact hca
      refine ⟨by rw [upd_ne (Ne.symm cap), upd_ne (Ne.symm tp), upd_same], penL ca, rfl, (by show 3 ≤ 15; omega), ?_⟩
      exact hk pa ca t hpa ht0 hca0 (Ne.symm tp) (Ne.symm cap) (Ne.symm cat)
    · cases hd

/-! ### the law -/
def spLaw (K : PySem.W.Frag) : Sp := fun vs H Q _ => ∃ (a : Addr) (ns : List Int), vs = [.ref a] ∧ SqL K H a (ns.map V.int) ∧ ns.length ≤ 63 ∧ ∀ H', Q (.bl true) H'
/-- the law's store behind its first statement -/
def lawSt (n : Nat) (ns : List Int) : Sto := some (.fz (.scr ns)) :: some (.fz .pen) :: List.replicate (n - 2) none
def penOf (ns : List Int) : Pen := ⟨ns, 0, 0⟩
theorem PSs.ex {X : Cx} {α : Type} {ss : List Stmt} {t : α → TS} (h : ∀ a, PSs X ss (t a)) : PSs X ss (fun D σ H => ∃ a, t a D σ H) := ⟨fun pins s σ H D I ⟨a, hw⟩ => (h a).run pins s σ H D I hw⟩
/-- .. it calls the pen's def first -/
def isLawDef (st : Stmt) : Option (List Stmt) := match defBody st with
  | .Assign [.Name p _] (.Call (.Name f _) [.Name s _] [] _) _ :: rest => if p = "_law_pen_here" ∧ f = "_law_pen" ∧ s = "_law_script" then some rest else none
  | _ => none
/-- places that the law's own list of classes has, at any pen -/
def GE.at_ (g : GE) (pa : Addr) : GE := { g with pa := pa }
theorem law_ok {n : Nat} {a ap : Addr} {fd fdp : FuncData} {st : Stmt} {N : List Str} {rest : List Stmt} {body : List IS} {m : Nat} (F : Fun K "law" "law" st a fd) (SC : FnScope N ["_law_script"] (defScope st)) (hN : N.take 2 = (["_law_script", "_law_pen_here"] : List Str))
    (hst : isLawDef st = some rest) (hv : visB (defScope st) "_law_script" = true) (hp : (defScope st).names.lookup ("_law_pen_here" : Str) = some .local) (hgp : glB (defScope st) "_law_pen" = true)
    (FP : FnOk P w K mg base (L2.CX P w) 1 ap fdp ["_law_script"] (spPen K)) (hmp : mg "_law_pen" = some (.ref ap)) (kp : PySem.W.keepIn K (.ref ap) = true) (bp : Binds K fdp ["_law_script"] [])
    (fa : ∀ pa, Facts P (g.at_ pa) T cl K mg) (df : ∀ pa, Defs (g.at_ pa) (semN tbl mt cl n) T P w K mg base (2 * n + 2)) (hn : 1 ≤ n)
    (ok : okSs (okS T N m (defScope st) (csOf (defScope st))) rest body = true)
    (hlaw : ∀ ns : List Int, ns.length ≤ 63 → ∃ σ' p', exs (semN tbl mt cl n) body (lawSt N.length ns) (penOf ns) = some (.ok (.rt (.bl true), σ'), p')) :
    FnOk P w K mg base (L2.CX P w) (2 * n + 3) a fd ["_law_script"] (spLaw K) := by
  refine F.okX SC (fun vs H Q E h => ?_) (fun cdv A outer s H vs Q E hr h => ?_)
  · obtain ⟨a, ns, rfl, _⟩ := h
    rfl
  · obtain ⟨sa, ns, rfl, hS, hlen, hk⟩ := h
    unfold isLawDef at hst
    split at hst
    · rename_i hb
      rw [hb]
      obtain ⟨⟨e1, e2, e3⟩, e4⟩ := some_if hst
      subst e1 e2 e3 e4
      have hcl : (semN tbl mt cl n).cl = cl := by cases n <;> rfl
      have C := fun pa => cs_of (outer := outer) (H := H) (E := E) (cs := csOf (defScope st)) (show Facts P (g.at_ pa) T (semN tbl mt cl n).cl K mg by rw [hcl]; exact fa pa) (df pa) SC (Nat.le_add_left 2 (2 * n)) hr
      have rd := fun pa => okSs_s (C pa).flat (fun s i hs => okS_all m _ _ _ _ _ _ (C pa) hs) ok
      have i0 : N[0]? = some ("_law_script" : Str) := by
        have := congrArg (fun l : List Str => l[0]?) hN
        simpa using this
      have i1 : N[1]? = some ("_law_pen_here" : Str) := by
        have := congrArg (fun l : List Str => l[1]?) hN
        simpa using this
      have hvis : Vis (cxOf (L2.CX P w) P w K mg base N "law" (defScope st) a cdv A outer s H E).env.scope "_law_script" := (C 0).ct.vis hv
      have hgl : Gl (cxOf (L2.CX P w) P w K mg base N "law" (defScope st) a cdv A outer s H E) "_law_pen" := (C 0).ct.gl hgp
      refine ⟨_, pss_cons (ps_set (i := 1) SC.nd i1 (Or.inl hp) (pe_call FP (hr.mono (by omega)) hgl hmp kp bp .nil passL (pa_cons (pe_var (i := 0) i0 hvis) pa_nil) (by decide +kernel)) rfl (.inr hp)) (PSs.ex rd), ?_⟩
      refine ⟨_, rfl, sa, ns, rfl, hS, hlen, fun pa ca t hpa ht hca pt pc tc => ?_⟩
      obtain ⟨σ', p', hrun⟩ := hlaw ns hlen
      -- the state behind the pen's making
      have hN2 : N.length = N.length - 2 + 2 := by
        have := congrArg List.length hN
        rw [List.length_take] at this
        simp at this
        omega
      have hst' : (L2.start N [V.ref sa]).set 1 (some (.ref pa)) = some (.ref sa) :: some (.ref pa) :: List.replicate (N.length - 2) none := by
        unfold L2.start
        rw [hN2]
        rfl
      generalize hH' : upd (upd (upd (upd H pa (.dK [])) t (.lst (ns.map V.int))) ca (.lst (ns.map V.int))) pa (.dK (penL ca)) = H'
      have hF : Same (upd H ca (.lst (ns.map V.int))) H' := fun b o h => by
        rw [← hH']
        by_cases hb : b = ca
        · subst hb
          rw [upd_same] at h
          rw [upd_ne (Ne.symm pc), upd_same]
          exact h
        · rw [upd_ne hb] at h
          rw [upd_ne (ne_of_none h hpa), upd_ne hb, upd_ne (ne_of_none h ht), upd_ne (ne_of_none h hpa)]
          exact h
      have pen : PenAt (g.at_ pa) (upd H ca (.lst (ns.map V.int))) H' (penOf ns) := by
        refine ⟨?_, ca, ?_, upd_same⟩
        · show upd H ca _ pa = none
          rw [upd_ne pc]
          exact hpa
        · show H' pa = _
          rw [← hH', upd_same]
          rfl
      have hsm : Same H (upd H ca (.lst (ns.map V.int))) := same_new (Same.refl H) hca
      refine ⟨pa, upd H ca (.lst (ns.map V.int)), H', upd H ca (.lst (ns.map V.int)), lawSt N.length ns, penOf ns, ⟨Stp.refl hF, pen, [] ++ ([] ++ []), ?_, (by simp), fun a ha => by simp at ha⟩, ?_⟩
      · show OwnSl _ _ _ _ ((L2.start N [V.ref sa]).set 1 (some (.ref pa))) _
        rw [hst']
        refine .yes (.fz (.scr ?_)) (.yes (.fz .pen) ?_)
        · have := hsm.seq hS
          rw [← (fa pa).fk]
          exact this
        · have : ∀ k, OwnSl (g.at_ pa) (upd H ca (.lst (ns.map V.int))) H' (List.replicate k none) (List.replicate k none) [] := fun k => by
            induction k with
            | zero => exact .nil
            | succ k ih => exact .no ih
          exact this _
      · refine ⟨_, hrun, fun F' H2 s2 q2 _ v hv => ?_⟩
        cases hv
        exact hk H2
    · cases hst
end
end Bc
set_option Elab.async false
set_option linter.all false
set_option maxRecDepth 100000
set_option maxHeartbeats 4000000
/-! Part J. What joins a law's text with its terms. -/
namespace Bc
open PySem PySem.Spec L2 PySem.W

/-- an address by a number -/
def adr (l : List (Nat × Addr)) (d : Addr) (c : Nat) : Addr := (l.lookup c).getD d
theorem isSome_getD {α : Type} {o : Option α} {d : α} (h : o.isSome = true) : o = some (o.getD d) := by
  cases o with
  | none => cases h
  | some a => rfl
/-- what is looked at of a def's text, once -/
structure StOk (T : Tb) (st : Stmt) (nm qual : Str) (N ps : List Str) (body : List IS) : Prop where
  sc : FnScope N ps (defScope st)
  ok : okSs (okS T N 60 (defScope st) (csOf (defScope st))) (defBody st) body = true
  bd : ∀ (kV doc pm : Value) (an : Option Addr) (cdv ct : Value) (us : List Value), us.length = ps.length → bindArgs (fnOf nm qual (defArgs st) (defBody st) (defScope st) .none kV doc pm an cdv ct) ⟨us, []⟩ = pure (ps.zip us)
def fsB (N ps : List Str) (sc : Scope) : Bool :=
  decide (sc.kind = .function) && !sc.isCoroutine && !sc.isGenerator && decide N.Nodup && decide (N.take ps.length = ps) && ps.all (fun x => decide (sc.names.lookup x = some .local) || decide (sc.names.lookup x = some .cell)) && sc.names.all (fun y => !decide (y.2 = .free))
theorem fsB_ok {N P : List Str} {sc : Scope} (h : fsB N P sc = true) : FnScope N P sc := by
  unfold fsB at h
  simp only [Bool.and_eq_true, Bool.not_eq_true', decide_eq_true_eq, List.all_eq_true, Bool.or_eq_true, decide_eq_false_iff_not] at h
  obtain ⟨⟨⟨⟨⟨⟨h1, h2⟩, h3⟩, h4⟩, h5⟩, h6⟩, h7⟩ := h
  exact ⟨h1, h2, h3, h4, h5, h6, h7⟩
def FnK (K : Frag) (nm qual : Str) (st : Stmt) (f : Addr) : Prop := ∃ fd, Fun K nm qual st f fd
theorem fnK_mk {K : Frag} {nm qual : Str} {st : Stmt} {f : Addr} {oc : Value} {od an : Option Addr} {osl : Array (Option Value)} {kV doc pm cdv ct : Value} (l : K.lookup f = some ⟨oc, od, .func (fnOf nm qual (defArgs st) (defBody st) (defScope st) .none kV doc pm an cdv ct), osl⟩)
    (c : codeIn K cdv qual = true) (k : keepIn K (.ref f) = true) : FnK K nm qual st f := ⟨_, fun_mk l c k⟩
theorem FnK.go {K : Frag} {nm qual : Str} {st : Stmt} {f : Addr} {T : Tb} {N ps : List Str} {body : List IS} (h : FnK K nm qual st f) (s : StOk T st nm qual N ps body) : ∃ fd, Fun K nm qual st f fd ∧ Binds K fd ps [] := by
  obtain ⟨fd, F⟩ := h
  exact ⟨fd, F, F.binds s.bd⟩
/-- a class of the package -/
structure ClsK (K : Frag) (C : Addr) (fl : List Str) : Prop where
  cl : Cls K C
  na : ∀ f ∈ fl, NoAttr K C f
  mks : makesIn K C = true
  kp : keepIn K (.ref C) = true
section
variable {K : Frag} {mg : Str → Option Value} {h : Heap} {g : GE} {T : Tb} {tbl : Nat → Option Kn}
theorem fnF_of {nm : Str} {i : Nat} {f : Addr} {st : Stmt} {N ps : List Str} {body : List IS} (X : K.In h) (G : h.Ns mainGlobals mg) (a : nsIn K mainGlobals nm = some (some (.ref f))) (F : FnK K nm nm st f) (s : StOk T st nm nm N ps body) (ht : tbl i = some (.fn N.length ps.length body)) :
    FnF g K mg T tbl nm i ∨ MkF g K mg T tbl nm i := by
  obtain ⟨fd, F, b⟩ := F.go s
  exact .inl ⟨f, fd, st, N, ps, body, 60, mg_of X G a, F, s.sc, b, ht, s.ok⟩
theorem mkF_of {nm qual : Str} {i c : Nat} {f : Addr} {st : Stmt} {N ps fl : List Str} {body : List IS} (X : K.In h) (G : h.Ns mainGlobals mg) (a : nsIn K mainGlobals nm = some (some (.ref (g.cls c)))) (ck : ClsK K (g.cls c) fl) (m : findIn K (.ref (g.cls c)) "__init__" = some (some (.ref f))) (i1 : isFn K (.ref f) = true)
    (F : FnK K "__init__" qual st f) (s : StOk T st "__init__" qual N ps body) (ht : tbl i = some (.mk c N.length ps.length body)) : FnF g K mg T tbl nm i ∨ MkF g K mg T tbl nm i := by
  obtain ⟨fd, F, b⟩ := F.go s
  exact .inr ⟨c, f, fd, st, N, ps, body, 60, qual, mg_of X G a, ⟨ck.mks, m, i1, ck.kp⟩, F, s.sc, b, ht, s.ok⟩
theorem mtF_of {nm qual : Str} {i c : Nat} {f : Addr} {st : Stmt} {N ps fl : List Str} {body : List IS} (ck : ClsK K (g.cls c) fl) (m : findIn K (.ref (g.cls c)) nm = some (some (.ref f))) (i1 : isFn K (.ref f) = true)
    (F : FnK K nm qual st f) (s : StOk T st nm qual N ps body) (ht : tbl i = some (.fn N.length ps.length body)) (hn : (clsNames c).contains nm = false) : MtF g K T tbl c nm i := by
  obtain ⟨fd, F, b⟩ := F.go s
  exact ⟨f, fd, st, N, ps, body, 60, qual, ⟨m, i1, F.kp⟩, ck.cl, hn, F, s.sc, b, ht, s.ok⟩
end
theorem all_nil' {α : Type} {P : α → Prop} : ∀ p ∈ ([] : List α), P p := fun p hp => by simp at hp
theorem all_cons' {α : Type} {P : α → Prop} {a : α} {l : List α} (h : P a) (r : ∀ p ∈ l, P p) : ∀ p ∈ a :: l, P p := fun p hp => by
  rcases List.mem_cons.mp hp with e | e
  · rw [e]
    exact h
  · exact r p e
theorem look_mem {α β : Type} [BEq α] [LawfulBEq α] {a : α} {b : β} : ∀ {l : List (α × β)}, l.lookup a = some b → (a, b) ∈ l
  | [], h => by cases h
  | (x, y) :: l, h => by
    rw [List.lookup_cons] at h
    split at h
    · rename_i e
      cases h
      rw [eq_of_beq e]
      exact List.mem_cons_self
    · exact List.mem_cons_of_mem _ (look_mem h)
/-! ### errors -/
structure ErrK (P : Program) (K : Frag) (qual : Str) (st : Stmt) (C : Addr) (fld : Str) : Prop where
  ex : ∃ (f cc cda : Addr) (oc : Value) (od : Option Addr) (osl : Array (Option Value)) (doc pm ctv : Value), findIn K (.ref C) "__init__" = some (some (.ref f)) ∧ typeIn K (.ref f) = some (.type "function") ∧
    K.lookup f = some ⟨oc, od, .func (NdefX.NF.fd ⟨"__init__", qual, defArgs st, defBody st, defScope st, [("__class__", cc)], cda⟩ doc pm ctv), osl⟩ ∧ codeIn K (.ref cda) qual = true ∧
    (∃ ccl cdd ccs vs file tf, K.lookup cda = some ⟨ccl, cdd, .fields vs, ccs⟩ ∧ vs[2]? = some (.str file tf) ∧ ((P.main.file : Str) == file) = true) ∧ (∃ cl cld csl, K.lookup cc = some ⟨cl, cld, .cell (some (.ref C)), csl⟩)
  oex : OexC K C
  cls : ∃ cd, clsIn K C = some cd
  mro : mroIn K C (.ref C) = some true
  sup : ks_superIn K C C "__init__" = some (some (.builtin "ValueError.__init__"))
  ve : subIn K (.ref C) (.type "ValueError") = some true
  st_ : nsIn K cStatics "thirdparty.any" = some none
  no : findIn K (.ref C) fld = some none
theorem errK_mk {P : Program} {K : Frag} {qual : Str} {st : Stmt} {C : Addr} {fld : Str} {f cc cda : Addr} {oc : Value} {od : Option Addr} {osl : Array (Option Value)} {doc pm ctv : Value} {ccl : Value} {cdd : Option Addr} {ccs : Array (Option Value)} {vs : Array Value} {file : Str} {tf : Tok} {cl : Value} {cld : Option Addr} {csl : Array (Option Value)} {cd : ClassData}
    (e1 : findIn K (.ref C) "__init__" = some (some (.ref f))) (e2 : typeIn K (.ref f) = some (.type "function")) (e3 : K.lookup f = some ⟨oc, od, .func (NdefX.NF.fd ⟨"__init__", qual, defArgs st, defBody st, defScope st, [("__class__", cc)], cda⟩ doc pm ctv), osl⟩) (e4 : codeIn K (.ref cda) qual = true)
    (e5 : K.lookup cda = some ⟨ccl, cdd, .fields vs, ccs⟩) (e6 : vs[2]? = some (.str file tf)) (e7 : ((P.main.file : Str) == file) = true) (e8 : K.lookup cc = some ⟨cl, cld, .cell (some (.ref C)), csl⟩)
    (o : OexC K C) (e9 : clsIn K C = some cd) (e10 : mroIn K C (.ref C) = some true) (e11 : ks_superIn K C C "__init__" = some (some (.builtin "ValueError.__init__"))) (e12 : subIn K (.ref C) (.type "ValueError") = some true) (e13 : nsIn K cStatics "thirdparty.any" = some none) (e14 : findIn K (.ref C) fld = some none) : ErrK P K qual st C fld :=
  ⟨⟨_, _, _, _, _, _, _, _, _, e1, e2, e3, e4, ⟨_, _, _, _, _, _, e5, e6, e7⟩, ⟨_, _, _, e8⟩⟩, o, ⟨_, e9⟩, e10, e11, e12, e13, e14⟩
theorem oexC_mk {K : Frag} {C : Addr} {nm q N bs bm sn sub ab col dd k0 k1 k2 k3 k5} (o1 : K.lookup C = some (excClassObj nm q C N bs bm true sn sub ab col dd k0 k1 k2 k3 k5 "ValueError.__new__")) (o2 : PySem.HandSPX.refsVE bm = true) (o3 : findIn K (.ref C) "__setattr__" = some (some (.builtin "object.__setattr__")))
    (o4 : subIn K (.ref C) (.type "BaseException") = some true) (o5 : typeIn K (.ref C) = some (.type "type")) (o6 : keepIn K (.ref C) = true) : OexC K C := ⟨⟨_, _, _, _, _, _, _, _, _, _, _, _, _, _, _, o1, o2⟩, o3, o4, o5, o6⟩
/-- .. and of its text alone -/
structure ErrS (P : Program) (qual : Str) (st : Stmt) (sn pn fld : Str) : Prop where
  body : ∃ s1 s2, defBody st = [s1, s2] ∧ isSuper s1 = true ∧ isSelfSet s2 sn pn fld = true
  par : ∃ ar : Arg, ((defArgs st).posonlyargs ++ (defArgs st).args).head? = some ar ∧ ar.arg = sn
  sc : NdefX.NScope [sn, pn, "__class__"] [sn, pn] ["__class__"] (defScope st)
  sup : (defScope st).names.lookup ("super" : Str) = some .globalImplicit
  dbg : dbgB sn = false ∧ dbgB pn = false ∧ (sn == ("__classdict__" : Str)) = false ∧ (pn == ("__classdict__" : Str)) = false
  top : (P.main.scope.names.lookup ("super" : Str)).isSome = false
  bd : ∀ (cl : List (Str × Addr)) (doc pm ctv : Value) (c : Addr) (us : List Value), us.length = [sn, pn].length → bindArgs (NdefX.NF.fd ⟨"__init__", qual, defArgs st, defBody st, defScope st, cl, c⟩ doc pm ctv) ⟨us, []⟩ = pure ([sn, pn].zip us)
theorem errF_of {P : Program} {K : Frag} {mg : Str → Option Value} {qual : Str} {st : Stmt} {C : Addr} {sn pn fld : Str} (k : ErrK P K qual st C fld) (s : ErrS P qual st sn pn fld) (hs : mg "super" = none) : ∃ f, ErrF P K mg C f fld := by
  obtain ⟨f, cc, cda, oc, od, osl, doc, pm, ctv, h1, h2, h3, h4, h5, h6⟩ := k.ex
  obtain ⟨s1, s2, b1, b2, b3⟩ := s.body
  refine ⟨f, ⟨⟨"__init__", qual, defArgs st, defBody st, defScope st, [("__class__", cc)], cda⟩, cc, sn, pn, oc, od, osl, doc, pm, ctv, s1, s2, rfl, b1, b2, b3, h3, h4, ?_, s.sc, s.sup, s.dbg.1, s.dbg.2.1, s.dbg.2.2.1, s.dbg.2.2.2, k.no, hs, ?_, h1, h2⟩⟩
  · exact ⟨k.oex, ⟨_, _, _, h3⟩, s.par, h5, h6, k.cls, k.mro, k.sup, k.ve, k.st_, s.top⟩
  · exact .all (s.bd _ _ _ _ _)
theorem hds_of {K : Frag} {l : List (Nat × Addr)} {d : Addr} {c : Nat} {E : Addr} (h : ∀ p ∈ l, exmOne K (.ref p.2) (.ref E) = some (decide (c = p.1 ∨ c = 8))) (hd : exmOne K (.ref d) (.ref E) = some (decide (c = 8))) (hc : (l.lookup c).isSome = true) :
    ∀ c1, exmOne K (.ref (adr l d c1)) (.ref E) = some (decide (c = c1 ∨ c = 8)) := fun c1 => by
  unfold adr
  cases e : l.lookup c1 with
  | some x => exact h _ (look_mem e)
  | none =>
    show exmOne K (.ref d) (.ref E) = _
    rw [hd]
    have : ¬ c = c1 := fun q => by
      rw [q, e] at hc
      cases hc
    simp [this]
end Bc
set_option Elab.async false
set_option linter.all false
set_option maxRecDepth 100000
set_option maxHeartbeats 4000000
/-! Part P1. Reckoning with terms: simp rules, and what a drawing piece may answer (OkX). -/
namespace Bc.Pl
open PySem PySem.Spec L2

section
variable {α β γ : Type}
@[simp] theorem M.bind_ret (a : α) (f : α → M β) : M.bind (M.ret a) f = f a := (rfl)
@[simp] theorem M.bind_exc (e : Exc) (f : α → M β) : M.bind (M.exc e) f = M.exc e := (rfl)
@[simp] theorem M.bind_stuck (f : α → M β) : M.bind M.stuck f = M.stuck := (rfl)
@[simp] theorem M.bind_bind (x : M α) (f : α → M β) (g : β → M γ) : M.bind (M.bind x f) g = M.bind x fun a => M.bind (f a) g := by
  funext p
  unfold M.bind
  cases x p with
  | none => rfl
  | some r =>
    obtain ⟨r, p'⟩ := r
    cases r <;> rfl
@[simp] theorem M.of_some (a : α) : M.of (some a) = M.ret a := (rfl)
@[simp] theorem M.of_none : M.of (none : Option α) = M.stuck := (rfl)
theorem M.bind_ret_r (x : M α) : M.bind x M.ret = x := by
  funext p
  unfold M.bind
  cases x p with
  | none => rfl
  | some r =>
    obtain ⟨r, p'⟩ := r
    cases r <;> rfl
@[simp] theorem M.safe_ret (a : α) : M.safe (M.ret a) = M.ret a := (rfl)
@[simp] theorem slot_some (o : O) : slot? (some (some o)) = some o := (rfl)
@[simp] theorem slot_none : slot? (some none) = none := (rfl)
@[simp] theorem view_fz (m : Bool) (d : D) : view m (.fz d) = some (.fz d) := (rfl)
@[simp] theorem view_tlst (os : List O) : view true (.lst os) = some (.lst os) := (rfl)
@[simp] theorem view_tdct (t : Bool) (k : List DK) (v : List D) : view true (.dct t k v) = some (.dct t k v) := (rfl)
@[simp] theorem view_tins (c : Nat) (v : List D) : view true (.ins c v) = some (.ins c v) := (rfl)
@[simp] theorem toD_fz (d : D) : (O.fz d).toD = d := by rw [O.toD]
@[simp] theorem toD_lst (os : List O) : (O.lst os).toD = .lst (os.map O.toD) := by rw [O.toD, O.toDs_map]
@[simp] theorem toD_dct (t : Bool) (k : List DK) (v : List D) : (O.dct t k v).toD = .dct t k v := by rw [O.toD]
@[simp] theorem toD_ins (c : Nat) (v : List D) : (O.ins c v).toD = .obj c v := by rw [O.toD]
/-- frozen items -/
def fzs (ds : List D) : List O := ds.map O.fz
@[simp high] theorem fzs_fold (ds : List D) : ds.map O.fz = fzs ds := (rfl)
@[simp high] theorem fzs_fold' (ds : List D) : ds.map (fun d => O.fz d) = fzs ds := (rfl)
@[simp] theorem fzs_len (ds : List D) : (fzs ds).length = ds.length := by unfold fzs; exact List.length_map ..
@[simp] theorem fzs_get (ds : List D) (i : Nat) : (fzs ds)[i]? = (ds[i]?).map O.fz := by unfold fzs; exact List.getElem?_map ..
@[simp] theorem fzs_app (ds es : List D) : fzs ds ++ fzs es = fzs (ds ++ es) := by unfold fzs; exact (List.map_append ..).symm
@[simp] theorem fzs_app1 (ds : List D) (d : D) : fzs ds ++ [O.fz d] = fzs (ds ++ [d]) := by unfold fzs; simp only [List.map_append, List.map_cons, List.map_nil]
@[simp] theorem map_toD_fz (ds : List D) : (fzs ds).map O.toD = ds := by
  unfold fzs
  rw [List.map_map]
  have : (O.toD ∘ O.fz) = id := by funext d; simp
  rw [this, List.map_id]
@[simp] theorem isFz_fz (d : D) : (O.fz d).isFz = some d := (rfl)
@[simp] theorem asInt_int (i : Int) : asInt? (.fz (.int i)) = some i := (rfl)
@[simp] theorem asBl_bl (b : Bool) : asBl (.fz (.bl b)) = M.ret b := (rfl)
@[simp] theorem bl_bl (b : Bool) : bl? (.fz (.bl b)) = some b := (rfl)
@[simp] theorem isPen_pen : isPen (.fz .pen) = some () := (rfl)
@[simp] theorem text_str (s : List Nat) : text? (.fz (.str s)) = some s := (rfl)
@[simp] theorem sign_str (c : Nat) : sign? (.fz (.str [c])) = some c := (rfl)
@[simp] theorem obj_obj (c : Nat) (fs : List D) : obj? (.fz (.obj c fs)) = some (c, fs) := (rfl)
@[simp] theorem lst_lst (ds : List D) : (O.fz (.lst ds)).lst? = some ds := (rfl)
@[simp] theorem lst_own (ds : List D) : (O.lst (fzs ds)).lst? = some ds := allFz_fz ds
@[simp] theorem seq_lst (ds : List D) : (O.fz (.lst ds)).seq? = some ds := (rfl)
@[simp] theorem seq_tup (ds : List D) : (O.fz (.tup ds)).seq? = some ds := (rfl)
@[simp] theorem seq_own (ds : List D) : (O.lst (fzs ds)).seq? = some ds := by
  unfold O.seq?
  rw [lst_own]
@[simp] theorem dct_fz (t : Bool) (k : List DK) (v : List D) : (O.fz (.dct t k v)).dct? = some (t, k, v) := (rfl)
@[simp] theorem dct_own (t : Bool) (k : List DK) (v : List D) : (O.dct t k v).dct? = some (t, k, v) := (rfl)
@[simp] theorem seqD_lst (ds : List D) : seqD (.lst ds) = some ds := (rfl)
@[simp] theorem seqD_tup (ds : List D) : seqD (.tup ds) = some ds := (rfl)
@[simp] theorem seqD_str (s : List Nat) : seqD (.str s) = some (s.map fun c => .str [c]) := (rfl)
@[simp] theorem bind_nm (i : Nat) (d : D) (σ : Sto) : bindTg (.nm i) d σ = some (σ.set i (some (.fz d))) := (rfl)
@[simp] theorem bind_tp (is : List Nat) (ds : List D) (σ : Sto) : bindTg (.tp is) (.tup ds) σ = setAll is ds σ := (rfl)
@[simp] theorem bind_tpl (is : List Nat) (ds : List D) (σ : Sto) : bindTg (.tp is) (.lst ds) σ = setAll is ds σ := (rfl)
@[simp] theorem setAll_nil (σ : Sto) : setAll [] [] σ = some σ := (rfl)
@[simp] theorem setAll_cons (i : Nat) (is : List Nat) (d : D) (ds : List D) (σ : Sto) : setAll (i :: is) (d :: ds) σ = setAll is ds (σ.set i (some (.fz d))) := (rfl)
@[simp] theorem setOs_nil (σ : Sto) : setOs [] [] σ = some σ := (rfl)
@[simp] theorem setOs_cons (i : Nat) (is : List Nat) (d : O) (ds : List O) (σ : Sto) : setOs (i :: is) (d :: ds) σ = setOs is ds (σ.set i (some d)) := (rfl)
@[simp] theorem wipe_nil (σ : Sto) : wipeO σ [] = σ := (rfl)
@[simp] theorem wipe_cons (σ : Sto) (v : Nat) (vs : List Nat) : wipeO σ (v :: vs) = (wipeO σ vs).set v none := (rfl)

/-! ### terms -/
section
variable (S : Sem) (m : Bool) (σ : Sto)
@[simp] theorem ev_var (i : Nat) : ev S m (.var i) σ = M.bind (M.of (slot? σ[i]?)) fun o => M.of (view m o) := by rw [ev]
@[simp] theorem ev_con (d : D) : ev S m (.con d) σ = M.ret (.fz d) := by rw [ev]
@[simp] theorem ev_bin (op : BO) (a b : IE) : ev S m (.bin op a b) σ = M.bind (ev S true a σ) fun x => M.bind (ev S true b σ) fun y => M.of (binO op x y) := by rw [ev]
@[simp] theorem ev_neg (a : IE) : ev S m (.neg a) σ = M.bind (ev S false a σ) fun x => M.of (negO x) := by rw [ev]
@[simp] theorem ev_cmp (op : CO) (a b : IE) : ev S m (.cmp op a b) σ = M.bind (ev S true a σ) fun x => M.bind (ev S true b σ) fun y => M.of ((cmpO op x y).map fun c => .fz (.bl c)) := by rw [ev]
@[simp] theorem ev_chain (op1 op2 : CO) (a b c : IE) : ev S m (.chain op1 op2 a b c) σ = M.bind (ev S true a σ) fun x => M.bind (ev S true b σ) fun y => M.bind (M.of (cmpO op1 x y)) fun r =>
    if r then M.bind (ev S true c σ) fun z => M.of ((cmpO op2 y z).map fun c => .fz (.bl c)) else M.ret (.fz (.bl false)) := by rw [ev]
@[simp] theorem ev_and (a b : IE) : ev S m (.and_ a b) σ = M.bind (ev S false a σ) fun x => M.bind (asBl x) fun c => if c then M.bind (ev S false b σ) fun y => M.bind (asBl y) fun e => M.ret (.fz (.bl e)) else M.ret (.fz (.bl false)) := by rw [ev]
@[simp] theorem ev_or (a b : IE) : ev S m (.or_ a b) σ = M.bind (ev S false a σ) fun x => M.bind (asBl x) fun c => if c then M.ret (.fz (.bl true)) else M.bind (ev S false b σ) fun y => M.bind (asBl y) fun e => M.ret (.fz (.bl e)) := by rw [ev]
@[simp] theorem ev_not (a : IE) : ev S m (.not_ a) σ = M.bind (ev S false a σ) fun x => M.bind (asBl x) fun c => M.ret (.fz (.bl !c)) := by rw [ev]
@[simp] theorem ev_ite (c a b : IE) : ev S m (.ite c a b) σ = M.bind (ev S false c σ) fun x => M.bind (asBl x) fun t => if t then ev S m a σ else ev S m b σ := by rw [ev]
@[simp] theorem ev_sub (a b : IE) : ev S m (.sub a b) σ = M.bind (ev S true a σ) fun x => M.bind (ev S false b σ) fun i => M.bind (M.of (subO x i)) fun r => M.of (view m r) := by rw [ev]
@[simp] theorem ev_slice (a : IE) (lo hi : List IE) : ev S m (.slice a lo hi) σ = M.bind (ev S true a σ) fun x => M.bind (evo S lo σ) fun l => M.bind (evo S hi σ) fun h => M.of (sliceO x l h) := by rw [ev]
@[simp] theorem ev_tup (es : List IE) : ev S m (.tup es) σ = M.bind (evs S es σ) fun ds => M.of (if ds.length ≤ lim then some (.fz (.tup ds)) else none) := by rw [ev]
@[simp] theorem ev_lst (es : List IE) : ev S m (.lst es) σ = M.bind (evs S es σ) fun ds => M.of (if ds.length ≤ lim then some (.lst (ds.map .fz)) else none) := by rw [ev]
@[simp] theorem ev_dnew (tk : Bool) : ev S m (.dnew tk) σ = M.ret (.dct tk [] []) := by rw [ev]
@[simp] theorem ev_call (f : Nat) (es : List IE) : ev S m (.call f es) σ = M.bind (evs S es σ) fun ds => M.bind (S.fn f ds) fun d => M.ret (.fz d) := by rw [ev]
@[simp] theorem ev_meth (mm : Nat) (o : IE) (es : List IE) : ev S m (.meth mm o es) σ = M.bind (ev S false o σ) fun x => M.bind (M.of (obj? x)) fun q => M.bind (M.of (S.mt q.1 mm)) fun f => M.bind (evs S es σ) fun ds => M.bind (S.fn f (.obj q.1 q.2 :: ds)) fun d => M.ret (.fz d) := by rw [ev]
@[simp] theorem ev_fld (o : IE) (f : Nat) : ev S m (.fld o f) σ = M.bind (ev S true o σ) fun x => M.of (fldO S.cl f x) := by rw [ev]
@[simp] theorem ev_blt (b : BF) (es : List IE) : ev S m (.blt b es) σ = M.bind (evv S es σ) fun os => M.of (bltO b os) := by rw [ev]
@[simp] theorem ev_sm (k : SM) (o : IE) (es : List IE) : ev S m (.sm k o es) σ = M.bind (ev S false o σ) fun x => M.bind (M.of (text? x)) fun s => M.bind (evv S es σ) fun os => M.of (smO k s os) := by rw [ev]
@[simp] theorem ev_lc (ik : IK) (ies : List IE) (tg : Tg) (cond : List IE) (elt : IE) (vs : List Nat) : ev S m (.lc ik ies tg cond elt vs) σ = M.bind (evs S ies σ) fun os => M.bind (M.of (itemsOf ik os)) fun ds =>
    M.bind (lcRun (fun d => M.safe (M.bind (M.of (bindTg tg d (wipeO σ vs))) fun σ' => M.bind (evc S cond σ') fun c => if c then M.bind (ev S false elt σ') fun o => M.ret (some o) else M.ret none)) ds) fun r => M.of (if ds.length ≤ lim then some (.lst r) else none) := by rw [ev]
@[simp] theorem ev_oeq (a b : IE) : ev S m (.oeq a b) σ = M.bind (ev S true a σ) fun x => M.bind (ev S true b σ) fun y => oeqM S x y := by rw [ev]
@[simp] theorem ev_olen (a : IE) : ev S m (.olen a) σ = M.bind (ev S true a σ) fun x => olenM S x := by rw [ev]
@[simp] theorem ev_isa (a : IE) (c : Nat) : ev S m (.isa a c) σ = M.bind (ev S true a σ) fun x => M.bind (M.of x.isFz) fun d => M.bind (M.of (isaD S.cl c d)) fun b => M.ret (.fz (.bl b)) := by rw [ev]
@[simp] theorem ev_pget (o : IE) (f : Nat) : ev S m (.pget o f) σ = M.bind (ev S true o σ) fun x => M.bind (M.of (isPen x)) fun _ => penGet f := by rw [ev]
@[simp] theorem evs_nil : evs S [] σ = M.ret [] := by rw [evs]
@[simp] theorem evs_cons (e : IE) (es : List IE) : evs S (e :: es) σ = M.bind (ev S false e σ) fun o => M.bind (evs S es σ) fun ds => M.ret (o.toD :: ds) := by rw [evs]
@[simp] theorem evv_nil : evv S [] σ = M.ret [] := by rw [evv]
@[simp] theorem evv_cons (e : IE) (es : List IE) : evv S (e :: es) σ = M.bind (ev S true e σ) fun o => M.bind (evv S es σ) fun ds => M.ret (o :: ds) := by rw [evv]
@[simp] theorem evo_nil : evo S [] σ = M.ret none := by rw [evo]
@[simp] theorem evo_cons (e : IE) (es : List IE) : evo S (e :: es) σ = M.bind (ev S false e σ) fun o => M.bind (M.of (asInt? o)) fun i => M.ret (some i) := by rw [evo]
@[simp] theorem evc_nil : evc S [] σ = M.ret true := by rw [evc]
@[simp] theorem evc_cons (e : IE) (es : List IE) : evc S (e :: es) σ = M.bind (ev S false e σ) asBl := by rw [evc]
@[simp] theorem evf_nil : evf S [] σ = M.ret [] := (rfl)
@[simp] theorem evf_cons (e : IE) (es : List IE) : evf S (e :: es) σ = M.bind (ev S false e σ) fun o => M.bind (evf S es σ) fun os => M.ret (o :: os) := (rfl)
/-! ### statements -/
@[simp] theorem exs_nil : exs S [] σ = M.ret (.nx, σ) := by rw [exs]
/-- what comes behind a statement -/
noncomputable def nxt (S : Sem) (r : List IS) : Fl × Sto → M (Fl × Sto)
  | (.nx, σ') => exs S r σ'
  | (fl, σ') => M.ret (fl, σ')
@[simp] theorem nxt_nx (r : List IS) : nxt S r (.nx, σ) = exs S r σ := (rfl)
@[simp] theorem nxt_rt (r : List IS) (d : D) : nxt S r (.rt d, σ) = M.ret (.rt d, σ) := (rfl)
@[simp] theorem nxt_bk (r : List IS) : nxt S r (.bk, σ) = M.ret (.bk, σ) := (rfl)
@[simp] theorem nxt_ct (r : List IS) : nxt S r (.ct, σ) = M.ret (.ct, σ) := (rfl)
@[simp] theorem exs_cons (s : IS) (r : List IS) : exs S (s :: r) σ = M.bind (ex S s σ) (nxt S r) := by
  rw [exs]
  congr 1
@[simp] theorem ex_asg (i : Nat) (e : IE) : ex S (.asg i e) σ = M.bind (ev S false e σ) fun o => M.ret (.nx, σ.set i (some o)) := by rw [ex]
@[simp] theorem ex_asgT (is : List Nat) (e : IE) : ex S (.asgT is e) σ = M.bind (ev S false e σ) fun o => M.bind (M.of (bindTg (.tp is) o.toD σ)) fun σ' => M.ret (.nx, σ') := by rw [ex]
@[simp] theorem ex_par (is : List Nat) (es : List IE) : ex S (.par is es) σ = M.bind (evf S es σ) fun os => M.bind (M.of (setOs is os σ)) fun σ' => M.ret (.nx, σ') := by rw [ex]
@[simp] theorem ex_aug (i : Nat) (op : BO) (e : IE) : ex S (.aug i op e) σ = M.bind (M.of (slot? σ[i]?)) fun x => M.bind (ev S false e σ) fun y => M.bind (M.of (augO op x y)) fun z => M.ret (.nx, σ.set i (some z)) := by rw [ex]
@[simp] theorem ex_app (i : Nat) (e : IE) : ex S (.app i e) σ = M.bind (M.of (ownL σ i)) fun os => M.bind (ev S false e σ) fun o => M.bind (M.of (appL os o.toD)) fun q' => M.ret (.nx, σ.set i (some q')) := by rw [ex]
@[simp] theorem ex_store (i : Nat) (k e : IE) : ex S (.store i k e) σ = M.bind (ev S false e σ) fun o => M.bind (M.of (slot? σ[i]?)) fun q => M.bind (ev S false k σ) fun kk => M.bind (M.of (storeF kk.toD o.toD q)) fun q' => M.ret (.nx, σ.set i (some q')) := by rw [ex]
@[simp] theorem ex_pop (i j : Nat) : ex S (.pop i j) σ = M.bind (M.of (ownL σ j)) fun os => M.bind (M.of (popL os)) fun r => M.ret (.nx, (σ.set j (some (.lst r.2))).set i (some (.fz r.1))) := by rw [ex]
@[simp] theorem ex_setf (i f : Nat) (e : IE) : ex S (.setf i f e) σ = M.bind (ev S false e σ) fun o => M.bind (M.of (slot? σ[i]?)) fun q => M.bind (M.of (setfO S.cl f o.toD q)) fun q' => M.ret (.nx, σ.set i (some q')) := by rw [ex]
@[simp] theorem ex_appi (i : Nat) (k e : IE) : ex S (.appi i k e) σ = M.bind (M.of (ownL σ i)) fun _ => M.bind (ev S false k σ) fun kk => M.bind (M.of (ownAt σ i kk)) fun t => M.bind (ev S false e σ) fun o => M.bind (M.of (appL t.2.2 o.toD)) fun q' => M.ret (.nx, σ.set i (some (.lst (t.1.set t.2.1 q')))) := by rw [ex]
@[simp] theorem ex_asgL (is : List Nat) (j : Nat) (e : IE) : ex S (.asgL is j e) σ = M.bind (M.of (lendAll is σ)) fun σf => M.bind (M.safe (ev S false e σf)) fun o => M.bind (M.of (noMutO o)) fun d => M.ret (.nx, σ.set j (some (.fz d))) := by rw [ex]
@[simp] theorem ex_ife (c : IE) (a b : List IS) : ex S (.ife c a b) σ = M.bind (ev S false c σ) fun x => M.bind (asBl x) fun t => if t then exs S a σ else exs S b σ := by rw [ex]
/-- one turn of a for -/
noncomputable def forB (S : Sem) (tg : Tg) (body : List IS) (d : D) (σ : Sto) : M (Fl × Sto) := M.bind (M.of (bindTg tg d σ)) fun σ' => exs S body σ'
@[simp] theorem ex_for (ik : IK) (ies : List IE) (tg : Tg) (body : List IS) : ex S (.for_ ik ies tg body) σ = M.bind (evs S ies σ) fun os => M.bind (M.of (itemsOf ik os)) fun ds => forRun (forB S tg body) ds σ := by
  rw [ex]; first | done | rfl
/-- a while's test, its turn -/
def whC (S : Sem) (c : IE) (σ : Sto) : M Bool := M.bind (ev S false c σ) asBl
noncomputable def whB (S : Sem) (body : List IS) (σ : Sto) : M (Fl × Sto) := exs S body σ
@[simp] theorem ex_while (c : IE) (body : List IS) : ex S (.while_ c body) σ = whRun (whC S c) (whB S body) σ := by
  rw [ex]; first | done | rfl
@[simp] theorem ex_ret (e : IE) : ex S (.ret e) σ = M.bind (ev S false e σ) fun o => M.ret (.rt o.toD, σ) := by rw [ex]
@[simp] theorem ex_retN : ex S .retN σ = M.ret (.rt .non, σ) := by rw [ex]
@[simp] theorem ex_raise (c : Nat) (es : List IE) : ex S (.raise_ c es) σ = M.bind (evs S es σ) fun ds => M.exc ⟨c, ds.head?⟩ := by rw [ex]
@[simp] theorem ex_expr (e : IE) : ex S (.expr e) σ = M.bind (ev S false e σ) fun _ => M.ret (.nx, σ) := by rw [ex]
@[simp] theorem ex_brk : ex S .brk σ = M.ret (.bk, σ) := by rw [ex]
@[simp] theorem ex_cont : ex S .cont σ = M.ret (.ct, σ) := by rw [ex]
@[simp] theorem ex_pass : ex S .pass σ = M.ret (.nx, σ) := by rw [ex]
@[simp] theorem ex_freeze (i : Nat) : ex S (.freeze i) σ = M.ret (.nx, frzSt i σ) := by rw [ex]
@[simp] theorem ex_stuck : ex S .stuck σ = M.stuck := by rw [ex]
@[simp] theorem ex_pset (i f : Nat) (e : IE) : ex S (.pset i f e) σ = M.bind (ev S false e σ) fun o => M.bind (M.of (slot? σ[i]?)) fun q => M.bind (M.of (isPen q)) fun _ => M.bind (penSet f o.toD) fun _ => M.ret (.nx, σ) := by rw [ex]
@[simp] theorem ex_try (body : List IS) (c : Nat) (n : Option Nat) (h : HS) : ex S (.try_ body c n h) σ = tryRun c n h σ (exs S body σ) := by rw [ex]
end
@[simp] theorem tryRun_ret (c : Nat) (n : Option Nat) (h : HS) (σ : Sto) (r : Fl × Sto) : tryRun c n h σ (M.ret r) = M.ret r := (rfl)
@[simp] theorem tryRun_exc (c : Nat) (n : Option Nat) (h : HS) (σ : Sto) (e : Exc) : tryRun c n h σ (M.exc e) = if c = e.c ∨ c = 8 then M.bind (M.of (h.run e (clrO n σ))) fun r => M.ret (r.1, clrO n r.2) else M.exc e := by
  funext p
  unfold tryRun
  by_cases hc : c = e.c ∨ c = 8
  · rw [if_pos hc]
    show (if c = e.c ∨ c = 8 then _ else _) = _
    rw [if_pos hc]
    cases h.run e (clrO n σ) <;> rfl
  · rw [if_neg hc]
    show (if c = e.c ∨ c = 8 then _ else _) = _
    rw [if_neg hc]
    rfl
@[simp] theorem hs_ret (x : HE) (e : Exc) (σ : Sto) : (HS.ret x).run e σ = (hev x e).map fun d => (.rt d, σ) := (rfl)
@[simp] theorem hs_asg (i : Nat) (x : HE) (e : Exc) (σ : Sto) : (HS.asg i x).run e σ = (hev x e).map fun d => (.nx, σ.set i (some (.fz d))) := (rfl)
@[simp] theorem hev_con (d : D) (e : Exc) : hev (.con d) e = some d := by rw [hev]
@[simp] theorem hev_fld (e : Exc) : hev .fld e = e.f := by rw [hev]
@[simp] theorem hev_isin (cs : List Nat) (e : Exc) : hev (.isin cs) e = some (.bl (cs.any fun c => c == e.c || c == 8)) := by rw [hev]
@[simp] theorem hev_tup (es : List HE) (e : Exc) : hev (.tup es) e = (hevs es e).map .tup := by rw [hev]
@[simp] theorem hevs_nil (e : Exc) : hevs [] e = some [] := by rw [hevs]
@[simp] theorem hevs_cons (h : HE) (hs : List HE) (e : Exc) : hevs (h :: hs) e = match hev h e, hevs hs e with
    | some d, some ds => some (d :: ds)
    | _, _ => none := by rw [hevs]; first | done | rfl
@[simp] theorem clr_none (σ : Sto) : clrO none σ = σ := (rfl)
@[simp] theorem clr_some (i : Nat) (σ : Sto) : clrO (some i) σ = σ.set i none := (rfl)
/-- a slot that is frozen -/
def frz1 : Option O → Option O
  | none => none
  | some o => some (.fz o.toD)
@[simp] theorem frz1_none : frz1 none = none := (rfl)
@[simp] theorem frz1_some (o : O) : frz1 (some o) = some (.fz o.toD) := (rfl)
theorem set_same' {α : Type} : ∀ {l : List α} {i : Nat} {a : α}, l[i]? = some a → l.set i a = l
  | [], _, _, h => by simp at h
  | x :: l, 0, a, h => by
    simp at h
    rw [h]
    rfl
  | x :: l, i + 1, a, h => by
    rw [List.set_cons_succ, set_same' (l := l) (by simpa using h)]
@[simp] theorem frz_some (i : Nat) (σ : Sto) : frzSt i σ = match σ[i]? with
  | some x => σ.set i (frz1 x)
  | none => σ := by
  unfold frzSt
  cases h : σ[i]? with
  | none => rfl
  | some x =>
    cases x with
    | none =>
      show σ = σ.set i none
      rw [set_same' h]
    | some o => rfl
@[simp] theorem flD_nx : flD .nx = some .non := (rfl)
@[simp] theorem flD_rt (d : D) : flD (.rt d) = some d := (rfl)
@[simp] theorem forRun_nil (f : D → Sto → M (Fl × Sto)) (σ : Sto) : forRun f [] σ = M.ret (.nx, σ) := (rfl)
/-! ### operators -/
@[simp] theorem cmp_lt (i j : Int) : cmpO .lt (.fz (.int i)) (.fz (.int j)) = some (decide (i < j)) := (rfl)
@[simp] theorem cmp_le (i j : Int) : cmpO .le (.fz (.int i)) (.fz (.int j)) = some (decide (i ≤ j)) := (rfl)
@[simp] theorem cmp_gt (i j : Int) : cmpO .gt (.fz (.int i)) (.fz (.int j)) = some (decide (j < i)) := (rfl)
@[simp] theorem cmp_ge (i j : Int) : cmpO .ge (.fz (.int i)) (.fz (.int j)) = some (decide (j ≤ i)) := (rfl)
@[simp] theorem cmp_isn (d : D) : cmpO .isn (.fz d) (.fz .non) = some d.isNon := (rfl)
@[simp] theorem cmp_notn (d : D) : cmpO .notn (.fz d) (.fz .non) = some (!d.isNon) := (rfl)
@[simp] theorem isNon_non : D.isNon .non = true := (rfl)
@[simp] theorem isNon_int (i : Int) : D.isNon (.int i) = false := (rfl)
@[simp] theorem isNon_str (i : List Nat) : D.isNon (.str i) = false := (rfl)
@[simp] theorem isNon_tup (i : List D) : D.isNon (.tup i) = false := (rfl)
@[simp] theorem isNon_lst (i : List D) : D.isNon (.lst i) = false := (rfl)
theorem cmp_eq (x y : O) (h1 : cokD 60 x.toD = true) (h2 : cokD 60 y.toD = true) : cmpO .eq x y = some (eqD x.toD y.toD) := by
  unfold cmpO
  simp [h1, h2]
theorem cmp_ne (x y : O) (h1 : cokD 60 x.toD = true) (h2 : cokD 60 y.toD = true) : cmpO .ne x y = some (!eqD x.toD y.toD) := by
  unfold cmpO
  simp [h1, h2]
@[simp] theorem bin_add (i j : Int) : binO .add (.fz (.int i)) (.fz (.int j)) = some (.fz (.int (i + j))) := (rfl)
theorem bin_adds (s t : List Nat) (h : s.length + t.length ≤ lim) : binO .add (.fz (.str s)) (.fz (.str t)) = some (.fz (.str (s ++ t))) := by
  show (if s.length + t.length ≤ lim then some (O.fz (.str (s ++ t))) else none) = _
  rw [if_pos h]
theorem addO_l {x y : O} {xs ys : List D} (hx : x.lst? = some xs) (hy : y.lst? = some ys) : addO x y = if xs.length + ys.length ≤ lim then some (.lst (fzs (xs ++ ys))) else none := by
  unfold addO
  split
  · cases hx
  · cases hx
  · rw [hx, hy]
    rfl
theorem bin_addl {x y : O} {xs ys : List D} (hx : x.lst? = some xs) (hy : y.lst? = some ys) (h : xs.length + ys.length ≤ lim) : binO .add x y = some (.lst (fzs (xs ++ ys))) := by
  show addO x y = _
  rw [addO_l hx hy, if_pos h]
@[simp] theorem bin_sub (i j : Int) : binO .sub (.fz (.int i)) (.fz (.int j)) = some (.fz (.int (i - j))) := (rfl)
theorem bin_mul (i j : Int) (h : mulOk i j) : binO .mul (.fz (.int i)) (.fz (.int j)) = some (.fz (.int (i * j))) := by
  show (if mulOk i j then some (O.fz (.int (i * j))) else none) = _
  rw [if_pos h]
theorem bin_muls (s : List Nat) (k : Nat) (h : k ≤ 1000) (h2 : s.length ≤ 1000) : binO .mul (.fz (.str s)) (.fz (.int (k : Nat))) = some (.fz (.str (List.replicate k s).flatten)) := by
  have h3 : s.length * k ≤ 1000 * 1000 := Nat.mul_le_mul h2 h
  show (if (k : Int) ≤ (lim : Nat) ∧ 0 ≤ (k : Int) ∧ s.length * (k : Int).toNat ≤ lim then some (O.fz (.str (repL s k))) else none) = _
  have hl : lim = 1000000 := rfl
  rw [if_pos ⟨by omega, by omega, by rw [Int.toNat_natCast]; omega⟩]
  rfl
theorem bin_mull {x : O} {xs : List D} (hx : x.lst? = some xs) (k : Nat) (h : k ≤ 1000) (h2 : xs.length ≤ 1000) : binO .mul x (.fz (.int (k : Nat))) = some (.lst (fzs (List.replicate k xs).flatten)) := by
  have h3 : xs.length * k ≤ 1000 * 1000 := Nat.mul_le_mul h2 h
  have hl : lim = 1000000 := rfl
  show mulO x (.fz (.int (k : Nat))) = _
  unfold mulO
  split
  · cases hx
  · cases hx
  · rename_i e
    rw [hx]
    show (if (k : Int) ≤ (lim : Nat) ∧ 0 ≤ (k : Int) ∧ xs.length * (k : Int).toNat ≤ lim then some (O.lst ((repL xs k).map .fz)) else none) = _
    rw [if_pos ⟨by omega, by omega, by rw [Int.toNat_natCast]; omega⟩]
    rfl
theorem bin_fdiv (i j : Int) (h : divOk j) : binO .fdiv (.fz (.int i)) (.fz (.int j)) = some (.fz (.int (i / j))) := by
  show Option.map _ (if divOk j then some (i / j) else none) = _
  rw [if_pos h]
  rfl
theorem bin_mod (i j : Int) (h : 0 < j) : binO .mod (.fz (.int i)) (.fz (.int j)) = some (.fz (.int (i % j))) := by
  show Option.map _ (if 0 < j then some (i % j) else none) = _
  rw [if_pos h]
  rfl
theorem bin_pow (i j : Int) (h : powOk i j) : binO .pow (.fz (.int i)) (.fz (.int j)) = some (.fz (.int (i ^ j.toNat))) := by
  show Option.map _ (if powOk i j then some (i ^ j.toNat) else none) = _
  rw [if_pos h]
  rfl
@[simp] theorem blt_int (i : Int) : bltO .int [.fz (.int i)] = some (.fz (.int i)) := (rfl)
@[simp] theorem blt_len (x : O) : bltO .len [x] = (lenO x).map fun (n : Nat) => .fz (.int (n : Int)) := (rfl)
@[simp] theorem len_lst (ds : List D) : lenO (.fz (.lst ds)) = some ds.length := (rfl)
@[simp] theorem len_tup (ds : List D) : lenO (.fz (.tup ds)) = some ds.length := (rfl)
@[simp] theorem len_own (os : List O) : lenO (.lst os) = some os.length := (rfl)
@[simp] theorem len_scr (ns : List Int) : lenO (.fz (.scr ns)) = some ns.length := (rfl)
@[simp] theorem len_dct (ks : List DK) (vs : List D) : lenO (.fz (.dct false ks vs)) = some ks.length := (rfl)
@[simp] theorem len_odct (ks : List DK) (vs : List D) : lenO (.dct false ks vs) = some ks.length := (rfl)
theorem len_str (s : List Nat) (h : s.length ≤ lim) : lenO (.fz (.str s)) = some s.length := if_pos h
@[simp] theorem blt_min2 (i j : Int) : bltO .min2 [.fz (.int i), .fz (.int j)] = some (.fz (.int (if j < i then j else i))) := (rfl)
@[simp] theorem blt_max2 (i j : Int) : bltO .max2 [.fz (.int i), .fz (.int j)] = some (.fz (.int (if j > i then j else i))) := (rfl)
@[simp] theorem blt_list (x : O) : bltO .list [x] = listO x := (rfl)
@[simp] theorem blt_tuple (x : O) : bltO .tuple [x] = tupleO x := (rfl)
@[simp] theorem blt_sorted (x : O) : bltO .sorted [x] = sortO x := (rfl)
@[simp] theorem blt_isbool (x : O) : bltO .isbool [x] = isBoolO x := (rfl)
@[simp] theorem blt_all (x : O) : bltO .all [x] = (blsL x).map fun bs => .fz (.bl (bs.all id)) := (rfl)
@[simp] theorem blt_any (x : O) : bltO .any [x] = (blsL x).map fun bs => .fz (.bl (bs.any id)) := (rfl)
@[simp] theorem blt_sum (x : O) : bltO .sum [x] = (intsL x).map fun ns => .fz (.int ns.sum) := (rfl)
@[simp] theorem isbool_int (i : Int) : isBoolO (.fz (.int i)) = some (.fz (.bl false)) := (rfl)
@[simp] theorem isbool_bl (i : Bool) : isBoolO (.fz (.bl i)) = some (.fz (.bl true)) := (rfl)
theorem listO_of {x : O} {ds : List D} (h : x.seq? = some ds) : listO x = some (.lst (fzs ds)) := by
  unfold listO
  rw [h]
  rfl
theorem tupleO_of {x : O} {ds : List D} (h : x.seq? = some ds) : tupleO x = some (.fz (.tup ds)) := by
  unfold tupleO
  rw [h]
  rfl
@[simp] theorem tupleO_lst (ds : List D) : tupleO (.fz (.lst ds)) = some (.fz (.tup ds)) := (rfl)
@[simp] theorem tupleO_own (ds : List D) : tupleO (.lst (fzs ds)) = some (.fz (.tup ds)) := tupleO_of (seq_own ds)
@[simp] theorem tupleO_tup (ds : List D) : tupleO (.fz (.tup ds)) = some (.fz (.tup ds)) := (rfl)
@[simp] theorem listO_lst (ds : List D) : listO (.fz (.lst ds)) = some (.lst (fzs ds)) := (rfl)
@[simp] theorem listO_own (ds : List D) : listO (.lst (fzs ds)) = some (.lst (fzs ds)) := listO_of (seq_own ds)
@[simp] theorem listO_tup (ds : List D) : listO (.fz (.tup ds)) = some (.lst (fzs ds)) := (rfl)
@[simp] theorem neg_int (i : Int) : negO (.fz (.int i)) = some (.fz (.int (-i))) := (rfl)
theorem atI_nat {α : Type} (xs : List α) (i : Nat) (h : i < xs.length) : atI xs (i : Int) = xs[i]? := by
  unfold atI ixN
  have h1 : ¬ ((i : Int) < 0) := by omega
  have h2 : (0 : Int) ≤ (i : Int) ∧ (i : Int) < (xs.length : Int) := by omega
  simp [h1, h2, h]
theorem sub_str (s : List Nat) (i : Int) (c : Nat) (h : s.length ≤ lim) (e : atI s i = some c) : subO (.fz (.str s)) (.fz (.int i)) = some (.fz (.str [c])) := by
  show (if s.length ≤ lim then (atI s i).map fun c => O.fz (.str [c]) else none) = _
  rw [if_pos h, e]
  rfl
@[simp] theorem sub_lst (ds : List D) (i : Int) : subO (.fz (.lst ds)) (.fz (.int i)) = (atI ds i).map .fz := (rfl)
@[simp] theorem sub_tup (ds : List D) (i : Int) : subO (.fz (.tup ds)) (.fz (.int i)) = (atI ds i).map .fz := (rfl)
@[simp] theorem sub_own (os : List O) (i : Int) : subO (.lst os) (.fz (.int i)) = atI os i := (rfl)
theorem at0 {α : Type} (x : α) (xs : List α) : atI (x :: xs) 0 = some x := atI_nat (x :: xs) 0 (by simp)
theorem at1 {α : Type} (x y : α) (xs : List α) : atI (x :: y :: xs) 1 = some y := atI_nat (x :: y :: xs) 1 (by simp)
theorem at2 {α : Type} (x y z : α) (xs : List α) : atI (x :: y :: z :: xs) 2 = some z := atI_nat (x :: y :: z :: xs) 2 (by simp)
@[simp] theorem sm_index (s : List Nat) (c : Nat) : smO .index s [.fz (.str [c])] = smIndex s c := (rfl)
@[simp] theorem fld_obj (cl : Nat → Bool) (f c : Nat) (fs : List D) : fldO cl f (.fz (.obj c fs)) = if cl c = true then (((fidT c).zip fs).lookup f).map .fz else none := (rfl)
@[simp] theorem items_seq (x : D) : itemsOf .seq [x] = seqD x := (rfl)
theorem items_r1 (n : Int) (h : inRange n = true) : itemsOf .range1 [.int n] = some (intsFrom 0 n.toNat) := by
  show (if inRange n then some (intsFrom 0 n.toNat) else none) = _
  rw [if_pos h]
theorem items_r2 (a b : Int) (h : inRange a = true) (h2 : inRange b = true) : itemsOf .range2 [.int a, .int b] = some (intsFrom a (b - a).toNat) := by
  show (if inRange a && inRange b then some (intsFrom a (b - a).toNat) else none) = _
  rw [h, h2]
  rfl
theorem inRange_of {i : Int} (h : -(2 ^ 40) ≤ i) (h2 : i < 2 ^ 40) : inRange i = true := by
  unfold inRange
  simp
  omega
@[simp] theorem items_enum (x : D) : itemsOf (.enum 0) [x] = (seqD x).map (enumFrom 0) := (rfl)
@[simp] theorem items_zip (x y : D) : itemsOf .zip [x, y] = match seqD x, seqD y with
    | some a, some b => some (zipD a b)
    | _, _ => none := (rfl)
theorem intsFrom_len : ∀ (n : Nat) (lo : Int), (intsFrom lo n).length = n
  | 0, _ => rfl
  | n + 1, lo => by rw [intsFrom, List.length_cons, intsFrom_len n]
theorem intsFrom_get : ∀ (n : Nat) (lo : Int) (i : Nat) (d : D), (intsFrom lo n)[i]? = some d → d = .int (lo + i) ∧ i < n
  | 0, _, i, d, h => by simp [intsFrom] at h
  | n + 1, lo, 0, d, h => by
    simp [intsFrom] at h
    subst h
    simp
  | n + 1, lo, i + 1, d, h => by
    obtain ⟨e, l⟩ := intsFrom_get n (lo + 1) i d (by simpa [intsFrom] using h)
    refine ⟨?_, by omega⟩
    rw [e]
    congr 1
    omega
theorem enumFrom_len : ∀ (ds : List D) (k : Int), (enumFrom k ds).length = ds.length
  | [], _ => rfl
  | d :: ds, k => by rw [enumFrom, List.length_cons, List.length_cons, enumFrom_len ds]
theorem enumFrom_get : ∀ (ds : List D) (k : Int) (i : Nat) (e : D), (enumFrom k ds)[i]? = some e → ∃ d, ds[i]? = some d ∧ e = .tup [.int (k + i), d]
  | [], _, i, e, h => by simp [enumFrom] at h
  | d :: ds, k, 0, e, h => by
    simp [enumFrom] at h
    exact ⟨d, rfl, by rw [← h]; simp⟩
  | d :: ds, k, i + 1, e, h => by
    obtain ⟨d', h1, h2⟩ := enumFrom_get ds (k + 1) i e (by simpa [enumFrom] using h)
    refine ⟨d', by simpa using h1, ?_⟩
    rw [h2]
    have : k + 1 + (i : Int) = k + ((i + 1 : Nat) : Int) := by omega
    rw [this]
theorem ownL_of {σ : Sto} {i : Nat} {os : List O} (h : σ[i]? = some (some (.lst os))) : ownL σ i = some os := by
  unfold ownL
  rw [h]
  rfl
theorem appL_of {os : List O} {d : D} (h : os.length < lim) : appL os d = some (.lst (os ++ [.fz d])) := if_pos h
theorem appL_fz {ds : List D} {d : D} (h : ds.length < lim) : appL (fzs ds) d = some (.lst (fzs (ds ++ [d]))) := by rw [appL_of (by simpa using h), fzs_app1]
@[simp] theorem atI_fzs (ds : List D) (i : Int) : atI (fzs ds) i = (atI ds i).map .fz := by
  unfold atI
  rw [fzs_len]
  cases ixN ds.length i with
  | none => rfl
  | some j => exact fzs_get ds j
@[simp] theorem aug_add (i j : Int) : augO .add (.fz (.int i)) (.fz (.int j)) = some (.fz (.int (i + j))) := (rfl)
end
end Bc.Pl
set_option Elab.async false
set_option linter.all false
set_option maxRecDepth 100000
set_option maxHeartbeats 4000000
/-! Part P2. What a drawing piece may answer (OkX, Ok), what a piece without draws answers (Pu). -/
namespace Bc.Pl
open PySem PySem.Spec L2

section
variable {α β : Type}
/-- a value or an error -/
def _root_.Bc.M.res : Except Exc α → M α
  | .ok a => M.ret a
  | .error e => M.exc e
/-- where the pen stays below -/
abbrev penTop : Nat := 2 ^ 60
def OkX (c : Nat) (x : M α) (Q : Except Exc α → Prop) : Prop := ∀ p : Pen, p.at_ + c ≤ penTop → ∃ r p', x p = some (r, p') ∧ p'.at_ ≤ p.at_ + c ∧ Q r
def okP (Q : α → Prop) : Except Exc α → Prop
  | .ok a => Q a
  | .error _ => False
abbrev Ok (c : Nat) (x : M α) (Q : α → Prop) : Prop := OkX c x (okP Q)
/-- no draws -/
def PuX (x : M α) (Q : Except Exc α → Prop) : Prop := ∃ r, x = M.res r ∧ Q r
abbrev Pu (x : M α) (Q : α → Prop) : Prop := PuX x (okP Q)
theorem OkX.ret {c : Nat} {a : α} {Q : Except Exc α → Prop} (h : Q (.ok a)) : OkX c (M.ret a) Q := fun p _ => ⟨_, _, rfl, Nat.le_add_right _ _, h⟩
theorem OkX.exc {c : Nat} {e : Exc} {Q : Except Exc α → Prop} (h : Q (.error e)) : OkX c (M.exc e) Q := fun p _ => ⟨_, _, rfl, Nat.le_add_right _ _, h⟩
theorem PuX.ret {a : α} {Q : Except Exc α → Prop} (h : Q (.ok a)) : PuX (M.ret a) Q := ⟨.ok a, rfl, h⟩
theorem PuX.exc {e : Exc} {Q : Except Exc α → Prop} (h : Q (.error e)) : PuX (M.exc e) Q := ⟨.error e, rfl, h⟩
theorem PuX.ok {c : Nat} {x : M α} {Q : Except Exc α → Prop} (h : PuX x Q) : OkX c x Q := by
  obtain ⟨r, rfl, q⟩ := h
  cases r with
  | ok a => exact .ret q
  | error e => exact .exc q
theorem OkX.mono {c d : Nat} {x : M α} {P Q : Except Exc α → Prop} (h : OkX c x P) (l : c ≤ d) (k : ∀ r, P r → Q r) : OkX d x Q := fun p hp => by
  obtain ⟨r, p', h1, h2, h3⟩ := h p (by omega)
  exact ⟨r, p', h1, by omega, k r h3⟩
theorem Ok.mono {c d : Nat} {x : M α} {P Q : α → Prop} (h : Ok c x P) (l : c ≤ d) (k : ∀ a, P a → Q a) : Ok d x Q := OkX.mono h l fun r q => by
  cases r with
  | ok a => exact k a q
  | error e => exact q
theorem PuX.mono {x : M α} {P Q : Except Exc α → Prop} (h : PuX x P) (k : ∀ r, P r → Q r) : PuX x Q := by
  obtain ⟨r, e, q⟩ := h
  exact ⟨r, e, k r q⟩
theorem Pu.mono {x : M α} {P Q : α → Prop} (h : Pu x P) (k : ∀ a, P a → Q a) : Pu x Q := PuX.mono h fun r q => by
  cases r with
  | ok a => exact k a q
  | error e => exact q
/-- how a bind goes on -/
def thenP (c : Nat) (f : α → M β) (Q : Except Exc β → Prop) : Except Exc α → Prop
  | .ok a => OkX c (f a) Q
  | .error e => Q (.error e)
theorem OkX.bindX {c1 c2 c : Nat} {x : M α} {f : α → M β} {Q : Except Exc β → Prop} (h : OkX c1 x (thenP c2 f Q)) (l : c1 + c2 ≤ c) : OkX c (M.bind x f) Q := fun p hp => by
  obtain ⟨r, p', h1, h2, h3⟩ := h p (by omega)
  cases r with
  | error e =>
    exact ⟨.error e, p', M.bind_e h1, by omega, h3⟩
  | ok a =>
    obtain ⟨r, p2, h4, h5, h6⟩ := h3 p' (by omega)
    exact ⟨r, p2, by rw [M.bind_v h1]; exact h4, by omega, h6⟩
theorem OkX.bind {c1 c : Nat} {x : M α} {f : α → M β} {P : α → Prop} {Q : Except Exc β → Prop} (h : Ok c1 x P) (l : c1 ≤ c) (k : ∀ a, P a → OkX (c - c1) (f a) Q) : OkX c (M.bind x f) Q :=
  OkX.bindX (c1 := c1) (c2 := c - c1) (OkX.mono h (Nat.le_refl _) fun r q => by
    cases r with
    | ok a => exact k a q
    | error e => exact q.elim) (by omega)
theorem PuX.bindX {x : M α} {f : α → M β} {Q : Except Exc β → Prop} (h : PuX x fun r => match r with | .ok a => PuX (f a) Q | .error e => Q (.error e)) : PuX (M.bind x f) Q := by
  obtain ⟨r, rfl, q⟩ := h
  cases r with
  | ok a => exact q
  | error e => exact .exc q
theorem PuX.bind {x : M α} {f : α → M β} {P : α → Prop} {Q : Except Exc β → Prop} (h : Pu x P) (k : ∀ a, P a → PuX (f a) Q) : PuX (M.bind x f) Q := .bindX (PuX.mono h fun r q => by
  cases r with
  | ok a => exact k a q
  | error e => exact q.elim)
theorem Pu.eq {x : M α} {a : α} (h : Pu x fun b => b = a) : x = M.ret a := by
  obtain ⟨r, rfl, q⟩ := h
  cases r with
  | ok b => rw [show b = a from q]; rfl
  | error e => exact q.elim
theorem PuX.eqX {x : M α} {e : Exc} (h : PuX x fun r => r = .error e) : x = M.exc e := by
  obtain ⟨r, rfl, rfl⟩ := h
  rfl
theorem Ok.safe {c : Nat} {x : M α} {Q : α → Prop} (h : Ok c x Q) : Ok c (M.safe x) Q := fun p hp => by
  obtain ⟨r, p', h1, h2, h3⟩ := h p hp
  cases r with
  | error e => exact h3.elim
  | ok a =>
    refine ⟨.ok a, p', ?_, h2, h3⟩
    unfold M.safe
    rw [h1]
theorem Pu.safe {x : M α} {Q : α → Prop} (h : Pu x Q) : Pu (M.safe x) Q := by
  obtain ⟨r, rfl, h3⟩ := h
  cases r with
  | error e => exact h3.elim
  | ok a => exact ⟨.ok a, rfl, h3⟩
end
/-- where a turn's end leads -/
def turnP (J : Sto → Prop) (Q : Except Exc (Fl × Sto) → Prop) : Except Exc (Fl × Sto) → Prop
  | .ok (.nx, σ) => J σ
  | .ok (.ct, σ) => J σ
  | .ok (.bk, σ) => Q (.ok (.nx, σ))
  | .ok (.rt d, σ) => Q (.ok (.rt d, σ))
  | .error e => Q (.error e)
theorem OkX.for {f : D → Sto → M (Fl × Sto)} {c : Nat} {Q : Except Exc (Fl × Sto) → Prop} : ∀ {ds : List D} {σ : Sto} (I : Nat → Sto → Prop), I 0 σ → (∀ i d σ, ds[i]? = some d → I i σ → OkX c (f d σ) (turnP (I (i + 1)) Q)) → (∀ σ, I ds.length σ → Q (.ok (.nx, σ))) → OkX (c * ds.length) (forRun f ds σ) Q
  | [], σ, I, h0, _, done => by
    rw [forRun]
    exact .ret (done σ h0)
  | d :: ds, σ, I, h0, step, done => by
    rw [forRun]
    refine OkX.bindX (c1 := c) (c2 := c * ds.length) (OkX.mono (step 0 d σ rfl h0) (Nat.le_refl _) fun r q => ?_) (by rw [List.length_cons, Nat.mul_succ]; omega)
    have rest : ∀ σ', I 1 σ' → OkX (c * ds.length) (forRun f ds σ') Q := fun σ' h => OkX.for (fun i σ => I (i + 1) σ) h (fun i d σ hi h => step (i + 1) d σ (by simpa using hi) h) fun σ h => done σ (by simpa using h)
    cases r with
    | error e => exact q
    | ok a =>
      obtain ⟨fl, σ'⟩ := a
      cases fl with
      | nx => exact rest σ' q
      | ct => exact rest σ' q
      | bk => exact OkX.ret q
      | rt d => exact OkX.ret q
theorem PuX.for {f : D → Sto → M (Fl × Sto)} {Q : Except Exc (Fl × Sto) → Prop} : ∀ {ds : List D} {σ : Sto} (I : Nat → Sto → Prop), I 0 σ → (∀ i d σ, ds[i]? = some d → I i σ → PuX (f d σ) (turnP (I (i + 1)) Q)) → (∀ σ, I ds.length σ → Q (.ok (.nx, σ))) → PuX (forRun f ds σ) Q
  | [], σ, I, h0, _, done => by
    rw [forRun]
    exact .ret (done σ h0)
  | d :: ds, σ, I, h0, step, done => by
    rw [forRun]
    refine PuX.bindX (PuX.mono (step 0 d σ rfl h0) fun r q => ?_)
    have rest : ∀ σ', I 1 σ' → PuX (forRun f ds σ') Q := fun σ' h => PuX.for (fun i σ => I (i + 1) σ) h (fun i d σ hi h => step (i + 1) d σ (by simpa using hi) h) fun σ h => done σ (by simpa using h)
    cases r with
    | error e => exact q
    | ok a =>
      obtain ⟨fl, σ'⟩ := a
      cases fl with
      | nx => exact rest σ' q
      | ct => exact rest σ' q
      | bk => exact PuX.ret q
      | rt d => exact PuX.ret q
/-- a comprehension that keeps all -/
theorem Ok.lc {f : D → M (Option O)} {c : Nat} {P : O → Prop} : ∀ {ds : List D}, (∀ d ∈ ds, Ok c (f d) fun r => ∃ o, r = some o ∧ P o) → Ok (c * ds.length) (lcRun f ds) fun os => os.length = ds.length ∧ ∀ o ∈ os, P o
  | [], _ => by
    rw [lcRun]
    exact .ret ⟨rfl, fun o h => by simp at h⟩
  | d :: ds, h => by
    rw [lcRun]
    refine OkX.bind (c1 := c) (h d (by simp)) (by rw [List.length_cons, Nat.mul_succ]; omega) fun r ⟨o, hr, ho⟩ => ?_
    subst hr
    refine OkX.bind (c1 := c * ds.length) (Ok.lc fun d hd => h d (by simp [hd])) (by rw [List.length_cons, Nat.mul_succ]; omega) fun os ⟨h1, h2⟩ => ?_
    exact OkX.ret ⟨by simp [h1], fun o' h' => by
      rcases List.mem_cons.mp h' with e | e
      · rw [e]
        exact ho
      · exact h2 o' e⟩
/-- .. with frozen items -/
theorem Ok.lcD {f : D → M (Option O)} {c : Nat} {P : D → Prop} {ds : List D} (h : ∀ d ∈ ds, Ok c (f d) fun r => ∃ e, r = some (.fz e) ∧ P e) : Ok (c * ds.length) (lcRun f ds) fun os => ∃ es, os = fzs es ∧ es.length = ds.length ∧ ∀ e ∈ es, P e :=
  Ok.mono (Ok.lc (P := fun o => ∃ e, o = .fz e ∧ P e) fun d hd => Ok.mono (h d hd) (Nat.le_refl _) fun r ⟨e, h1, h2⟩ => ⟨_, h1, e, rfl, h2⟩) (Nat.le_refl _) fun os ⟨h1, h2⟩ => by
    have : ∀ os : List O, (∀ o ∈ os, ∃ e, o = .fz e ∧ P e) → ∃ es, os = fzs es ∧ es.length = os.length ∧ ∀ e ∈ es, P e := fun os => by
      induction os with
      | nil => exact fun _ => ⟨[], rfl, rfl, fun e he => by simp at he⟩
      | cons o os ih =>
        intro h
        obtain ⟨e, rfl, he⟩ := h o (by simp)
        obtain ⟨es, rfl, h3, h4⟩ := ih fun o ho => h o (by simp [ho])
        exact ⟨e :: es, rfl, by simp, fun e' h' => by
          rcases List.mem_cons.mp h' with q | q
          · rw [q]
            exact he
          · exact h4 e' q⟩
    obtain ⟨es, rfl, h3, h4⟩ := this os h2
    exact ⟨es, rfl, by rw [h3, h1], h4⟩
/-- a comprehension without draws -/
theorem lc_map {f : D → M (Option O)} {g : D → D} : ∀ {ds : List D}, (∀ d ∈ ds, f d = M.ret (some (.fz (g d)))) → lcRun f ds = M.ret (fzs (ds.map g))
  | [], _ => rfl
  | d :: ds, h => by
    rw [lcRun, h d (by simp), M.bind_ret, lc_map fun d hd => h d (by simp [hd])]
    rfl
/-- .. with a test -/
theorem lc_filter {f : D → M (Option O)} {g : D → D} {q : D → Bool} : ∀ {ds : List D}, (∀ d ∈ ds, f d = M.ret (if q d then some (.fz (g d)) else none)) → lcRun f ds = M.ret (fzs ((ds.filter q).map g))
  | [], _ => rfl
  | d :: ds, h => by
    rw [lcRun, h d (by simp), M.bind_ret, lc_filter fun d hd => h d (by simp [hd])]
    by_cases hq : q d = true
    · rw [List.filter_cons_of_pos hq, if_pos hq]
      rfl
    · rw [List.filter_cons_of_neg hq, if_neg hq]
      rfl
/-! ### equal data -/
@[simp] theorem eqD_int (i j : Int) : eqD (.int i) (.int j) = decide (i = j) := by
  unfold eqD
  simp only [D.pd, PyData.eqv]
  by_cases h : i = j <;> simp [h]
theorem str_beq (s t : List Nat) : ((⟨s.toArray⟩ : Str) == ⟨t.toArray⟩) = decide (s = t) := by
  by_cases h : s = t
  · subst h
    simp
  · have : ¬ ((⟨s.toArray⟩ : Str) = ⟨t.toArray⟩) := fun e => h (by
      have := congrArg (fun x : Str => x.cps.toList) e
      simpa using this)
    simp [h, this]
@[simp] theorem eqD_str (s t : List Nat) : eqD (.str s) (.str t) = decide (s = t) := by
  unfold eqD
  simp only [D.pd, PyData.eqv]
  exact str_beq s t
theorem eqD_bl (i j : Bool) : eqD (.bl i) (.bl j) = decide (i = j) := by
  unfold eqD
  simp only [D.pd, PyData.eqv]
  cases i <;> cases j <;> rfl
theorem eqD_tup (xs ys : List D) : eqD (.tup xs) (.tup ys) = PyData.eqvAll (D.pds xs) (D.pds ys) := by
  unfold eqD
  simp only [D.pd, PyData.eqv]
theorem eqD_lst (xs ys : List D) : eqD (.lst xs) (.lst ys) = PyData.eqvAll (D.pds xs) (D.pds ys) := by
  unfold eqD
  simp only [D.pd, PyData.eqv]
@[simp] theorem eqD_tup_nil : eqD (.tup []) (.tup []) = true := by
  rw [eqD_tup]
  simp only [D.pds, PyData.eqvAll]
@[simp] theorem eqD_tup_nc (y : D) (ys : List D) : eqD (.tup []) (.tup (y :: ys)) = false := by
  rw [eqD_tup]
  simp only [D.pds, PyData.eqvAll]
@[simp] theorem eqD_tup_cn (y : D) (ys : List D) : eqD (.tup (y :: ys)) (.tup []) = false := by
  rw [eqD_tup]
  simp only [D.pds, PyData.eqvAll]
@[simp] theorem eqD_tup_cons (x y : D) (xs ys : List D) : eqD (.tup (x :: xs)) (.tup (y :: ys)) = (eqD x y && eqD (.tup xs) (.tup ys)) := by
  rw [eqD_tup, eqD_tup]
  simp only [D.pds, PyData.eqvAll]
  rfl
@[simp] theorem eqD_lst_nil : eqD (.lst []) (.lst []) = true := by
  rw [eqD_lst]
  simp only [D.pds, PyData.eqvAll]
@[simp] theorem eqD_lst_nc (y : D) (ys : List D) : eqD (.lst []) (.lst (y :: ys)) = false := by
  rw [eqD_lst]
  simp only [D.pds, PyData.eqvAll]
@[simp] theorem eqD_lst_cn (y : D) (ys : List D) : eqD (.lst (y :: ys)) (.lst []) = false := by
  rw [eqD_lst]
  simp only [D.pds, PyData.eqvAll]
@[simp] theorem eqD_lst_cons (x y : D) (xs ys : List D) : eqD (.lst (x :: xs)) (.lst (y :: ys)) = (eqD x y && eqD (.lst xs) (.lst ys)) := by
  rw [eqD_lst, eqD_lst]
  simp only [D.pds, PyData.eqvAll]
  rfl
@[simp] theorem eqD_non : eqD .non .non = true := by
  unfold eqD
  simp only [D.pd, PyData.eqv]
@[simp] theorem eqD_is (i : Int) (s : List Nat) : eqD (.int i) (.str s) = false := by
  unfold eqD
  simp only [D.pd, PyData.eqv]
@[simp] theorem eqD_si (i : Int) (s : List Nat) : eqD (.str s) (.int i) = false := by
  unfold eqD
  simp only [D.pd, PyData.eqv]
@[simp] theorem eqD_it (i : Int) (s : List D) : eqD (.int i) (.tup s) = false := by
  unfold eqD
  simp only [D.pd, PyData.eqv]
@[simp] theorem eqD_ti (i : Int) (s : List D) : eqD (.tup s) (.int i) = false := by
  unfold eqD
  simp only [D.pd, PyData.eqv]
@[simp] theorem eqD_in (i : Int) : eqD (.int i) .non = false := by
  unfold eqD
  simp only [D.pd, PyData.eqv]
@[simp] theorem eqD_ni (i : Int) : eqD .non (.int i) = false := by
  unfold eqD
  simp only [D.pd, PyData.eqv]
@[simp] theorem eqD_nt (s : List D) : eqD .non (.tup s) = false := by
  unfold eqD
  simp only [D.pd, PyData.eqv]
@[simp] theorem eqD_tn (s : List D) : eqD (.tup s) .non = false := by
  unfold eqD
  simp only [D.pd, PyData.eqv]
@[simp] theorem eqD_st (s : List Nat) (t : List D) : eqD (.str s) (.tup t) = false := by
  unfold eqD
  simp only [D.pd, PyData.eqv]
@[simp] theorem eqD_ts (s : List Nat) (t : List D) : eqD (.tup t) (.str s) = false := by
  unfold eqD
  simp only [D.pd, PyData.eqv]
@[simp] theorem cok_non (n : Nat) : cokD n .non = true := by simp [cokD]
@[simp] theorem cok_bl (n : Nat) (b : Bool) : cokD n (.bl b) = true := by simp [cokD]
@[simp] theorem cok_int (n : Nat) (i : Int) : cokD n (.int i) = true := by simp [cokD]
@[simp] theorem cok_str (n : Nat) (s : List Nat) : cokD n (.str s) = s.all fun c => decide (c < 0x110000) := by simp [cokD]
@[simp] theorem cok_lst (n : Nat) (ds : List D) : cokD (n + 1) (.lst ds) = cokDs n ds := by rw [cokD]
@[simp] theorem cok_tup (n : Nat) (ds : List D) : cokD (n + 1) (.tup ds) = cokDs n ds := by rw [cokD]
theorem coks_all (n : Nat) : ∀ ds : List D, cokDs n ds = ds.all (cokD n)
  | [] => by rw [cokDs]; rfl
  | d :: ds => by rw [cokDs, coks_all n ds]; rfl
mutual
/-- data in which True and 1 cannot be mixed up -/
def _root_.Bc.D.pl : D → Bool
  | .non => true
  | .bl _ => false
  | .int _ => true
  | .str _ => true
  | .lst xs => Bc.D.pls xs
  | .tup xs => Bc.D.pls xs
  | _ => false
def _root_.Bc.D.pls : List D → Bool
  | [] => true
  | x :: xs => D.pl x && Bc.D.pls xs
end
mutual
theorem eqD_pl : ∀ {x y : D}, x.pl = true → y.pl = true → (eqD x y = true ↔ x = y)
  | .non, y, _, hy => by cases y <;> simp [D.pl, eqD, D.pd, PyData.eqv] at hy ⊢
  | .int _, y, _, hy => by cases y <;> simp [D.pl, eqD, D.pd, PyData.eqv] at hy ⊢
  | .str s, y, _, hy => by
    cases y with
    | str t => simp
    | _ => simp [D.pl, eqD, D.pd, PyData.eqv] at hy ⊢
  | .lst xs, y, hx, hy => by
    cases y with
    | lst ys =>
      rw [eqD_lst, eqDs_pl (by simpa [D.pl] using hx) (by simpa [D.pl] using hy)]
      simp
    | _ => simp [D.pl, eqD, D.pd, PyData.eqv] at hy ⊢
  | .tup xs, y, hx, hy => by
    cases y with
    | tup ys =>
      rw [eqD_tup, eqDs_pl (by simpa [D.pl] using hx) (by simpa [D.pl] using hy)]
      simp
    | _ => simp [D.pl, eqD, D.pd, PyData.eqv] at hy ⊢
  | .bl _, _, hx, _ => by simp [D.pl] at hx
  | .dct _ _ _, _, hx, _ => by simp [D.pl] at hx
  | .obj _ _, _, hx, _ => by simp [D.pl] at hx
  | .pen, _, hx, _ => by simp [D.pl] at hx
  | .scr _, _, hx, _ => by simp [D.pl] at hx
theorem eqDs_pl : ∀ {xs ys : List D}, Bc.D.pls xs = true → Bc.D.pls ys = true → (PyData.eqvAll (D.pds xs) (D.pds ys) = true ↔ xs = ys)
  | [], [], _, _ => by simp [D.pds, PyData.eqvAll]
  | [], _ :: _, _, _ => by simp [D.pds, PyData.eqvAll]
  | _ :: _, [], _, _ => by simp [D.pds, PyData.eqvAll]
  | x :: xs, y :: ys, hx, hy => by
    simp only [Bc.D.pls, Bool.and_eq_true] at hx hy
    simp only [D.pds, PyData.eqvAll, Bool.and_eq_true]
    have h1 := eqD_pl hx.1 hy.1
    unfold eqD at h1
    rw [h1, eqDs_pl hx.2 hy.2]
    simp
end
@[simp] theorem cmp_eq_int (i j : Int) : cmpO .eq (.fz (.int i)) (.fz (.int j)) = some (decide (i = j)) := by rw [cmp_eq _ _ (by simp) (by simp)]; simp
@[simp] theorem cmp_ne_int (i j : Int) : cmpO .ne (.fz (.int i)) (.fz (.int j)) = some (!decide (i = j)) := by rw [cmp_ne _ _ (by simp) (by simp)]; simp
/-- a text of signs that Python has -/
def okS (s : List Nat) : Bool := s.all fun c => decide (c < 0x110000)
theorem cmp_eq_str (s t : List Nat) (h1 : okS s = true) (h2 : okS t = true) : cmpO .eq (.fz (.str s)) (.fz (.str t)) = some (decide (s = t)) := by
  rw [cmp_eq _ _ (by rw [toD_fz, cok_str]; exact h1) (by rw [toD_fz, cok_str]; exact h2)]; simp
theorem cmp_ne_str (s t : List Nat) (h1 : okS s = true) (h2 : okS t = true) : cmpO .ne (.fz (.str s)) (.fz (.str t)) = some (!decide (s = t)) := by
  rw [cmp_ne _ _ (by rw [toD_fz, cok_str]; exact h1) (by rw [toD_fz, cok_str]; exact h2)]; simp
/-- the signs of a text, one by one -/
def ch (c : Nat) : D := .str [c]
@[simp] theorem seqD_str' (s : List Nat) : seqD (.str s) = some (s.map ch) := (rfl)
/-- a list or a tuple with these items -/
def Sq (d : D) (ds : List D) : Prop := d = .lst ds ∨ d = .tup ds
theorem Sq.len {d : D} {ds : List D} (h : Sq d ds) : lenO (.fz d) = some ds.length := by rcases h with rfl | rfl <;> rfl
theorem Sq.seqD {d : D} {ds : List D} (h : Sq d ds) : seqD d = some ds := by rcases h with rfl | rfl <;> rfl
theorem Sq.seq {d : D} {ds : List D} (h : Sq d ds) : (O.fz d).seq? = some ds := by rcases h with rfl | rfl <;> rfl
theorem Sq.sub {d : D} {ds : List D} (h : Sq d ds) (i : Int) : subO (.fz d) (.fz (.int i)) = (atI ds i).map .fz := by rcases h with rfl | rfl <;> rfl
/-- slices by places -/
theorem cut_to {α : Type} (xs : List α) (i : Nat) : cutL xs none (some (i : Int)) = xs.take i := by
  unfold cutL
  rw [HT.sIx_none, HT.sIx_nat, List.drop_zero, Nat.sub_zero]
  by_cases h : i ≤ xs.length
  · rw [Nat.min_eq_left h]
  · rw [Nat.min_eq_right (by omega), List.take_length, List.take_of_length_le (by omega)]
theorem cut_from {α : Type} (xs : List α) (i : Nat) : cutL xs (some (i : Int)) none = xs.drop i := by
  unfold cutL
  rw [HT.sIx_none, HT.sIx_nat]
  by_cases h : i ≤ xs.length
  · rw [Nat.min_eq_left h, List.take_of_length_le (by simp)]
  · rw [Nat.min_eq_right (by omega), List.drop_length, List.drop_eq_nil_of_le (by omega)]
    simp
theorem cut_from1 {α : Type} (xs : List α) (i : Nat) : cutL xs (some ((i : Int) + 1)) none = xs.drop (i + 1) := cut_from xs (i + 1)
theorem cut_mid {α : Type} (xs : List α) (i j : Nat) (h : i ≤ j) (h2 : j ≤ xs.length) : cutL xs (some (i : Int)) (some (j : Int)) = (xs.drop i).take (j - i) := by
  unfold cutL
  rw [HT.sIx_nat, HT.sIx_nat, Nat.min_eq_left h2, Nat.min_eq_left (by omega)]
theorem slice_str (s : List Nat) (lo hi : Option Int) (h : s.length ≤ lim) : sliceO (.fz (.str s)) lo hi = some (.fz (.str (cutL s lo hi))) := if_pos h
theorem slice_l {x : O} {ds : List D} (h : x.lst? = some ds) (lo hi : Option Int) : sliceO x lo hi = some (.lst (fzs (cutL ds lo hi))) := by
  unfold sliceO
  split
  · cases h
  · rw [h]
    rfl
@[simp] theorem slice_lst (ds : List D) (lo hi : Option Int) : sliceO (.fz (.lst ds)) lo hi = some (.lst (fzs (cutL ds lo hi))) := slice_l rfl lo hi
@[simp] theorem slice_own (ds : List D) (lo hi : Option Int) : sliceO (.lst (fzs ds)) lo hi = some (.lst (fzs (cutL ds lo hi))) := slice_l (lst_own ds) lo hi
theorem add_ll (xs ys : List D) (h : xs.length + ys.length ≤ lim) : binO .add (.fz (.lst xs)) (.fz (.lst ys)) = some (.lst (fzs (xs ++ ys))) := bin_addl rfl rfl h
theorem add_lo (xs ys : List D) (h : xs.length + ys.length ≤ lim) : binO .add (.fz (.lst xs)) (.lst (fzs ys)) = some (.lst (fzs (xs ++ ys))) := bin_addl rfl (lst_own ys) h
theorem add_ol (xs ys : List D) (h : xs.length + ys.length ≤ lim) : binO .add (.lst (fzs xs)) (.fz (.lst ys)) = some (.lst (fzs (xs ++ ys))) := bin_addl (lst_own xs) rfl h
theorem add_oo (xs ys : List D) (h : xs.length + ys.length ≤ lim) : binO .add (.lst (fzs xs)) (.lst (fzs ys)) = some (.lst (fzs (xs ++ ys))) := bin_addl (lst_own xs) (lst_own ys) h
theorem in_str (c : Nat) (s : List Nat) : inO (.fz (.str [c])) (.fz (.str s)) = some (decide (c ∈ s)) := (rfl)
@[simp] theorem cmp_in_ch (c : Nat) (s : List Nat) : cmpO .isin (.fz (ch c)) (.fz (.str s)) = some (decide (c ∈ s)) := (rfl)
@[simp] theorem cmp_notin_ch (c : Nat) (s : List Nat) : cmpO .notin (.fz (ch c)) (.fz (.str s)) = some (!decide (c ∈ s)) := (rfl)
theorem idxOf_some {c : Nat} : ∀ {s : List Nat}, c ∈ s → s.idxOf? c = some (s.idxOf c)
  | [], h => by simp at h
  | x :: s, h => by
    rw [List.idxOf?_cons, List.idxOf_cons]
    by_cases e : x = c
    · simp [e]
    · have h' : c ∈ s := by
        rcases List.mem_cons.mp h with q | q
        · exact absurd q.symm e
        · exact q
      have e2 : (x == c) = false := by simpa using e
      simp [e2, idxOf_some h']
theorem index_ch (s : List Nat) (c : Nat) (h : s.length ≤ lim) (hc : c ∈ s) : smO .index s [.fz (ch c)] = some (.fz (.int (s.idxOf c : Nat))) := by
  show (if s.length ≤ lim then (s.idxOf? c).map fun (n : Nat) => O.fz (.int (n : Int)) else none) = _
  rw [if_pos h]
  rw [idxOf_some hc]
  rfl
end Bc.Pl
set_option Elab.async false
set_option linter.all false
set_option maxRecDepth 100000
set_option maxHeartbeats 4000000
/-! Part Q1. Draws. -/
namespace Bc.Pl
open PySem PySem.Spec L2
def N_l_draw : List Str := ["_law_pen_here", "_law_many", "_law_at", "_law_cell", "_law_mixed", "_law_digit"]
def b_l_draw : List IS := [.ife (.cmp .ge (.pget (.var 0) 2) (.var 1)) [.asg 5 (.bin .mod (.blt .int [.pget (.var 0) 2]) (.var 1)), .pset 0 2 (.bin .fdiv (.pget (.var 0) 2) (.var 1)), .freeze 5, .ret (.var 5)] [], .asg 2 (.pget (.var 0) 1), .pset 0 1 (.bin .add (.var 2) (.con (.int 1))), .freeze 2, .asg 3 (.bin .add (.bin .mul (.con (.int 41)) (.var 2)) (.con (.int 23))), .ife (.cmp .ne (.pget (.var 0) 0) (.lst [])) [.asg 3 (.sub (.pget (.var 0) 0) (.bin .mod (.blt .int [.var 2]) (.blt .len [.pget (.var 0) 0])))] [], .ife (.and_ (.cmp .lt (.var 2) (.blt .len [.pget (.var 0) 0])) (.cmp .ge (.var 3) (.bin .pow (.con (.int 10)) (.con (.int 18))))) [.pset 0 2 (.bin .fdiv (.bin .sub (.var 3) (.bin .pow (.con (.int 10)) (.con (.int 18)))) (.var 1)), .freeze 3, .ret (.bin .mod (.blt .int [.bin .sub (.var 3) (.bin .pow (.con (.int 10)) (.con (.int 18)))]) (.var 1))] [], .freeze 2, .asg 4 (.bin .add (.bin .add (.bin .add (.bin .mul (.bin .mod (.blt .int [.var 3]) (.con (.int 2147483587))) (.con (.int 48271))) (.bin .mul (.bin .mul (.con (.int 40014)) (.var 2)) (.var 2))) (.bin .mul (.con (.int 59)) (.var 2))) (.con (.int 17))), .asg 4 (.bin .mod (.blt .int [.var 4]) (.con (.int 2147483629))), .freeze 4, .asg 4 (.bin .mod (.blt .int [.bin .mul (.var 4) (.bin .add (.var 4) (.con (.int 69621)))]) (.con (.int 2147483549))), .freeze 4, .ret (.bin .mod (.blt .int [.bin .fdiv (.bin .mod (.blt .int [.bin .mul (.var 4) (.var 4)]) (.con (.int 2147483579))) (.con (.int 32))]) (.var 1))]
def k_l_draw : Kn := .fn 6 2 b_l_draw
abbrev n_l_draw : Nat := 0
def N_l_pick : List Str := ["_law_pen_here", "_law_items"]
def b_l_pick : List IS := [.ret (.sub (.var 1) (.call 0 [.var 0, .blt .len [.var 1]]))]
def k_l_pick : Kn := .fn 2 2 b_l_pick
abbrev n_l_pick : Nat := 1
def N_l_letters : List Str := ["_law_pen_here", "_law_many", "_law_turn", "_law_left", "_law_found", "_law_at"]
def b_l_letters : List IS := [.par [3, 4] [.con (.str [97, 98, 99, 100, 101, 102, 103, 104, 105, 106, 107, 108, 109, 110, 111, 112, 113, 114, 115, 116, 117, 118, 119, 120, 121, 122]), .lst []], .for_ .range1 [.var 1] (.nm 2) [.asg 5 (.call 0 [.var 0, .blt .len [.var 3]]), .freeze 4, .asg 4 (.bin .add (.var 4) (.lst [.sub (.var 3) (.var 5)])), .freeze 5, .asg 3 (.bin .add (.slice (.var 3) [] [.var 5]) (.slice (.var 3) [.bin .add (.var 5) (.con (.int 1))] []))], .ret (.sm .join (.con (.str [])) [.blt .sorted [.var 4]])]
def k_l_letters : Kn := .fn 6 2 b_l_letters
abbrev n_l_letters : Nat := 9
def N_l_bits : List Str := ["_law_pen_here"]
def b_l_bits : List IS := [.ret (.call 1 [.var 0, .lst [.con (.int 0), .con (.int 1), .con (.int 1), .con (.int 2), .con (.int 3), .con (.int 4), .con (.int 5), .con (.int 7), .call 0 [.var 0, .con (.int 12)], .call 0 [.var 0, .con (.int 100)]]])]
def k_l_bits : Kn := .fn 1 1 b_l_bits
abbrev n_l_bits : Nat := 10
/-- what a def tells -/
@[simp] theorem fn_run (S : Sem) (N np : Nat) (body : List IS) (ds : List D) : Kn.run S (.fn N np body) ds = if ds.length = np then M.bind (exs S body (ds.map (fun d => some (.fz d)) ++ List.replicate (N - ds.length) none)) fun r => M.of (flD r.1) else M.stuck := (rfl)
def tenK : Nat := 10 ^ 40
theorem divOk_of {j : Int} (h : 0 < j) (l : j ≤ (tenK : Nat)) : divOk j := by
  refine ⟨h, ?_⟩
  have : j.natAbs ≤ tenK := by omega
  exact Nat.lt_of_le_of_lt this (by decide +kernel)
/-- x at the pen p -/
def W {α : Type} (x : M α) (p : Pen) (Q : Except Exc α → Pen → Prop) : Prop := ∃ r p', x p = some (r, p') ∧ Q r p'
theorem okX_W {α : Type} {c : Nat} {x : M α} {Q : Except Exc α → Prop} (h : ∀ p : Pen, p.at_ + c ≤ penTop → W x p fun r p' => p'.at_ ≤ p.at_ + c ∧ Q r) : OkX c x Q := h
section
variable {α β : Type} (p : Pen) (Q : Except Exc β → Pen → Prop)
@[simp] theorem W_ret (a : β) : W (M.ret a) p Q ↔ Q (.ok a) p := ⟨fun ⟨r, p', h, q⟩ => by cases h; exact q, fun h => ⟨_, _, rfl, h⟩⟩
@[simp] theorem penGet0 (k : O → M β) : W (M.bind (penGet 0) k) p Q ↔ W (k (.fz (.lst (p.cells.map .int)))) p Q := Iff.rfl
@[simp] theorem penGet1 (k : O → M β) : W (M.bind (penGet 1) k) p Q ↔ W (k (.fz (.int (p.at_ : Nat)))) p Q := Iff.rfl
@[simp] theorem penGet2 (k : O → M β) : W (M.bind (penGet 2) k) p Q ↔ W (k (.fz (.int (p.left : Nat)))) p Q := Iff.rfl
theorem penSet1 (i : Int) (k : Unit → M β) (h : 0 ≤ i) : W (M.bind (penSet 1 (.int i)) k) p Q ↔ W (k ()) { p with at_ := i.toNat } Q := by
  unfold W M.bind penSet
  simp [h]
theorem penSet2 (i : Int) (k : Unit → M β) (h : 0 ≤ i) : W (M.bind (penSet 2 (.int i)) k) p Q ↔ W (k ()) { p with left := i.toNat } Q := by
  unfold W M.bind penSet
  simp [h]
end
def Draw (f : List D → M D) : Prop := ∀ m : Nat, 1 ≤ m → m ≤ tenK → Ok 1 (f [.pen, .int m]) fun d => ∃ k : Nat, d = .int k ∧ k < m
theorem mulOk_l {i j : Int} (h : i.natAbs < 2 ^ 64) : mulOk i j := .inl h
theorem mulOk_r {i j : Int} (h : j.natAbs < 2 ^ 64) : mulOk i j := .inr (.inl h)
theorem mod_small {i k : Int} (h : 0 < k) (l : k < 2 ^ 64) : (i % k).natAbs < 2 ^ 64 := by
  have h1 := Int.emod_nonneg i (Int.ne_of_gt h)
  have h2 := Int.emod_lt_of_pos i h
  omega
/-- the last row of a draw -/
theorem drawn {i : Int} {m : Nat} (h : 1 ≤ m) : ∃ k : Nat, D.int (i % (m : Int)) = .int k ∧ k < m := by
  have h1 := Int.emod_nonneg i (show (m : Int) ≠ 0 by omega)
  have h2 := Int.emod_lt_of_pos i (show (0 : Int) < m by omega)
  exact ⟨(i % (m : Int)).toNat, by rw [Int.toNat_of_nonneg h1], by omega⟩
theorem pow18 : powOk 10 18 := by decide +kernel
theorem eqCells (cs : List Int) : (cs.map D.int = [] ↔ cs = []) := by simp
theorem cokInts (cs : List Int) : cokD 60 (.lst (cs.map D.int)) = true := by
  rw [cok_lst, coks_all, List.all_map]
  simp
theorem eqLst_nil (cs : List D) : eqD (.lst cs) (.lst []) = decide (cs = []) := by
  cases cs <;> simp
/-- what a draw leaves -/
def DrawP (p : Pen) (m : Nat) : Except Exc D → Pen → Prop := fun r p' => p'.at_ ≤ p.at_ + 1 ∧ okP (fun d => ∃ k : Nat, d = D.int ↑k ∧ k < m) r
section
variable {S : Sem} {m : Nat} {p : Pen}
/-- the end of a draw -/
theorem draw_mix (h1 : 1 ≤ m) (hp : p.at_ + 1 ≤ penTop) (c : Int) (pn : Pen) (hpn : pn.at_ = p.at_ + 1) :
    W (M.bind (nxt S (b_l_draw.drop 7) (Fl.nx, [some (O.fz D.pen), some (O.fz (D.int ↑m)), some (O.fz (D.int ↑p.at_)), some (O.fz (D.int c)), none, none])) fun r => M.of (flD r.1)) pn (DrawP p m) := by
  have hp' : p.at_ < 2 ^ 61 := by unfold penTop at hp; omega
  have hat : ((p.at_ : Nat) : Int).natAbs < 2 ^ 64 := by omega
  have hm : (0 : Int) < m := by omega
  have d32 : divOk 32 := divOk_of (by decide) (by decide +kernel)
  have e1 : ∀ i : Int, mulOk (i % 2147483587) 48271 := fun i => mulOk_r (by decide)
  have e2 : ∀ i : Int, mulOk 40014 i := fun i => mulOk_l (by decide)
  have e3 : ∀ i : Int, mulOk i (p.at_ : Int) := fun i => mulOk_r hat
  have e4 : ∀ i : Int, mulOk 59 i := fun i => mulOk_l (by decide)
  have e5 : ∀ i j : Int, mulOk (i % 2147483629) j := fun i j => mulOk_l (mod_small (by decide) (by decide))
  have e6 : ∀ i j : Int, mulOk (i % 2147483549) j := fun i j => mulOk_l (mod_small (by decide) (by decide))
  simp [b_l_draw, bin_mod, bin_mul, e1, e2, e3, e4, e5, e6, bin_fdiv, d32, bin_mod _ _ hm]
  exact ⟨by omega, drawn h1⟩
theorem draw_tail (h1 : 1 ≤ m) (h2 : m ≤ tenK) (hp : p.at_ + 1 ≤ penTop) (c : Int) (pn : Pen) (hpn : pn.at_ = p.at_ + 1) :
    W (M.bind (nxt S (b_l_draw.drop 6) (Fl.nx, [some (O.fz D.pen), some (O.fz (D.int ↑m)), some (O.fz (D.int ↑p.at_)), some (O.fz (D.int c)), none, none])) fun r => M.of (flD r.1)) pn (DrawP p m) := by
  have hd : divOk (m : Int) := divOk_of (by omega) (by omega)
  have hm : (0 : Int) < m := by omega
  have mix := draw_mix (S := S) h1 hp c pn hpn
  simp [b_l_draw] at mix
  simp [b_l_draw, bin_pow _ _ pow18]
  by_cases h3 : p.at_ < pn.cells.length
  · by_cases h4 : (1000000000000000000 : Int) ≤ c
    · simp [h3, h4, bin_pow _ _ pow18, bin_fdiv _ _ hd, bin_mod _ _ hm]
      rw [penSet2 _ _ _ _ (Int.ediv_nonneg (by omega) (by omega))]
      simp
      exact ⟨by show pn.at_ ≤ _; omega, drawn h1⟩
    · simp [h3, h4, bin_pow _ _ pow18]
      exact mix
  · simp [h3]
    exact mix
end
theorem draw_ok (S : Sem) : Draw (Kn.run S k_l_draw) := by
  intro m h1 h2
  refine okX_W fun p hp => ?_
  have hd : divOk (m : Int) := divOk_of (by omega) (by omega)
  have hm : (0 : Int) < m := by omega
  simp [k_l_draw, b_l_draw, List.replicate]
  by_cases hl : (m : Int) ≤ (p.left : Int)
  · have hl' : m ≤ p.left := by omega
    simp [hl, hl', bin_mod _ _ hm, bin_fdiv _ _ hd]
    rw [penSet2 _ _ _ _ (Int.ediv_nonneg (by omega) (by omega))]
    simp
    exact drawn h1
  · have hl' : ¬ m ≤ p.left := by omega
    simp [hl, hl']
    rw [penSet1 _ _ _ _ (by omega)]
    have e1 : mulOk 41 (p.at_ : Int) := mulOk_l (by decide)
    have tail := fun c => draw_tail (S := S) h1 h2 hp c { cells := p.cells, at_ := ((p.at_ : Int) + 1).toNat, left := p.left } (by show ((p.at_ : Int) + 1).toNat = _; omega)
    simp [b_l_draw, DrawP] at tail
    simp [bin_mul _ _ e1, cmp_ne (.fz (.lst (p.cells.map D.int))) (.lst (fzs [])) (by rw [toD_fz]; exact cokInts p.cells) (by simp [cokDs]), eqLst_nil]
    by_cases hc : p.cells = []
    · have hneg : ¬ ((p.at_ : Int) < 0) := by omega
      simp [hc, hneg] at tail ⊢
      exact tail _
    · have hlen : 0 < p.cells.length := List.length_pos_iff.mpr hc
      have hmod : (p.at_ : Int) % (p.cells.length : Int) = ((p.at_ % p.cells.length : Nat) : Int) := by simp
      have hlt := Nat.mod_lt p.at_ hlen
      simp [hc, bin_mod _ _ (show (0 : Int) < (p.cells.length : Int) by omega)]
      rw [hmod, atI_nat _ _ (by simpa using hlt)]
      simp [hlt]
      exact tail _
def Pick (f : List D → M D) : Prop := ∀ ds : List D, ds ≠ [] → ds.length ≤ tenK → Ok 1 (f [.pen, .lst ds]) fun d => d ∈ ds
theorem pick_ok {S : Sem} (h : Draw (S.fn n_l_draw)) : Pick (Kn.run S k_l_pick) := by
  intro ds h1 h2
  have hl : 0 < ds.length := List.length_pos_iff.mpr h1
  simp [k_l_pick, b_l_pick, List.replicate]
  refine OkX.bind (h ds.length hl h2) (by decide) fun d ⟨k, e, hk⟩ => ?_
  subst e
  simp [atI_nat _ _ hk, hk]
  exact OkX.ret (List.getElem_mem hk)
theorem pick_str {S : Sem} (h : Draw (S.fn n_l_draw)) {s : List Nat} (h1 : s ≠ []) (h2 : s.length ≤ lim) : Ok 1 (Kn.run S k_l_pick [.pen, .str s]) fun d => ∃ c ∈ s, d = .str [c] := by
  have hl : 0 < s.length := List.length_pos_iff.mpr h1
  simp [k_l_pick, b_l_pick, List.replicate, len_str s h2]
  refine OkX.bind (h s.length hl (Nat.le_trans h2 (by decide +kernel))) (by decide) fun d ⟨k, e, hk⟩ => ?_
  subst e
  rw [sub_str s k s[k] h2 (by rw [atI_nat _ _ hk]; simp [hk])]
  simp
  exact OkX.ret ⟨_, List.getElem_mem hk, rfl⟩
end Bc.Pl
set_option Elab.async false
set_option linter.all false
set_option maxRecDepth 100000
set_option maxHeartbeats 4000000
/-! Part Q2. Letters, bits, codes. -/
namespace Bc.Pl
open PySem PySem.Spec L2
def N_l_code : List Str := ["_law_pen_here", "_law_letters_here", "_law_most", "_law_state", "_law_count", "_law_rows", "_law_row", "_law_letter", "_law_goal"]
def b_l_code : List IS := [.par [4, 5] [.bin .add (.con (.int 1)) (.call 0 [.var 0, .var 2]), .lst []], .freeze 4, .for_ .range1 [.var 4] (.nm 3) [.asg 6 (.lst []), .for_ .seq [.var 1] (.nm 7) [.freeze 4, .asg 8 (.call 0 [.var 0, .var 4]), .freeze 8, .app 6 (.tup [.var 8, .call 10 [.var 0]])], .freeze 6, .app 5 (.var 6)], .freeze 5, .freeze 4, .ret (.tup [.var 1, .var 5, .lc .range1 [.var 4] (.nm 3) [] (.call 10 [.var 0]) [3]])]
def k_l_code : Kn := .fn 9 3 b_l_code
abbrev n_l_code : Nat := 11
def N_l_made_code : List Str := ["_law_code_here"]
def b_l_made_code : List IS := [.ret (.call 8 [.sub (.var 0) (.con (.int 0)), .sub (.var 0) (.con (.int 1)), .sub (.var 0) (.con (.int 2))])]
def k_l_made_code : Kn := .fn 1 1 b_l_made_code
abbrev n_l_made_code : Nat := 17
def N_l_column : List Str := ["_law_pen_here", "_law_letters_here", "_law_most", "_law_place", "_law_many", "_law_found", "_law_again"]
def b_l_column : List IS := [.par [4, 5] [.call 0 [.var 0, .bin .add (.var 2) (.con (.int 1))], .con (.str [])], .freeze 4, .for_ .range1 [.var 4] (.nm 3) [.asg 6 (.and_ (.cmp .ne (.var 5) (.con (.str []))) (.cmp .eq (.call 0 [.var 0, .con (.int 3)]) (.con (.int 0)))), .freeze 5, .asg 5 (.bin .add (.var 5) (.ite (.var 6) (.sub (.var 5) (.neg (.con (.int 1)))) (.call 1 [.var 0, .var 1])))], .freeze 5, .ret (.var 5)]
def k_l_column : Kn := .fn 7 3 b_l_column
abbrev n_l_column : Nat := 20
def N_check_rows : List Str := ["many", "goals", "ends", "state", "row", "goal"]
def b_check_rows : List IS := [.ife (.cmp .eq (.blt .len [.var 1]) (.con (.int 0))) [.raise_ 0 [.con (.int 0)]] [], .for_ (.enum 0) [.var 1] (.tp [3, 4]) [.ife (.or_ (.cmp .ne (.blt .len [.var 4]) (.var 0)) (.or_ (.cmp .ge (.var 3) (.var 2)) (.not_ (.blt .all [.lc .seq [.var 4] (.nm 5) [] (.chain .le .lt (.con (.int 0)) (.var 5) (.blt .len [.var 1])) [5]])))) [.raise_ 0 [.var 3]] []], .ife (.cmp .gt (.var 2) (.blt .len [.var 1])) [.raise_ 0 [.blt .len [.var 1]]] []]
def k_check_rows : Kn := .fn 6 3 b_check_rows
abbrev n_check_rows : Nat := 7
def N_Code___init__ : List Str := ["self", "values", "rows", "ends", "row", "goal", "bits"]
def b_Code___init__ : List IS := [.expr (.call 7 [.blt .len [.var 1], .lc .seq [.var 2] (.nm 4) [] (.lc .seq [.var 4] (.tp [5, 6]) [] (.var 5) [5, 6]) [4], .blt .len [.var 3]]), .setf 0 0 (.var 1), .setf 0 1 (.blt .tuple [.lc .seq [.var 2] (.nm 4) [] (.blt .tuple [.lc .seq [.var 4] (.tp [5, 6]) [] (.tup [.var 5, .var 6]) [5, 6]]) [4]]), .setf 0 2 (.blt .tuple [.var 3])]
def k_Code___init__ : Kn := .mk 0 7 4 b_Code___init__
abbrev n_Code___init__ : Nat := 8
def N_Code_length : List Str := ["self", "column", "state", "bits"]
def b_Code_length : List IS := [.asgT [2, 3] (.call 16 [.var 0, .con (.int 0), .var 1, .con (.int 0)]), .ret (.bin .add (.var 3) (.sub (.fld (.var 0) 2) (.var 2)))]
def k_Code_length : Kn := .fn 4 2 b_Code_length
abbrev n_Code_length : Nat := 15
def N_walked : List Str := ["code", "state", "word", "place", "bits", "index", "letter", "more"]
def b_walked : List IS := [.asg 4 (.con (.int 0)), .for_ (.enum 0) [.var 2] (.tp [5, 6]) [.ife (.cmp .notin (.var 6) (.fld (.var 0) 0)) [.raise_ 1 [.bin .add (.var 3) (.var 5)]] [], .asgT [1, 7] (.sub (.sub (.fld (.var 0) 1) (.var 1)) (.sm .index (.fld (.var 0) 0) [.var 6])), .aug 4 .add (.var 7)], .ret (.tup [.var 1, .var 4])]
def k_walked : Kn := .fn 8 4 b_walked
abbrev n_walked : Nat := 16
/-! ### sorted letters -/
def insN (x : Nat) : List Nat → List Nat
  | [] => [x]
  | y :: ys => if x ≤ y then x :: y :: ys else y :: insN x ys
def sortN : List Nat → List Nat
  | [] => []
  | x :: xs => insN x (sortN xs)
theorem leS_one (a b : Nat) : leS [a] [b] = decide (a ≤ b) := by
  unfold leS ltCps
  by_cases h : b < a
  · have : ¬ a ≤ b := by omega
    simp [h, this]
  · have h2 : a ≤ b := by omega
    simp [h, h2, ltCps]
theorem insS_one (x : Nat) : ∀ l : List Nat, insS [x] (l.map fun c => [c]) = (insN x l).map fun c => [c]
  | [] => rfl
  | y :: l => by
    rw [List.map_cons, insS, insN, leS_one]
    by_cases h : x ≤ y
    · simp [h]
    · simp [h, insS_one x l]
theorem sortS_one : ∀ l : List Nat, sortS (l.map fun c => [c]) = (sortN l).map fun c => [c]
  | [] => rfl
  | x :: l => by rw [List.map_cons, sortS, sortS_one l, insS_one, sortN]
theorem mem_insN {x a : Nat} : ∀ {l : List Nat}, a ∈ insN x l ↔ a = x ∨ a ∈ l
  | [] => by simp [insN]
  | y :: l => by
    rw [insN]
    by_cases h : x ≤ y
    · simp [h]
    · simp [h, mem_insN (x := x) (a := a) (l := l)]
      constructor
      · rintro (h | h | h) <;> simp [h]
      · rintro (h | h | h) <;> simp [h]
theorem mem_sortN {a : Nat} : ∀ {l : List Nat}, a ∈ sortN l ↔ a ∈ l
  | [] => by simp [sortN]
  | x :: l => by rw [sortN, mem_insN, mem_sortN (l := l), List.mem_cons]
theorem len_insN (x : Nat) : ∀ l : List Nat, (insN x l).length = l.length + 1
  | [] => rfl
  | y :: l => by
    rw [insN]
    by_cases h : x ≤ y
    · simp [h]
    · simp [h, len_insN x l]
theorem len_sortN : ∀ l : List Nat, (sortN l).length = l.length
  | [] => rfl
  | x :: l => by rw [sortN, len_insN, len_sortN l, List.length_cons]
theorem asc_insN {x : Nat} : ∀ {l : List Nat}, l.Pairwise (· < ·) → x ∉ l → (insN x l).Pairwise (· < ·)
  | [], _, _ => by simp [insN]
  | y :: l, h, hx => by
    rw [insN]
    have h' := List.pairwise_cons.mp h
    by_cases e : x ≤ y
    · have lt : x < y := by
        have : x ≠ y := fun q => hx (by simp [q])
        omega
      simp only [e, if_true]
      refine List.pairwise_cons.mpr ⟨fun a ha => ?_, h⟩
      rcases List.mem_cons.mp ha with q | q
      · omega
      · have := h'.1 a q
        omega
    · simp only [e, if_false]
      refine List.pairwise_cons.mpr ⟨fun a ha => ?_, asc_insN h'.2 fun q => hx (by simp [q])⟩
      rcases mem_insN.mp ha with q | q
      · omega
      · exact h'.1 a q
theorem asc_sortN : ∀ {l : List Nat}, l.Nodup → (sortN l).Pairwise (· < ·)
  | [], _ => by simp [sortN]
  | x :: l, h => by
    have h' := List.nodup_cons.mp h
    rw [sortN]
    exact asc_insN (asc_sortN h'.2) fun q => h'.1 (mem_sortN.mp q)
/-- drawn values -/
structure IsL (s : List Nat) : Prop where
  asc : s.Pairwise (· < ·)
  abc : ∀ c ∈ s, 97 ≤ c ∧ c ≤ 122
theorem IsL.ok {s : List Nat} (h : IsL s) : okS s = true := by
  unfold okS
  rw [List.all_eq_true]
  intro c hc
  have := h.abc c hc
  simp
  omega
theorem IsL.nd {s : List Nat} (h : IsL s) : s.Nodup := List.Pairwise.imp (fun h => Nat.ne_of_lt h) h.asc
def abcd : List Nat := [97, 98, 99, 100, 101, 102, 103, 104, 105, 106, 107, 108, 109, 110, 111, 112, 113, 114, 115, 116, 117, 118, 119, 120, 121, 122]
theorem abcd_in : ∀ c ∈ abcd, 97 ≤ c ∧ c ≤ 122 := by decide
theorem abcd_nd : abcd.Nodup := by decide
theorem strs_ch : ∀ l : List Nat, strs? (l.map ch) = some (l.map fun c => [c])
  | [] => rfl
  | c :: l => by rw [List.map_cons, ch, strs?, strs_ch l]; rfl
theorem ints_ch : ∀ l : List Nat, l ≠ [] → ints? (l.map ch) = none
  | [], h => absurd rfl h
  | c :: l, _ => rfl
theorem join_ch : ∀ l : List Nat, TL.joinL [] (l.map fun c => [c]) = l
  | [] => rfl
  | [c] => rfl
  | c :: d :: l => by
    have := join_ch (d :: l)
    rw [List.map_cons] at this
    rw [List.map_cons, List.map_cons, TL.joinL, this]
    rfl
theorem sumLen_ch : ∀ l : List Nat, sumLen (l.map fun c => [c]) = l.length
  | [] => rfl
  | c :: l => by
    have := sumLen_ch l
    unfold sumLen at this ⊢
    simp at this ⊢
    omega
theorem sort_ch (l : List Nat) (h : l.length < 64) (h2 : l ≠ []) : sortO (.lst (fzs (l.map ch))) = some (.lst (fzs ((sortN l).map ch))) := by
  unfold sortO
  simp only [lst_own, List.length_map, h, if_true, ints_ch l h2, strs_ch, Option.map_some, sortS_one]
  unfold fzs
  rw [List.map_map, List.map_map]
  rfl
theorem join_of (l : List Nat) (h : l.length ≤ lim) : smO .join [] [.lst (fzs (l.map ch))] = some (.fz (.str l)) := by
  show (match strs1? (.lst (fzs (l.map ch))) with
    | some ss => smJoin [] ss
    | none => none) = _
  have e : strs1? (.lst (fzs (l.map ch))) = some (l.map fun c => [c]) := by
    unfold strs1?
    rw [seq_own]
    exact strs_ch l
  rw [e]
  unfold smJoin
  simp only [sumLen_ch, join_ch, List.length_nil, Nat.mul_zero, Nat.add_zero, h, if_true]
end Bc.Pl
set_option Elab.async false
set_option linter.all false
set_option maxRecDepth 100000
set_option maxHeartbeats 4000000
namespace Bc.Pl
open PySem PySem.Spec L2
def Letters (f : List D → M D) : Prop := ∀ m : Nat, 1 ≤ m → m ≤ 26 → Ok 26 (f [.pen, .int m]) fun d => ∃ s, d = .str s ∧ s.length = m ∧ IsL s
theorem letters_ok {S : Sem} (h : Draw (S.fn n_l_draw)) : Letters (Kn.run S k_l_letters) := by
  intro m h1 h2
  conv => arg 2; simp [k_l_letters, b_l_letters, List.replicate, items_r1 (m : Int) (inRange_of (by omega) (by omega))]
  refine OkX.bind (c1 := 1 * (intsFrom 0 m).length) (P := fun r => ∃ (l ls : List Nat) (o2 o5 : Option O), r = (.nx, [some (.fz .pen), some (.fz (.int m)), o2, some (.fz (.str ls)), some (.lst (fzs (l.map ch))), o5]) ∧ l.length = m ∧ l.Nodup ∧ ∀ c ∈ l, c ∈ abcd) ?_ ?_ ?_
  · refine OkX.for (I := fun i σ => i ≤ m ∧ ∃ (l ls : List Nat) (o2 o5 : Option O), σ = [some (.fz .pen), some (.fz (.int m)), o2, some (.fz (.str ls)), some (.lst (fzs (l.map ch))), o5] ∧ l.length = i ∧ ls.length + i = 26 ∧ (l ++ ls).Nodup ∧ ∀ c ∈ l ++ ls, c ∈ abcd) ?_ ?_ ?_
    · refine ⟨Nat.zero_le _, [], abcd, _, _, rfl, rfl, rfl, abcd_nd, by simp⟩
    · rintro i d σ hi ⟨hm, l, ls, o2, o5, rfl, e1, e2, e3, e4⟩
      obtain ⟨rfl, hlt⟩ := intsFrom_get _ _ _ _ hi
      have hl : ls.length ≤ lim := by unfold lim; omega
      conv => arg 2; simp [forB, len_str _ hl]
      refine OkX.bind (h ls.length (by omega) (by unfold tenK; omega)) (by omega) fun d ⟨k, e, hk⟩ => ?_
      subst e
      obtain ⟨c, hc⟩ : ∃ c, ls[k]? = some c := ⟨ls[k], by simp [hk]⟩
      have hs := sub_str ls k c hl (by rw [atI_nat _ _ hk, hc])
      have h1' : (1 : Nat) ≤ lim := by decide
      have g1 : (l.map ch).length + [D.str [c]].length ≤ lim := by simp [lim]; omega
      have g2 : (ls.take k).length + (ls.drop (k + 1)).length ≤ lim := by simp [lim]; omega
      conv => arg 2; simp [hs, h1', slice_str _ _ _ hl, cut_to, cut_from1, add_lo _ _ g1, bin_adds _ _ g2]
      refine OkX.ret ?_
      have hx : ls = ls.take k ++ c :: ls.drop (k + 1) := by
        obtain ⟨q1, q2⟩ := List.getElem?_eq_some_iff.mp hc
        rw [← q2, ← List.drop_eq_getElem_cons q1, List.take_append_drop]
      have hp : (l ++ [c] ++ (ls.take k ++ ls.drop (k + 1))).Perm (l ++ ls) := by
        conv => arg 2; rw [hx]
        rw [List.append_assoc]
        exact List.Perm.append_left l (show (c :: (ls.take k ++ ls.drop (k + 1))).Perm _ from List.perm_middle.symm)
      refine ⟨by omega, l ++ [c], ls.take k ++ ls.drop (k + 1), _, _, (by rw [List.map_append]; rfl), ?_, ?_, ?_, ?_⟩
      · simp [e1]
      · simp
        omega
      · exact hp.nodup_iff.mpr e3
      · exact fun x hx => e4 x (hp.mem_iff.mp hx)
    · rintro σ ⟨hm, l, ls, o2, o5, rfl, e1, e2, e3, e4⟩
      exact ⟨l, ls, o2, o5, rfl, by rw [e1, intsFrom_len], (List.nodup_append.mp e3).1, fun c hc => e4 c (List.mem_append_left _ hc)⟩
  · rw [intsFrom_len]
    omega
  · rintro r ⟨l, ls, o2, o5, rfl, e1, e2, e3⟩
    have hne : l ≠ [] := fun e => by rw [e] at e1; simp at e1; omega
    conv => arg 2; simp [sort_ch l (by omega) hne, join_of (sortN l) (by rw [len_sortN]; unfold lim; omega)]
    refine OkX.ret ⟨_, rfl, by rw [len_sortN, e1], asc_sortN e2, fun c hc => ?_⟩
    exact abcd_in c (e3 c (mem_sortN.mp hc))
end Bc.Pl
set_option Elab.async false
set_option linter.all false
set_option maxRecDepth 100000
set_option maxHeartbeats 4000000
/-! Part Q3. Bits, drawn codes, columns. -/
namespace Bc.Pl
open PySem PySem.Spec L2
theorem lim1 : 1 ≤ lim := by decide
theorem lim_of {n : Nat} (h : n ≤ 1000) : n ≤ lim := by unfold lim; omega
theorem tenK_of {n : Nat} (h : n ≤ 1000) : n ≤ tenK := Nat.le_trans h (by decide +kernel)
def Bits (f : List D → M D) : Prop := Ok 3 (f [.pen]) fun d => ∃ b : Nat, d = .int b ∧ b < 100
theorem bits_ok {S : Sem} (h : Draw (S.fn n_l_draw)) (hp : Pick (S.fn n_l_pick)) : Bits (Kn.run S k_l_bits) := by
  unfold Bits
  conv => arg 2; simp [k_l_bits, b_l_bits, List.replicate]
  refine OkX.bind (h 12 (by decide) (by decide +kernel)) (by decide) fun d ⟨k, e, hk⟩ => ?_
  subst e
  conv => arg 2; simp
  refine OkX.bind (h 100 (by decide) (by decide +kernel)) (by decide) fun d ⟨k2, e, hk2⟩ => ?_
  subst e
  have hl : (10 : Nat) ≤ lim := lim_of (by decide)
  conv => arg 2; simp [hl]
  refine OkX.bind (hp _ (by simp) (by exact tenK_of (by simp))) (by decide) fun d hd => OkX.ret ?_
  have big : ∀ b : Nat, b < 100 → ∃ c : Nat, D.int b = .int c ∧ c < 100 := fun b hb => ⟨b, rfl, hb⟩
  simp at hd
  rcases hd with rfl | rfl | rfl | rfl | rfl | rfl | rfl | rfl | rfl
  · exact big 0 (by decide)
  · exact big 1 (by decide)
  · exact big 2 (by decide)
  · exact big 3 (by decide)
  · exact big 4 (by decide)
  · exact big 5 (by decide)
  · exact big 7 (by decide)
  · exact big k (by omega)
  · exact big k2 hk2
/-- a drawn code as data -/
structure CD where
  letters : List Nat
  rows : List (List (Nat × Nat))
  ends : List Nat
def prD (p : Nat × Nat) : D := .tup [.int (p.1 : Nat), .int (p.2 : Nat)]
def rowL (r : List (Nat × Nat)) : D := .lst (r.map prD)
def rowT (r : List (Nat × Nat)) : D := .tup (r.map prD)
def nD (n : Nat) : D := .int (n : Nat)
def CD.d (C : CD) : D := .tup [.str C.letters, .lst (C.rows.map rowL), .lst (C.ends.map nD)]
def CD.o (C : CD) : D := .obj 0 [.str C.letters, .tup (C.rows.map rowT), .tup (C.ends.map nD)]
structure CD.Ok (C : CD) (s : List Nat) (m : Nat) : Prop where
  let_ : C.letters = s
  pos : 1 ≤ C.rows.length
  most : C.rows.length ≤ m
  ends_ : C.ends.length = C.rows.length
  rows_ : ∀ r ∈ C.rows, r.length = s.length ∧ ∀ p ∈ r, p.1 < C.rows.length ∧ p.2 < 100
  bits_ : ∀ b ∈ C.ends, b < 100
def Code (f : List D → M D) : Prop := ∀ (s : List Nat) (m : Nat), s.length ≤ 26 → 1 ≤ m → m ≤ 100 → OkX (1 + 110 * 100 + 300) (f [.pen, .str s, .int m]) (okP fun d => ∃ C : CD, d = C.d ∧ C.Ok s m)
theorem okX_eq {α : Type} {c d : Nat} {x : M α} {Q : Except Exc α → Prop} (h : OkX c x Q) (e : c ≤ d) : OkX d x Q := OkX.mono h e fun _ q => q
theorem code_ok {S : Sem} (h : Draw (S.fn n_l_draw)) (hb : Bits (S.fn n_l_bits)) : Code (Kn.run S k_l_code) := by
  intro s m hs h1 h2
  conv => arg 2; simp [k_l_code, b_l_code, List.replicate]
  refine OkX.bind (h m h1 (tenK_of (by omega))) (by decide) fun d ⟨k, e, hk⟩ => ?_
  subst e
  have hr : inRange (1 + (k : Int)) = true := inRange_of (by omega) (by omega)
  have hn : (1 + (k : Int)).toNat = k + 1 := by omega
  conv => arg 2; simp [items_r1 _ hr, hn]
  -- the rows
  refine OkX.bind (c1 := 110 * (intsFrom 0 (k + 1)).length) (P := fun r => ∃ (rs : List (List (Nat × Nat))) (o3 o6 o7 o8 : Option O), r = (.nx, [some (.fz .pen), some (.fz (.str s)), some (.fz (.int m)), o3, some (.fz (.int (1 + (k : Int)))), some (.lst (fzs (rs.map rowL))), o6, o7, o8]) ∧
    rs.length = k + 1 ∧ ∀ r ∈ rs, r.length = s.length ∧ ∀ p ∈ r, p.1 < k + 1 ∧ p.2 < 100) ?_ ?_ ?_
  · refine OkX.for (I := fun i σ => ∃ (rs : List (List (Nat × Nat))) (o3 o6 o7 o8 : Option O), σ = [some (.fz .pen), some (.fz (.str s)), some (.fz (.int m)), o3, some (.fz (.int (1 + (k : Int)))), some (.lst (fzs (rs.map rowL))), o6, o7, o8] ∧
      rs.length = i ∧ ∀ r ∈ rs, r.length = s.length ∧ ∀ p ∈ r, p.1 < k + 1 ∧ p.2 < 100) ?_ ?_ ?_
    · exact ⟨[], _, _, _, _, rfl, rfl, by simp⟩
    · rintro i d σ hi ⟨rs, o3, o6, o7, o8, rfl, e1, e2⟩
      obtain ⟨rfl, hlt⟩ := intsFrom_get _ _ _ _ hi
      conv => arg 2; simp [forB]
      refine OkX.bind (c1 := 4 * (s.map ch).length) (P := fun r => ∃ (row : List (Nat × Nat)) (o7 o8 : Option O), r = (.nx, [some (.fz .pen), some (.fz (.str s)), some (.fz (.int m)), some (.fz (.int i)), some (.fz (.int (1 + (k : Int)))), some (.lst (fzs (rs.map rowL))), some (.lst (fzs (row.map prD))), o7, o8]) ∧
        row.length = s.length ∧ ∀ p ∈ row, p.1 < k + 1 ∧ p.2 < 100) ?_ (by simp; omega) ?_
      · refine OkX.for (I := fun j σ => ∃ (row : List (Nat × Nat)) (o7 o8 : Option O), σ = [some (.fz .pen), some (.fz (.str s)), some (.fz (.int m)), some (.fz (.int i)), some (.fz (.int (1 + (k : Int)))), some (.lst (fzs (rs.map rowL))), some (.lst (fzs (row.map prD))), o7, o8] ∧
          row.length = j ∧ ∀ p ∈ row, p.1 < k + 1 ∧ p.2 < 100) ?_ ?_ ?_
        · exact ⟨[], _, _, rfl, rfl, by simp⟩
        · rintro j d σ hj ⟨row, o7, o8, rfl, e3, e4⟩
          have hjl := (List.getElem?_eq_some_iff.mp hj).1
          rw [List.length_map] at hjl
          conv => arg 2; simp [forB]
          have hc : (1 + (k : Int)) = ((k + 1 : Nat) : Int) := by omega
          rw [hc]
          refine OkX.bind (h (k + 1) (by omega) (tenK_of (by omega))) (by decide) fun d ⟨g, e, hg⟩ => ?_
          subst e
          have hl2 : (2 : Nat) ≤ lim := lim_of (by decide)
          conv => arg 2; simp [ownL]
          refine OkX.bind hb (by decide) fun d ⟨b, e, hbb⟩ => ?_
          subst e
          have ha : (row.map prD).length < lim := by rw [List.length_map]; unfold lim; omega
          conv => arg 2; simp [hl2, appL_fz ha]
          refine OkX.ret ⟨row ++ [(g, b)], _, _, (by rw [List.map_append]; rfl), by simp [e3], fun p hp => ?_⟩
          rcases List.mem_append.mp hp with q | q
          · exact e4 p q
          · rw [List.mem_singleton.mp q]
            exact ⟨hg, hbb⟩
        · rintro σ ⟨row, o7, o8, rfl, e3, e4⟩
          exact ⟨row, o7, o8, rfl, by rw [e3, List.length_map], e4⟩
      · rintro r ⟨row, o7, o8, rfl, e3, e4⟩
        have ha : (rs.map rowL).length < lim := by rw [List.length_map]; unfold lim; omega
        conv => arg 2; simp [ownL, appL_fz ha]
        refine OkX.ret ⟨rs ++ [row], _, _, _, _, (by rw [List.map_append]; rfl), by simp [e1], fun r hr => ?_⟩
        rcases List.mem_append.mp hr with q | q
        · exact e2 r q
        · rw [List.mem_singleton.mp q]
          exact ⟨e3, e4⟩
    · rintro σ ⟨rs, o3, o6, o7, o8, rfl, e1, e2⟩
      exact ⟨rs, o3, o6, o7, o8, rfl, by rw [e1, intsFrom_len], e2⟩
  · rw [intsFrom_len]
    omega
  · rintro r ⟨rs, o3, o6, o7, o8, rfl, e1, e2⟩
    conv => arg 2; simp [items_r1 _ hr, hn]
    refine OkX.bind (c1 := 3 * (intsFrom 0 (k + 1)).length) (Ok.lcD (P := fun d => ∃ b : Nat, d = .int b ∧ b < 100) fun d hd => ?_) (by rw [intsFrom_len]; omega) ?_
    · refine Ok.safe ?_
      conv => arg 2; simp
      refine OkX.bind hb (by decide) fun d hd => OkX.ret ⟨d, rfl, hd⟩
    · rintro os ⟨es, rfl, q1, q2⟩
      have hl : (intsFrom 0 (k + 1)).length ≤ lim := lim_of (by rw [intsFrom_len]; omega)
      have hl3 : (3 : Nat) ≤ lim := lim_of (by decide)
      conv => arg 2; simp [hl, hl3]
      have : ∀ es : List D, (∀ e ∈ es, ∃ b : Nat, e = .int b ∧ b < 100) → ∃ bs : List Nat, es = bs.map nD ∧ ∀ b ∈ bs, b < 100 := fun es => by
        induction es with
        | nil => exact fun _ => ⟨[], rfl, by simp⟩
        | cons e es ih =>
          intro h
          obtain ⟨b, rfl, hb⟩ := h e (by simp)
          obtain ⟨bs, rfl, h2⟩ := ih fun e he => h e (by simp [he])
          exact ⟨b :: bs, rfl, fun b' hb' => by
            rcases List.mem_cons.mp hb' with q | q
            · rw [q]
              exact hb
            · exact h2 b' q⟩
      obtain ⟨bs, rfl, hbs⟩ := this es q2
      refine OkX.ret ⟨⟨s, rs, bs⟩, rfl, rfl, (by show 1 ≤ rs.length; omega), (by show rs.length ≤ m; omega), ?_, ?_, hbs⟩
      · rw [List.length_map, intsFrom_len] at q1
        show bs.length = rs.length
        rw [q1, e1]
      · show ∀ r ∈ rs, r.length = s.length ∧ ∀ p ∈ r, p.1 < rs.length ∧ p.2 < 100
        rw [e1]
        exact e2
end Bc.Pl
set_option Elab.async false
set_option linter.all false
set_option maxRecDepth 100000
set_option maxHeartbeats 4000000
/-! Part Q4. Columns; codes made; lengths. -/
namespace Bc.Pl
open PySem PySem.Spec L2
theorem okS_app {s t : List Nat} : okS (s ++ t) = true ↔ okS s = true ∧ okS t = true := by
  unfold okS
  rw [List.all_append, Bool.and_eq_true]
theorem okS_mem {s : List Nat} : okS s = true ↔ ∀ c ∈ s, c < 0x110000 := by
  unfold okS
  rw [List.all_eq_true]
  simp
theorem okS_sub {s w : List Nat} (h : okS s = true) (hw : ∀ c ∈ w, c ∈ s) : okS w = true := okS_mem.mpr fun c hc => okS_mem.mp h c (hw c hc)
def Column (f : List D → M D) : Prop := ∀ (s : List Nat) (m : Nat), s ≠ [] → s.length ≤ 26 → okS s = true → m ≤ 100 → OkX (1 + 2 * m) (f [.pen, .str s, .int m]) (okP fun d => ∃ w : List Nat, d = .str w ∧ w.length ≤ m ∧ ∀ c ∈ w, c ∈ s)
theorem at_last (w : List Nat) (h : w ≠ []) : ∃ c ∈ w, atI w (-1) = some c := by
  refine ⟨w.getLast h, List.getLast_mem h, ?_⟩
  have hl : 0 < w.length := List.length_pos_iff.mpr h
  unfold atI ixN
  have h1 : ¬ (0 : Int) ≤ -1 := by decide
  have h2 : -(w.length : Int) ≤ -1 := by omega
  have h3 : ((-1 : Int) + (w.length : Int)).toNat = w.length - 1 := by omega
  simp only [h1, h2, h3, if_true, if_false, Option.bind_some]
  rw [List.getLast_eq_getElem]
  simp [hl]
def PickS (f : List D → M D) : Prop := ∀ s : List Nat, s ≠ [] → s.length ≤ lim → Ok 1 (f [.pen, .str s]) fun d => ∃ c ∈ s, d = ch c
theorem pickS_ok {S : Sem} (h : Draw (S.fn n_l_draw)) : PickS (Kn.run S k_l_pick) := fun s h1 h2 => pick_str h h1 h2
theorem column_ok {S : Sem} (h : Draw (S.fn n_l_draw)) (hp : PickS (S.fn n_l_pick)) : Column (Kn.run S k_l_column) := by
  intro s m h1 h2 h3 h4
  conv => arg 2; simp [k_l_column, b_l_column, List.replicate]
  have hc : (m : Int) + 1 = ((m + 1 : Nat) : Int) := by omega
  rw [hc]
  refine OkX.bind (h (m + 1) (by omega) (tenK_of (by omega))) (by omega) fun d ⟨k, e, hk⟩ => ?_
  subst e
  have hr : inRange (k : Int) = true := inRange_of (by omega) (by omega)
  conv => arg 2; simp [items_r1 _ hr]
  refine OkX.bind (c1 := 2 * (intsFrom 0 k).length) (P := fun r => ∃ (w : List Nat) (o3 o6 : Option O), r = (.nx, [some (.fz .pen), some (.fz (.str s)), some (.fz (.int m)), o3, some (.fz (.int k)), some (.fz (.str w)), o6]) ∧ w.length = k ∧ ∀ c ∈ w, c ∈ s) ?_ ?_ ?_
  · refine OkX.for (I := fun i σ => ∃ (w : List Nat) (o3 o6 : Option O), σ = [some (.fz .pen), some (.fz (.str s)), some (.fz (.int m)), o3, some (.fz (.int k)), some (.fz (.str w)), o6] ∧ w.length = i ∧ ∀ c ∈ w, c ∈ s) ?_ ?_ ?_
    · exact ⟨[], _, _, rfl, rfl, by simp⟩
    · rintro i d σ hi ⟨w, o3, o6, rfl, e1, e2⟩
      obtain ⟨rfl, hlt⟩ := intsFrom_get _ _ _ _ hi
      have hw : okS w = true := okS_sub h3 e2
      have hwl : w.length ≤ lim := lim_of (by omega)
      -- a value more
      have more : ∀ (c : Nat) (o6 : Option O), c ∈ s → OkX 0 (M.bind (M.of (binO .add (.fz (.str w)) (.fz (ch c)))) fun a => M.ret (Fl.nx, [some (O.fz .pen), some (.fz (.str s)), some (.fz (.int m)), some (.fz (.int i)), some (.fz (.int k)), some a, o6])) (turnP (fun σ => ∃ (w : List Nat) (o3 o6 : Option O), σ = [some (.fz .pen), some (.fz (.str s)), some (.fz (.int m)), o3, some (.fz (.int k)), some (.fz (.str w)), o6] ∧ w.length = i + 1 ∧ ∀ c ∈ w, c ∈ s) (okP fun r => ∃ (w : List Nat) (o3 o6 : Option O), r = (.nx, [some (.fz .pen), some (.fz (.str s)), some (.fz (.int m)), o3, some (.fz (.int k)), some (.fz (.str w)), o6]) ∧ w.length = k ∧ ∀ c ∈ w, c ∈ s)) := fun c o6 hc => by
        have hl : w.length + [c].length ≤ lim := lim_of (by simp; omega)
        conv => arg 2; simp [ch, bin_adds _ _ hl]
        refine OkX.ret ⟨w ++ [c], _, _, rfl, by simp [e1], fun a ha => ?_⟩
        rcases List.mem_append.mp ha with q | q
        · exact e2 a q
        · rw [List.mem_singleton.mp q]
          exact hc
      have newv : OkX 1 (M.bind (S.fn n_l_pick [.pen, .str s]) fun a => M.bind (M.of (binO .add (.fz (.str w)) (.fz a))) fun b => M.ret (Fl.nx, [some (O.fz .pen), some (.fz (.str s)), some (.fz (.int m)), some (.fz (.int i)), some (.fz (.int k)), some b, some (.fz (.bl false))])) (turnP (fun σ => ∃ (w : List Nat) (o3 o6 : Option O), σ = [some (.fz .pen), some (.fz (.str s)), some (.fz (.int m)), o3, some (.fz (.int k)), some (.fz (.str w)), o6] ∧ w.length = i + 1 ∧ ∀ c ∈ w, c ∈ s) (okP fun r => ∃ (w : List Nat) (o3 o6 : Option O), r = (.nx, [some (.fz .pen), some (.fz (.str s)), some (.fz (.int m)), o3, some (.fz (.int k)), some (.fz (.str w)), o6]) ∧ w.length = k ∧ ∀ c ∈ w, c ∈ s)) := by
        refine OkX.bind (hp s h1 (lim_of (by omega))) (by decide) fun d ⟨c, hc, e⟩ => ?_
        subst e
        exact more c _ hc
      conv => arg 2; simp [forB, cmp_ne_str w [] hw rfl]
      by_cases hw0 : w = []
      · subst hw0
        conv => arg 2; simp
        exact okX_eq newv (by decide)
      · conv => arg 2; simp [hw0]
        refine OkX.bind (h 3 (by decide) (by decide +kernel)) (by decide) fun d ⟨g, e, hg⟩ => ?_
        subst e
        conv => arg 2; simp
        by_cases hg0 : g = 0
        · subst hg0
          obtain ⟨c, hcw, hat⟩ := at_last w hw0
          conv => arg 2; simp [sub_str w (-1) c hwl hat]
          exact okX_eq (more c _ (e2 c hcw)) (by decide)
        · conv => arg 2; simp [hg0]
          exact okX_eq newv (by decide)
    · rintro σ ⟨w, o3, o6, rfl, e1, e2⟩
      exact ⟨w, o3, o6, rfl, by rw [e1, intsFrom_len], e2⟩
  · rw [intsFrom_len]
    omega
  · rintro r ⟨w, o3, o6, rfl, e1, e2⟩
    conv => arg 2; simp
    exact OkX.ret ⟨w, rfl, by omega, e2⟩
end Bc.Pl
set_option Elab.async false
set_option linter.all false
set_option maxRecDepth 100000
set_option maxHeartbeats 4000000
/-! Part Q5. Rows looked at; codes made; walks. -/
namespace Bc.Pl
open PySem PySem.Spec L2
theorem lcm {α : Type} {f : D → M (Option O)} {h g : α → D} : ∀ {xs : List α}, (∀ x ∈ xs, f (h x) = M.ret (some (.fz (g x)))) → lcRun f (xs.map h) = M.ret (fzs (xs.map g))
  | [], _ => rfl
  | x :: xs, k => by
    rw [List.map_cons, lcRun, k x (by simp), M.bind_ret, lcm fun x hx => k x (by simp [hx])]
    rfl
theorem lcf {α : Type} {f : D → M (Option O)} {h g : α → D} {q : α → Bool} : ∀ {xs : List α}, (∀ x ∈ xs, f (h x) = M.ret (if q x then some (.fz (g x)) else none)) → lcRun f (xs.map h) = M.ret (fzs ((xs.filter q).map g))
  | [], _ => rfl
  | x :: xs, k => by
    rw [List.map_cons, lcRun, k x (by simp), M.bind_ret, lcf fun x hx => k x (by simp [hx])]
    by_cases hq : q x = true
    · rw [List.filter_cons_of_pos hq, if_pos hq]
      rfl
    · rw [List.filter_cons_of_neg hq, if_neg hq]
      rfl
theorem bls_map {α : Type} (b : α → Bool) : ∀ xs : List α, bls? (xs.map fun x => .bl (b x)) = some (xs.map b)
  | [] => rfl
  | x :: xs => by rw [List.map_cons, bls?, bls_map b xs]; rfl
theorem ints_map {α : Type} (b : α → Int) : ∀ xs : List α, ints? (xs.map fun x => .int (b x)) = some (xs.map b)
  | [] => rfl
  | x :: xs => by rw [List.map_cons, ints?, ints_map b xs]; rfl
@[simp] theorem blsL_own (ds : List D) : blsL (.lst (fzs ds)) = bls? ds := by
  unfold blsL
  rw [lst_own]
@[simp] theorem intsL_own (ds : List D) : intsL (.lst (fzs ds)) = ints? ds := by
  unfold intsL
  rw [lst_own]
def SqRows : List D → List (List Int) → Prop
  | [], [] => True
  | g :: gs, r :: rs => Sq g (r.map .int) ∧ SqRows gs rs
  | _, _ => False
theorem SqRows.len : ∀ {gs : List D} {rs : List (List Int)}, SqRows gs rs → gs.length = rs.length
  | [], [], _ => rfl
  | _ :: _, _ :: _, h => by rw [List.length_cons, List.length_cons, SqRows.len h.2]
  | [], _ :: _, h => h.elim
  | _ :: _, [], h => h.elim
theorem SqRows.get : ∀ {gs : List D} {rs : List (List Int)} {i : Nat} {d : D}, SqRows gs rs → gs[i]? = some d → ∃ r, rs[i]? = some r ∧ Sq d (r.map .int)
  | [], [], i, d, _, e => by simp at e
  | g :: gs, r :: rs, 0, d, h, e => by
    simp at e
    subst e
    exact ⟨r, rfl, h.1⟩
  | g :: gs, r :: rs, i + 1, d, h, e => by
    obtain ⟨r', h1, h2⟩ := SqRows.get (i := i) h.2 (by simpa using e)
    exact ⟨r', by simpa using h1, h2⟩
  | [], _ :: _, _, _, h, _ => h.elim
  | _ :: _, [], _, _, h, _ => h.elim
def badRow (many : Int) (n : Nat) (ends : Int) (i : Nat) (r : List Int) : Bool := decide ((r.length : Int) ≠ many) || (decide (ends ≤ (i : Int)) || !(r.all fun g => decide (0 ≤ g) && decide (g < n)))
def badFrom (many : Int) (n : Nat) (ends : Int) : Nat → List (List Int) → Option Nat
  | _, [] => none
  | i, r :: rs => if badRow many n ends i r then some i else badFrom many n ends (i + 1) rs
def firstBad (many ends : Int) (rows : List (List Int)) : Option Int := if rows = [] then some 0 else match badFrom many rows.length ends 0 rows with
  | some i => some (i : Int)
  | none => if (rows.length : Int) < ends then some (rows.length : Int) else none
def told (r : Option Int) : M D := match r with
  | some i => M.exc ⟨0, some (.int i)⟩
  | none => M.ret .non
def CheckRows (f : List D → M D) : Prop := ∀ (many ends : Int) (g : D) (gs : List D) (rows : List (List Int)), Sq g gs → SqRows gs rows → (∀ r ∈ rows, r.length ≤ lim) → f [.int many, g, .int ends] = told (firstBad many ends rows)
@[simp] theorem PuX_exc_bind {α β : Type} {e : Exc} {Q : Except Exc β → Prop} : PuX (M.exc e : M β) Q ↔ Q (.error e) := ⟨fun ⟨r, h, q⟩ => by
  cases r with
  | ok a =>
    have := congrFun h ⟨[], 0, 0⟩
    cases this
  | error e' =>
    have := congrFun h ⟨[], 0, 0⟩
    cases this
    exact q, PuX.exc⟩
theorem checkRows_ok (S : Sem) : CheckRows (Kn.run S k_check_rows) := by
  intro many ends g gs rows hg hr hlen
  have hl := hr.len
  simp [k_check_rows, b_check_rows, List.replicate, hg.len]
  by_cases h0 : rows = []
  · subst h0
    have : gs = [] := List.length_eq_zero_iff.mp hl
    simp [this, firstBad, told]
  · have hne : ¬ gs = [] := fun e => h0 (List.length_eq_zero_iff.mp (by rw [← hl, e]; rfl))
    simp [hne, hg.seqD]
    have main : PuX (forRun (forB S (Tg.tp [3, 4]) [IS.ife ((IE.cmp CO.ne (IE.blt BF.len [IE.var 4]) (IE.var 0)).or_ ((IE.cmp CO.ge (IE.var 3) (IE.var 2)).or_ (IE.blt BF.all [IE.lc IK.seq [IE.var 4] (Tg.nm 5) [] (IE.chain CO.le CO.lt (IE.con (D.int 0)) (IE.var 5) (IE.blt BF.len [IE.var 1])) [5]]).not_)) [IS.raise_ 0 [IE.var 3]] []]) (enumFrom 0 gs) [some (O.fz (D.int many)), some (O.fz g), some (O.fz (D.int ends)), none, none, none])
      fun r => match badFrom many rows.length ends 0 rows with
        | some i => r = .error ⟨0, some (.int i)⟩
        | none => ∃ o3 o4 o5, r = .ok (.nx, [some (O.fz (D.int many)), some (O.fz g), some (O.fz (D.int ends)), o3, o4, o5]) := by
      refine PuX.for (I := fun i σ => (∃ o3 o4 o5 : Option O, σ = [some (O.fz (D.int many)), some (O.fz g), some (O.fz (D.int ends)), o3, o4, o5]) ∧ badFrom many rows.length ends 0 rows = badFrom many rows.length ends i (rows.drop i)) ?_ ?_ ?_
      · exact ⟨⟨_, _, _, rfl⟩, by simp⟩
      · rintro i d σ hi ⟨⟨o3, o4, o5, rfl⟩, hb⟩
        obtain ⟨row, h1, rfl⟩ := enumFrom_get _ _ _ _ hi
        obtain ⟨r, h2, h3⟩ := hr.get h1
        obtain ⟨q1, q2⟩ := List.getElem?_eq_some_iff.mp h2
        have hd : rows.drop i = r :: rows.drop (i + 1) := by rw [List.drop_eq_getElem_cons q1, q2]
        rw [hd, badFrom] at hb
        have hrl : r.length ≤ lim := hlen r (q2 ▸ List.getElem_mem q1)
        conv => arg 1; simp [forB, h3.len, h3.seqD, hg.len, hl]
        rw [lcm (g := fun j => .bl (decide (0 ≤ j) && decide (j < (rows.length : Int))))]
        · have hall : (List.map (fun x => decide (0 ≤ x) && decide (x < (rows.length : Int))) r).all id = r.all fun x => decide (0 ≤ x) && decide (x < (rows.length : Int)) := by rw [List.all_map]; rfl
          conv => arg 1; simp only [M.bind_ret, hrl, if_true, M.of_some, blsL_own, bls_map, Option.map_some, hall, asBl_bl]
          have key : ∀ b : Bool, badRow many rows.length ends i r = b → PuX ((if b = true then M.exc { c := 0, f := some (D.int ↑i) } else M.ret (Fl.nx, [some (O.fz (D.int many)), some (O.fz g), some (O.fz (D.int ends)), some (O.fz (D.int ↑i)), some (O.fz row), o5])).bind (nxt S [])) (turnP (fun σ => (∃ o3 o4 o5 : Option O, σ = [some (O.fz (D.int many)), some (O.fz g), some (O.fz (D.int ends)), o3, o4, o5]) ∧ badFrom many rows.length ends 0 rows = badFrom many rows.length ends (i + 1) (rows.drop (i + 1))) fun r => match badFrom many rows.length ends 0 rows with
              | some i => r = .error ⟨0, some (.int i)⟩
              | none => ∃ o3 o4 o5, r = .ok (.nx, [some (O.fz (D.int many)), some (O.fz g), some (O.fz (D.int ends)), o3, o4, o5])) := fun b hb2 => by
            rw [hb2] at hb
            cases b with
            | true =>
              rw [if_pos rfl] at hb
              refine PuX.exc ?_
              show match badFrom many rows.length ends 0 rows with
                | some i => _
                | none => _
              rw [hb]
            | false =>
              rw [if_neg (by decide)] at hb
              conv => arg 1; simp
              exact PuX.ret ⟨⟨_, _, _, rfl⟩, hb⟩
          have k2 := key _ rfl
          unfold badRow at k2
          by_cases e1 : (r.length : Int) = many
          · by_cases e2 : ends ≤ (i : Int)
            · simp only [e1, e2, ne_eq, not_true_eq_false, decide_false, Bool.false_or, decide_true, Bool.true_or, if_true, M.bind_ret, asBl_bl] at k2 ⊢
              exact k2
            · simp only [e1, e2, ne_eq, not_true_eq_false, decide_false, Bool.false_or, if_true, if_false, M.bind_ret, asBl_bl] at k2 ⊢
              exact k2
          · simp only [e1, ne_eq, not_false_eq_true, decide_true, Bool.true_or, if_true, if_false, M.bind_ret, asBl_bl] at k2 ⊢
            exact k2
        · intro x hx
          by_cases hx0 : 0 ≤ x
          · simp [hx0]
          · simp [hx0]
      · rintro σ ⟨⟨o3, o4, o5, rfl⟩, hb⟩
        have hd : rows.drop (enumFrom 0 gs).length = [] := List.drop_eq_nil_of_le (by rw [enumFrom_len, hl]; omega)
        rw [hd, badFrom] at hb
        rw [hb]
        exact ⟨o3, o4, o5, rfl⟩
    obtain ⟨r, h1, h2⟩ := main
    rw [h1, firstBad, if_neg h0]
    cases hb : badFrom many rows.length ends 0 rows with
    | some i =>
      rw [hb] at h2
      rw [h2]
      simp [M.res, told]
    | none =>
      rw [hb] at h2
      obtain ⟨o3, o4, o5, h2⟩ := h2
      rw [h2]
      by_cases e3 : (rows.length : Int) < ends
      · simp [M.res, told, hg.len, hl, e3]
      · simp [M.res, told, hg.len, hl, e3]
end Bc.Pl
set_option Elab.async false
set_option linter.all false
set_option maxRecDepth 100000
set_option maxHeartbeats 4000000
/-! Part Q6. Codes made; walks; lengths. -/
namespace Bc.Pl
open PySem PySem.Spec L2
@[simp] theorem mk_run (S : Sem) (c N np : Nat) (body : List IS) (ds : List D) : Kn.run S (.mk c N np body) ds = if ds.length + 1 = np then M.bind (exs S body (some (.ins c []) :: (ds.map (fun d => some (.fz d)) ++ List.replicate (N - (ds.length + 1)) none))) fun r => M.of (mkD r) else M.stuck := (rfl)
@[simp] theorem mkD_nx (c : Nat) (fs : List D) (σ : Sto) : mkD (.nx, some (.ins c fs) :: σ) = some (.obj c fs) := (rfl)
theorem setf_of {cl : Nat → Bool} {f c : Nat} {d : D} {fs : List D} (h : cl c = true) (h2 : (fidT c)[fs.length]? = some f) : setfO cl f d (.ins c fs) = some (.ins c (fs ++ [d])) := if_pos ⟨h, h2⟩
/-- the rows of a code, as they may be handed in: data of which each row holds pairs -/
def SqPairs : List D → List (List (Nat × Nat)) → Prop
  | [], [] => True
  | g :: gs, r :: rs => Sq g (r.map prD) ∧ SqPairs gs rs
  | _, _ => False
theorem SqPairs.lists (rs : List (List (Nat × Nat))) : SqPairs (rs.map rowL) rs := by
  induction rs with
  | nil => trivial
  | cons r rs ih => exact ⟨.inl rfl, ih⟩
theorem SqPairs.tups (rs : List (List (Nat × Nat))) : SqPairs (rs.map rowT) rs := by
  induction rs with
  | nil => trivial
  | cons r rs ih => exact ⟨.inr rfl, ih⟩
theorem SqPairs.len : ∀ {gs : List D} {rs : List (List (Nat × Nat))}, SqPairs gs rs → gs.length = rs.length
  | [], [], _ => rfl
  | _ :: _, _ :: _, h => by rw [List.length_cons, List.length_cons, SqPairs.len h.2]
  | [], _ :: _, h => h.elim
  | _ :: _, [], h => h.elim
/-- a comprehension over rows -/
theorem lcRows {f : D → M (Option O)} {g : List (Nat × Nat) → D} : ∀ {gs : List D} {rs : List (List (Nat × Nat))}, SqPairs gs rs → (∀ d r, r ∈ rs → Sq d (r.map prD) → f d = M.ret (some (.fz (g r)))) → lcRun f gs = M.ret (fzs (rs.map g))
  | [], [], _, _ => rfl
  | d :: gs, r :: rs, h, k => by
    rw [lcRun, k d r (by simp) h.1, M.bind_ret, lcRows h.2 fun d r hr => k d r (by simp [hr])]
    rfl
  | [], _ :: _, h, _ => h.elim
  | _ :: _, [], h, _ => h.elim
theorem lcRowsO {f : D → M (Option O)} {g : List (Nat × Nat) → O} : ∀ {gs : List D} {rs : List (List (Nat × Nat))}, SqPairs gs rs → (∀ d r, r ∈ rs → Sq d (r.map prD) → f d = M.ret (some (g r))) → lcRun f gs = M.ret (rs.map g)
  | [], [], _, _ => rfl
  | d :: gs, r :: rs, h, k => by
    rw [lcRun, k d r (by simp) h.1, M.bind_ret, lcRowsO h.2 fun d r hr => k d r (by simp [hr])]
    rfl
  | [], _ :: _, h, _ => h.elim
  | _ :: _, [], h, _ => h.elim
def goalsOf (rs : List (List (Nat × Nat))) : List (List Int) := rs.map fun r => r.map fun p => (p.1 : Int)
def wrongC (C : CD) : Option Int := firstBad C.letters.length C.ends.length (goalsOf C.rows)
/-- Code(..) -/
def MkCode (f : List D → M D) : Prop := ∀ (C : CD) (g e : D) (gs : List D), Sq g gs → SqPairs gs C.rows → Sq e (C.ends.map nD) → C.letters.length ≤ lim → (∀ r ∈ C.rows, r.length ≤ lim) → C.rows.length ≤ lim →
  f [.str C.letters, g, e] = match wrongC C with
    | some i => M.exc ⟨0, some (.int i)⟩
    | none => M.ret C.o
theorem mkCode_ok {S : Sem} (h : CheckRows (S.fn n_check_rows)) (hcl : S.cl 0 = true) : MkCode (Kn.run S k_Code___init__) := by
  intro C g e gs hg hgs he hl1 hl2 hl3
  have hlen := hgs.len
  simp [k_Code___init__, b_Code___init__, List.replicate, len_str _ hl1, hg.seqD, he.len]
  have two : 2 ≤ lim := lim_of (by decide)
  rw [lcRowsO (g := fun r => .lst (fzs (r.map fun p => .int (p.1 : Nat)))) hgs]
  · have hrows : SqRows (C.rows.map fun r => .lst (r.map fun p => .int (p.1 : Nat))) (goalsOf C.rows) := by
      unfold goalsOf
      generalize C.rows = rs
      induction rs with
      | nil => trivial
      | cons r rs ih => exact ⟨.inl (by rw [List.map_map]; rfl), ih⟩
    have hgl : gs.length ≤ lim := by rw [hlen]; exact hl3
    have hc := h C.letters.length C.ends.length (.lst (C.rows.map fun r => .lst (r.map fun p => .int (p.1 : Nat)))) _ (goalsOf C.rows) (.inl rfl) hrows (fun r hr => by
      obtain ⟨r', h1, rfl⟩ := List.mem_map.mp hr
      rw [List.length_map]
      exact hl2 r' h1)
    have hm : (C.rows.map fun r => O.lst (fzs (r.map fun p => .int (p.1 : Nat)))).map O.toD = C.rows.map fun r => .lst (r.map fun p => .int (p.1 : Nat)) := by
      rw [List.map_map]
      exact List.map_congr_left fun r _ => by simp
    simp only [M.bind_ret, hgl, if_true, M.of_some, toD_lst, hm, hc]
    show M.bind (told (wrongC C)) _ = _
    cases hw : wrongC C with
    | some i => rfl
    | none =>
      simp [told, setf_of hcl (f := 0) (fs := []) rfl]
      rw [lcRows (g := rowT) hgs]
      · have s1 := setf_of hcl (f := 1) (d := .tup (C.rows.map rowT)) (fs := [.str C.letters]) rfl
        have s2 := setf_of hcl (f := 2) (d := .tup (C.ends.map nD)) (fs := [.str C.letters, .tup (C.rows.map rowT)]) rfl
        simp at s1 s2
        simp [hgl, s1, s2, tupleO_of he.seq]
        rfl
      · intro d r hr hd
        simp [hd.seqD]
        rw [lcm (g := prD)]
        · simp [hl2 r hr]
          rfl
        · intro x hx
          simp [prD, two]
  · intro d r hr hd
    simp [hd.seqD]
    rw [lcm (g := fun p => .int (p.1 : Nat))]
    · simp [hl2 r hr]
    · intro x hx
      simp [prD]
end Bc.Pl
set_option Elab.async false
set_option linter.all false
set_option maxRecDepth 100000
set_option maxHeartbeats 4000000
/-! Part Q7. Walks and lengths. -/
namespace Bc.Pl
open PySem PySem.Spec L2
def N_l_walk : List Str := ["_law_code_here", "_law_state", "_law_word", "_law_spent", "_law_letter", "_law_bits_here"]
def b_l_walk : List IS := [.asg 3 (.con (.int 0)), .for_ .seq [.var 2] (.nm 4) [.asgT [1, 5] (.sub (.sub (.sub (.var 0) (.con (.int 1))) (.var 1)) (.sm .index (.sub (.var 0) (.con (.int 0))) [.var 4])), .freeze 3, .asg 3 (.bin .add (.var 3) (.var 5))], .freeze 3, .ret (.tup [.var 1, .var 3])]
def k_l_walk : Kn := .fn 6 3 b_l_walk
abbrev n_l_walk : Nat := 18
def N_l_length : List Str := ["_law_code_here", "_law_column_here", "_law_state", "_law_spent"]
def b_l_length : List IS := [.asgT [2, 3] (.call 18 [.var 0, .con (.int 0), .var 1]), .ret (.bin .add (.var 3) (.sub (.sub (.var 0) (.con (.int 2))) (.var 2)))]
def k_l_length : Kn := .fn 4 2 b_l_length
abbrev n_l_length : Nat := 19
/-- a code that is right -/
structure CD.Wf (C : CD) : Prop where
  let_ : C.letters.length ≤ 1000
  pos : 1 ≤ C.rows.length
  most : C.rows.length ≤ 1000
  ends_ : C.ends.length = C.rows.length
  rows_ : ∀ r ∈ C.rows, r.length = C.letters.length ∧ ∀ p ∈ r, p.1 < C.rows.length
theorem CD.Ok.wf {C : CD} {s : List Nat} {m : Nat} (h : C.Ok s m) (hs : s.length ≤ 1000) (hm : m ≤ 1000) : C.Wf :=
  ⟨by rw [h.let_]; exact hs, h.pos, Nat.le_trans h.most hm, h.ends_, fun r hr => ⟨by rw [h.let_]; exact (h.rows_ r hr).1, fun p hp => ((h.rows_ r hr).2 p hp).1⟩⟩
theorem badFrom_none {many : Int} {n : Nat} {ends : Int} : ∀ {rows : List (List Int)} {i : Nat}, (∀ r ∈ rows, (r.length : Int) = many ∧ ∀ g ∈ r, 0 ≤ g ∧ g < n) → (i : Int) + rows.length ≤ ends → badFrom many n ends i rows = none
  | [], i, _, _ => rfl
  | r :: rs, i, h, he => by
    have h1 := h r (by simp)
    rw [List.length_cons] at he
    have : badRow many n ends i r = false := by
      unfold badRow
      have e1 : ¬ (ends ≤ (i : Int)) := by omega
      have e2 : (r.all fun g => decide (0 ≤ g) && decide (g < n)) = true := List.all_eq_true.mpr fun g hg => by
        have := h1.2 g hg
        simp [this.1, this.2]
      rw [e2]
      simp [h1.1, e1]
    rw [badFrom, this, if_neg (by decide)]
    exact badFrom_none (fun r hr => h r (by simp [hr])) (by omega)
theorem CD.Wf.right {C : CD} (h : C.Wf) : wrongC C = none := by
  unfold wrongC firstBad
  have hl : (goalsOf C.rows).length = C.rows.length := by unfold goalsOf; rw [List.length_map]
  have hne : ¬ goalsOf C.rows = [] := fun e => by
    have := h.pos
    rw [← hl, e] at this
    simp at this
  rw [if_neg hne, badFrom_none]
  · rw [hl, h.ends_]
    simp
  · intro r hr
    obtain ⟨r', h1, rfl⟩ := List.mem_map.mp hr
    have h2 := h.rows_ r' h1
    refine ⟨by rw [List.length_map, h2.1], fun g hg => ?_⟩
    obtain ⟨p, h3, rfl⟩ := List.mem_map.mp hg
    have := h2.2 p h3
    rw [hl]
    omega
  · rw [hl, h.ends_]
    omega
/-- the arrow of a state for a letter -/
def CD.row (C : CD) (q : Nat) : List (Nat × Nat) := C.rows.getD q []
def CD.fin (C : CD) (q : Nat) : Nat := C.ends.getD q 0
def CD.at (C : CD) (q c : Nat) : Nat × Nat := (C.row q).getD (C.letters.idxOf c) (0, 0)
def CD.step (C : CD) (s : Nat × Nat) (c : Nat) : Nat × Nat := ((C.at s.1 c).1, s.2 + (C.at s.1 c).2)
def CD.walk (C : CD) (q : Nat) (w : List Nat) : Nat × Nat := w.foldl C.step (q, 0)
def CD.len (C : CD) (w : List Nat) : Nat := (C.walk 0 w).2 + C.fin (C.walk 0 w).1
theorem idx_lt {c : Nat} {s : List Nat} (h : c ∈ s) : s.idxOf c < s.length := List.idxOf_lt_length_of_mem h
theorem getD_of {α : Type} {xs : List α} {i : Nat} {d : α} (h : i < xs.length) : xs.getD i d = xs[i] := by
  rw [List.getD_eq_getElem?_getD, List.getElem?_eq_getElem h]
  rfl
theorem CD.Wf.row {C : CD} (h : C.Wf) {q : Nat} (hq : q < C.rows.length) : C.row q ∈ C.rows := by
  unfold CD.row
  rw [getD_of hq]
  exact List.getElem_mem hq
theorem CD.Wf.pair {C : CD} (h : C.Wf) {q c : Nat} (hq : q < C.rows.length) (hc : c ∈ C.letters) : C.at q c ∈ C.row q := by
  have h1 := h.rows_ _ (h.row hq)
  have h2 := idx_lt hc
  unfold CD.at
  rw [getD_of (xs := C.row q) (by rw [h1.1]; exact h2)]
  exact List.getElem_mem _
theorem CD.Wf.lt {C : CD} (h : C.Wf) {q c : Nat} (hq : q < C.rows.length) (hc : c ∈ C.letters) : (C.at q c).1 < C.rows.length := (h.rows_ _ (h.row hq)).2 _ (h.pair hq hc)
theorem CD.Wf.fold {C : CD} (h : C.Wf) : ∀ {w : List Nat} {s : Nat × Nat}, s.1 < C.rows.length → (∀ c ∈ w, c ∈ C.letters) → (w.foldl C.step s).1 < C.rows.length
  | [], s, hs, _ => hs
  | c :: w, s, hs, hw => by
    rw [List.foldl_cons]
    exact h.fold (h.lt hs (hw c (by simp))) fun c hc => hw c (by simp [hc])
theorem CD.Wf.walk_lt {C : CD} (h : C.Wf) {q : Nat} (hq : q < C.rows.length) {w : List Nat} (hw : ∀ c ∈ w, c ∈ C.letters) : (C.walk q w).1 < C.rows.length := h.fold hq hw
/-- looks at rows, of a tuple of tuples or a list of lists -/
theorem row_tup {C : CD} {q : Nat} (hq : q < C.rows.length) : atI (C.rows.map rowT) (q : Int) = some (rowT (C.row q)) := by
  rw [atI_nat _ _ (by rw [List.length_map]; exact hq), List.getElem?_map, List.getElem?_eq_getElem hq]
  unfold CD.row
  rw [getD_of hq]
  rfl
theorem row_lst {C : CD} {q : Nat} (hq : q < C.rows.length) : atI (C.rows.map rowL) (q : Int) = some (rowL (C.row q)) := by
  rw [atI_nat _ _ (by rw [List.length_map]; exact hq), List.getElem?_map, List.getElem?_eq_getElem hq]
  unfold CD.row
  rw [getD_of hq]
  rfl
theorem CD.Wf.cell {C : CD} (h : C.Wf) {q c : Nat} (hq : q < C.rows.length) (hc : c ∈ C.letters) : atI ((C.row q).map prD) ((C.letters.idxOf c : Nat) : Int) = some (prD (C.at q c)) := by
  have h1 := h.rows_ _ (h.row hq)
  have h2 : C.letters.idxOf c < (C.row q).length := by rw [h1.1]; exact idx_lt hc
  rw [atI_nat _ _ (by rw [List.length_map]; exact h2), List.getElem?_map, List.getElem?_eq_getElem h2]
  unfold CD.at
  rw [getD_of h2]
  rfl
theorem end_at {C : CD} (h : C.Wf) {q : Nat} (hq : q < C.rows.length) : atI (C.ends.map nD) (q : Int) = some (nD (C.fin q)) := by
  have h2 : q < C.ends.length := by rw [h.ends_]; exact hq
  rw [atI_nat _ _ (by rw [List.length_map]; exact h2), List.getElem?_map, List.getElem?_eq_getElem h2]
  unfold CD.fin
  rw [getD_of h2]
  rfl
theorem take_succ' {α : Type} {xs : List α} {i : Nat} {x : α} (h : xs[i]? = some x) : xs.take (i + 1) = xs.take i ++ [x] := by
  rw [List.take_add_one, h]
  rfl
theorem ch_get {w : List Nat} {i : Nat} {d : D} (h : (w.map ch)[i]? = some d) : ∃ c, w[i]? = some c ∧ d = ch c := by
  rw [List.getElem?_map] at h
  cases e : w[i]? with
  | none => rw [e] at h; cases h
  | some c => rw [e] at h; exact ⟨c, rfl, (Option.some.inj h).symm⟩
theorem get_mem {α : Type} {xs : List α} {i : Nat} {x : α} (h : xs[i]? = some x) : x ∈ xs := List.mem_of_getElem? h
/-- the law's own walk -/
def LWalk (f : List D → M D) : Prop := ∀ (C : CD) (q : Nat) (w : List Nat), C.Wf → q < C.rows.length → (∀ c ∈ w, c ∈ C.letters) → f [C.d, nD q, .str w] = M.ret (prD (C.walk q w))
theorem walk_ok (S : Sem) : LWalk (Kn.run S k_l_walk) := by
  intro C q w hC hq hw
  refine Pu.eq ?_
  conv => arg 1; simp [k_l_walk, b_l_walk, List.replicate]
  refine PuX.bind (P := fun r => ∃ (o4 o5 : Option O), r = (.nx, [some (.fz C.d), some (.fz (nD (C.walk q w).1)), some (.fz (.str w)), some (.fz (nD (C.walk q w).2)), o4, o5])) ?_ ?_
  · refine PuX.for (I := fun i σ => ∃ (o4 o5 : Option O), σ = [some (.fz C.d), some (.fz (nD (C.walk q (w.take i)).1)), some (.fz (.str w)), some (.fz (nD (C.walk q (w.take i)).2)), o4, o5]) ?_ ?_ ?_
    · exact ⟨_, _, rfl⟩
    · rintro i d σ hi ⟨o4, o5, rfl⟩
      obtain ⟨c, hc, rfl⟩ := ch_get hi
      have hcl := hw c (get_mem hc)
      have hlt := hC.walk_lt hq (w := w.take i) fun a ha => hw a (List.mem_of_mem_take ha)
      have hs : C.walk q (w.take (i + 1)) = C.step (C.walk q (w.take i)) c := by
        rw [take_succ' hc]
        unfold CD.walk
        rw [List.foldl_append]
        rfl
      conv => arg 1; simp [forB, CD.d, at0, at1, nD, row_lst hlt, rowL, index_ch C.letters c (lim_of hC.let_) hcl, hC.cell hlt hcl, prD]
      exact PuX.ret ⟨_, _, by rw [hs]; rfl⟩
    · rintro σ ⟨o4, o5, rfl⟩
      rw [List.length_map, List.take_length]
      exact ⟨_, _, rfl⟩
  · rintro r ⟨o4, o5, rfl⟩
    have two : 2 ≤ lim := lim_of (by decide)
    conv => arg 1; simp [two, nD]
    exact PuX.ret rfl
def LLen (f : List D → M D) : Prop := ∀ (C : CD) (w : List Nat), C.Wf → (∀ c ∈ w, c ∈ C.letters) → f [C.d, .str w] = M.ret (nD (C.len w))
theorem length_ok {S : Sem} (h : LWalk (S.fn n_l_walk)) : LLen (Kn.run S k_l_length) := by
  intro C w hC hw
  have h1 := h C 0 w hC hC.pos hw
  have h2 := hC.walk_lt hC.pos hw
  simp [nD] at h1
  simp [k_l_length, b_l_length, List.replicate, h1, prD]
  simp [CD.d, at2, end_at hC h2, nD]
  unfold CD.len
  simp
end Bc.Pl
set_option Elab.async false
set_option linter.all false
set_option maxRecDepth 100000
set_option maxHeartbeats 4000000
/-! Part Q8. The package's own walk, lengths. -/
namespace Bc.Pl
open PySem PySem.Spec L2
/-- the place of the first letter that is none of s -/
def strange (s : List Nat) : List Nat → Option Nat
  | [] => none
  | c :: w => if c ∈ s then (strange s w).map (· + 1) else some 0
theorem strange_none {s : List Nat} : ∀ {w : List Nat}, (∀ c ∈ w, c ∈ s) → strange s w = none
  | [], _ => rfl
  | c :: w, h => by rw [strange, if_pos (h c (by simp)), strange_none fun c hc => h c (by simp [hc])]; rfl
theorem strange_at {s : List Nat} {c : Nat} {v : List Nat} (hc : c ∉ s) : ∀ {u : List Nat}, (∀ c ∈ u, c ∈ s) → strange s (u ++ c :: v) = some u.length
  | [], _ => by rw [List.nil_append, strange, if_neg hc]; rfl
  | x :: u, h => by rw [List.cons_append, strange, if_pos (h x (by simp)), strange_at hc fun c hc => h c (by simp [hc])]; rfl
theorem take_all {s w : List Nat} {i c : Nat} (h : w[i]? = some c) (ha : ∀ a ∈ w.take i, a ∈ s) (hc : c ∈ s) : ∀ a ∈ w.take (i + 1), a ∈ s := fun a h2 => by
  rw [take_succ' h] at h2
  rcases List.mem_append.mp h2 with q | q
  · exact ha a q
  · rw [List.mem_singleton.mp q]
    exact hc
theorem split_at {w : List Nat} {i c : Nat} (h : w[i]? = some c) : w = w.take i ++ c :: w.drop (i + 1) := by
  obtain ⟨q1, q2⟩ := List.getElem?_eq_some_iff.mp h
  rw [← q2, ← List.drop_eq_getElem_cons q1, List.take_append_drop]
theorem walk_snoc (C : CD) (q : Nat) {w : List Nat} {i c : Nat} (h : w[i]? = some c) : C.walk q (w.take (i + 1)) = C.step (C.walk q (w.take i)) c := by
  rw [take_succ' h]
  unfold CD.walk
  rw [List.foldl_append]
  rfl
def CD.fs (C : CD) : List D := [.str C.letters, .tup (C.rows.map rowT), .tup (C.ends.map nD)]
@[simp] theorem objC (C : CD) : obj? (.fz C.o) = some (0, C.fs) := (rfl)
@[simp] theorem objC' (C : CD) : D.obj 0 C.fs = C.o := (rfl)
def walkR (C : CD) (q : Nat) (w : List Nat) (p : Int) : M D := match strange C.letters w with
  | none => M.ret (prD (C.walk q w))
  | some i => M.exc ⟨1, some (.int (p + (i : Nat)))⟩
def Walked (f : List D → M D) : Prop := ∀ (C : CD) (q : Nat) (w : List Nat) (p : Int), C.Wf → q < C.rows.length → f [C.o, nD q, .str w, .int p] = walkR C q w p
theorem fld0 (C : CD) {cl : Nat → Bool} (h : cl 0 = true) : fldO cl 0 (.fz C.o) = some (.fz (.str C.letters)) := by
  simp [CD.o, h, fidT]
theorem fld1 (C : CD) {cl : Nat → Bool} (h : cl 0 = true) : fldO cl 1 (.fz C.o) = some (.fz (.tup (C.rows.map rowT))) := by
  simp [CD.o, h, fidT, List.lookup]
theorem fld2 (C : CD) {cl : Nat → Bool} (h : cl 0 = true) : fldO cl 2 (.fz C.o) = some (.fz (.tup (C.ends.map nD))) := by
  simp [CD.o, h, fidT, List.lookup]
theorem walked_ok {S : Sem} (hcl : S.cl 0 = true) : Walked (Kn.run S k_walked) := by
  intro C q w p hC hq
  have main : PuX (Kn.run S k_walked [C.o, nD q, .str w, .int p]) fun r => M.res r = walkR C q w p := by
    conv => arg 1; simp [k_walked, b_walked, List.replicate]
    refine PuX.bindX ?_
    refine PuX.for (I := fun i σ => ∃ (o5 o6 o7 : Option O), σ = [some (.fz C.o), some (.fz (nD (C.walk q (w.take i)).1)), some (.fz (.str w)), some (.fz (.int p)), some (.fz (nD (C.walk q (w.take i)).2)), o5, o6, o7] ∧ ∀ a ∈ w.take i, a ∈ C.letters) ?_ ?_ ?_
    · exact ⟨_, _, _, rfl, by simp⟩
    · rintro i d σ hi ⟨o5, o6, o7, rfl, hall⟩
      obtain ⟨d, h1, rfl⟩ := enumFrom_get _ _ _ _ hi
      obtain ⟨c, hc, rfl⟩ := ch_get h1
      have hlt := hC.walk_lt hq (w := w.take i) hall
      conv => arg 1; simp [forB, fld0 C hcl, fld1 C hcl]
      by_cases hcl2 : c ∈ C.letters
      · conv => arg 1; simp [fld0 C hcl, fld1 C hcl, hcl2, nD, row_tup hlt, rowT, index_ch C.letters c (lim_of hC.let_) hcl2, hC.cell hlt hcl2, prD]
        exact PuX.ret ⟨_, _, _, by rw [walk_snoc C q hc]; rfl, take_all hc hall hcl2⟩
      · conv => arg 1; simp [hcl2]
        refine PuX.exc ?_
        show M.exc _ = walkR C q w p
        unfold walkR
        have hs : strange C.letters w = some i := by
          conv => lhs; rw [split_at hc]
          rw [strange_at hcl2 hall, List.length_take]
          have := (List.getElem?_eq_some_iff.mp hc).1
          rw [Nat.min_eq_left (by omega)]
        rw [hs]
    · rintro σ ⟨o5, o6, o7, rfl, hall⟩
      rw [enumFrom_len, List.length_map, List.take_length] at hall
      rw [enumFrom_len, List.length_map, List.take_length]
      have two : 2 ≤ lim := lim_of (by decide)
      show PuX _ _
      conv => arg 1; simp [two, nD]
      refine PuX.ret ?_
      show M.ret _ = walkR C q w p
      unfold walkR
      rw [strange_none hall]
      rfl
  obtain ⟨r, h1, h2⟩ := main
  rw [h1, h2]
def lenR (C : CD) (w : List Nat) : M D := match strange C.letters w with
  | none => M.ret (nD (C.len w))
  | some i => M.exc ⟨1, some (nD i)⟩
def CodeLen (f : List D → M D) : Prop := ∀ (C : CD) (w : List Nat), C.Wf → f [C.o, .str w] = lenR C w
theorem strange_all {s : List Nat} : ∀ {w : List Nat}, strange s w = none → ∀ c ∈ w, c ∈ s
  | [], _ => by simp
  | x :: w, h => by
    rw [strange] at h
    split at h
    · rename_i hx
      have h2 : strange s w = none := by
        cases e : strange s w with
        | none => rfl
        | some i => rw [e] at h; cases h
      intro c hc
      rcases List.mem_cons.mp hc with q | q
      · rw [q]
        exact hx
      · exact strange_all h2 c q
    · cases h
theorem codeLen_ok {S : Sem} (hcl : S.cl 0 = true) (h : Walked (S.fn n_walked)) : CodeLen (Kn.run S k_Code_length) := by
  intro C w hC
  have h1 := h C 0 w 0 hC hC.pos
  simp [nD] at h1
  simp [k_Code_length, b_Code_length, List.replicate, h1]
  unfold walkR lenR
  cases hs : strange C.letters w with
  | none =>
    have h2 := hC.walk_lt hC.pos (strange_all hs)
    simp [prD, fld2 C hcl, end_at hC h2, nD]
    unfold CD.len
    simp
  | some i => simp [nD]
end Bc.Pl
set_option Elab.async false
set_option linter.all false
set_option maxRecDepth 100000
set_option maxHeartbeats 4000000
/-! Part P3. While; dicts. -/
namespace Bc.Pl
open PySem PySem.Spec L2
theorem PuX.while {c : Sto → M Bool} {f : Sto → M (Fl × Sto)} {Q : Except Exc (Fl × Sto) → Prop} (I : Nat → Sto → Prop)
    (step : ∀ n σ, I n σ → ∃ b, c σ = M.ret b ∧ (b = false → Q (.ok (.nx, σ))) ∧ (b = true → PuX (f σ) (turnP (fun σ' => ∃ m, m < n ∧ I m σ') Q))) : ∀ (n : Nat) (σ : Sto), I n σ → PuX (whRun c f σ) Q := by
  intro n
  induction n using Nat.strongRecOn with
  | _ n ih =>
    intro σ h
    obtain ⟨b, hc, h0, h1⟩ := step n σ h
    rw [whRun_eq, hc, M.bind_ret]
    cases b with
    | false => exact PuX.ret (h0 rfl)
    | true =>
      rw [if_pos rfl]
      refine PuX.bindX (PuX.mono (h1 rfl) fun r q => ?_)
      cases r with
      | error e => exact q
      | ok a =>
        obtain ⟨fl, σ'⟩ := a
        cases fl with
        | nx =>
          obtain ⟨m, hm, hI⟩ := q
          exact ih m hm σ' hI
        | ct =>
          obtain ⟨m, hm, hI⟩ := q
          exact ih m hm σ' hI
        | bk => exact PuX.ret q
        | rt d => exact PuX.ret q
theorem semN_fn {tbl : Nat → Option Kn} {mt : Nat → Nat → Option Nat} {cl : Nat → Bool} {i : Nat} {k : Kn} (h : tbl i = some k) (n : Nat) : (semN tbl mt cl (n + 1)).fn i = Kn.run (semN tbl mt cl n) k := by
  funext ds
  show (match tbl i with | some k => k.run (semN tbl mt cl n) ds | none => M.stuck) = _
  rw [h]
@[simp] theorem semN_cl {tbl : Nat → Option Kn} {mt : Nat → Nat → Option Nat} {cl : Nat → Bool} (n : Nat) : (semN tbl mt cl n).cl = cl := by cases n <;> rfl
@[simp] theorem semN_mt {tbl : Nat → Option Kn} {mt : Nat → Nat → Option Nat} {cl : Nat → Bool} (n : Nat) : (semN tbl mt cl n).mt = mt := by cases n <;> rfl
theorem law_of {S : Sem} {body : List IS} {n c : Nat} (h : ∀ ns : List Int, ns.length ≤ 63 → Ok c (exs S body (lawSt n ns)) fun r => r.1 = .rt (.bl true)) (hc : c ≤ penTop) (ns : List Int) (hn : ns.length ≤ 63) :
    ∃ σ' p', exs S body (lawSt n ns) (penOf ns) = some (.ok (.rt (.bl true), σ'), p') := by
  obtain ⟨r, p', h1, _, h3⟩ := h ns hn (penOf ns) (by show 0 + c ≤ penTop; omega)
  cases r with
  | error e => exact h3.elim
  | ok a =>
    obtain ⟨f, σ'⟩ := a
    have : f = .rt (.bl true) := h3
    subst this
    exact ⟨σ', p', h1⟩
theorem nodup_le : ∀ {l s : List Nat}, l.Nodup → (∀ c ∈ l, c ∈ s) → l.length ≤ s.length
  | [], s, _, _ => Nat.zero_le _
  | c :: l, s, h, hs => by
    have h' := List.nodup_cons.mp h
    have hc : c ∈ s := hs c (by simp)
    have := nodup_le (l := l) (s := s.erase c) h'.2 fun d hd => (List.mem_erase_of_ne (fun e : d = c => h'.1 (by rw [← e]; exact hd))).mpr (hs d (by simp [hd]))
    rw [List.length_erase_of_mem hc] at this
    have hp : 0 < s.length := List.length_pos_of_mem hc
    rw [List.length_cons]
    omega
theorem filter_ne {l s : List Nat} (h : l.Nodup) (hl : s.length < l.length) : l.filter (fun c => !decide (c ∈ s)) ≠ [] := fun e => by
  have := nodup_le h fun c hc => by
    by_cases q : c ∈ s
    · exact q
    · have : c ∈ l.filter (fun c => !decide (c ∈ s)) := List.mem_filter.mpr ⟨hc, by simp [q]⟩
      rw [e] at this
      simp at this
  omega
def MadeCode (f : List D → M D) : Prop := ∀ C : CD, C.Wf → f [C.d] = M.ret C.o
theorem madeCode_ok {S : Sem} (h : MkCode (S.fn n_Code___init__)) : MadeCode (Kn.run S k_l_made_code) := by
  intro C hC
  have h1 := h C (.lst (C.rows.map rowL)) (.lst (C.ends.map nD)) _ (.inl rfl) (.lists _) (.inl rfl) (lim_of hC.let_) (fun r hr => by rw [(hC.rows_ r hr).1]; exact lim_of hC.let_) (lim_of hC.most)
  rw [hC.right] at h1
  simp [k_l_made_code, b_l_made_code, List.replicate, CD.d, at0, at1, at2, h1]
/-! ### dicts -/
section
variable {κ : Type} [DecidableEq κ] (key : κ → DK) (A : List (κ × D))
def dks : List DK := A.map fun p => key p.1
def dvs : List D := A.map fun p => p.2
theorem dks_len : (dks key A).length = A.length := by unfold dks; simp
theorem dks_app (B : List (κ × D)) : dks key (A ++ B) = dks key A ++ dks key B := by unfold dks; simp
theorem dvs_app (B : List (κ × D)) : dvs (A ++ B) = dvs A ++ dvs B := by unfold dvs; simp
variable {key A} (hk : ∀ a b, key a = key b → a = b)
include hk
theorem dlook_of (q : κ) : dlook (dks key A) (dvs A) (key q) = A.lookup q := by
  unfold dlook dks dvs
  induction A with
  | nil => rfl
  | cons p A ih =>
    obtain ⟨a, d⟩ := p
    simp only [List.map_cons, List.zip_cons_cons, List.lookup_cons, ih]
    by_cases e : q = a
    · simp [e]
    · have : (key q == key a) = false := by simpa using fun h => e (hk _ _ h)
      have e2 : (q == a) = false := by simpa using e
      rw [this, e2]
theorem mem_dks (q : κ) : key q ∈ dks key A ↔ (A.lookup q).isSome = true := by
  unfold dks
  induction A with
  | nil => simp
  | cons p A ih =>
    obtain ⟨a, d⟩ := p
    rw [List.map_cons, List.mem_cons, ih, List.lookup_cons]
    by_cases e : q = a
    · simp [e]
    · have e2 : (q == a) = false := by simpa using e
      have e3 : ¬ key q = key a := fun h => e (hk _ _ h)
      rw [e2]
      simp [e3]
theorem dput_new {q : κ} (h : A.lookup q = none) (d : D) : dput (dks key A) (dvs A) (key q) d = (dks key (A ++ [(q, d)]), dvs (A ++ [(q, d)])) := by
  have : ¬ key q ∈ dks key A := fun m => by
    rw [mem_dks hk, h] at m
    cases m
  unfold dput
  rw [if_neg this, dks_app, dvs_app]
  rfl
end
end Bc.Pl
set_option Elab.async false
set_option linter.all false
set_option maxRecDepth 100000
set_option maxHeartbeats 4000000
/-! k02: codes that may be wrong. -/
namespace Bc.Pl
open PySem PySem.Spec L2
def N_Code___eq__ : List Str := ["self", "other"]
def b_Code___eq__ : List IS := [.ife (.not_ (.isa (.var 1) 0)) [.ret (.con (.bl false))] [], .ret (.cmp .eq (.tup [.fld (.var 0) 0, .fld (.var 0) 1, .fld (.var 0) 2]) (.tup [.fld (.var 1) 0, .fld (.var 1) 1, .fld (.var 1) 2]))]
def k_Code___eq__ : Kn := .fn 2 2 b_Code___eq__
abbrev n_Code___eq__ : Nat := 534
def N_Code___len__ : List Str := ["self"]
def b_Code___len__ : List IS := [.ret (.blt .len [.fld (.var 0) 1])]
def k_Code___len__ : Kn := .fn 1 1 b_Code___len__
abbrev n_Code___len__ : Nat := 535
def N_l_wrong : List Str := ["_law_letters_here", "_law_rows", "_law_ends", "_law_state", "_law_goal", "_law_bits_here"]
def b_l_wrong : List IS := [.for_ .range1 [.blt .len [.var 1]] (.nm 3) [.ife (.or_ (.cmp .ne (.blt .len [.sub (.var 1) (.var 3)]) (.blt .len [.var 0])) (.cmp .ge (.var 3) (.blt .len [.var 2]))) [.ret (.var 3)] [], .ife (.cmp .ne (.lc .seq [.sub (.var 1) (.var 3)] (.tp [4, 5]) [.not_ (.chain .le .lt (.con (.int 0)) (.var 4) (.blt .len [.var 1]))] (.var 4) [4, 5]) (.lst [])) [.ret (.var 3)] []], .ret (.ite (.cmp .gt (.blt .len [.var 2]) (.blt .len [.var 1])) (.blt .len [.var 1]) (.con (.non)))]
def k_l_wrong : Kn := .fn 6 3 b_l_wrong
abbrev n_l_wrong : Nat := 12
def N_l_refused : List Str := ["_law_letters_here", "_law_rows", "_law_ends", "e", "_law_made"]
def b_l_refused : List IS := [.try_ [.asg 4 (.call 8 [.var 0, .var 1, .var 2])] 0 (some 3) (.ret (.fld)), .ret (.ite (.cmp .eq (.olen (.var 4)) (.blt .len [.var 1])) (.con (.non)) (.con (.str [115, 116, 114, 97, 110, 103, 101])))]
def k_l_refused : Kn := .fn 5 3 b_l_refused
abbrev n_l_refused : Nat := 14
def N_l_bent : List Str := ["_law_pen_here", "_law_rows", "_law_ends", "_law_at", "_law_place", "_law_sort", "_law_row", "_law_odd"]
def b_l_bent : List IS := [.freeze 1, .par [1, 2, 5] [.lc .seq [.var 1] (.nm 6) [] (.blt .list [.var 6]) [6], .blt .list [.var 2], .call 0 [.var 0, .con (.int 6)]], .asg 3 (.call 0 [.var 0, .blt .len [.var 1]]), .asg 4 (.call 0 [.var 0, .bin .add (.blt .len [.sub (.var 1) (.var 3)]) (.con (.int 1))]), .ife (.cmp .eq (.var 5) (.con (.int 0))) [.freeze 4, .freeze 3, .store 1 (.var 3) (.bin .add (.slice (.sub (.var 1) (.var 3)) [] [.var 4]) (.slice (.sub (.var 1) (.var 3)) [.bin .add (.var 4) (.con (.int 1))] []))] [.ife (.cmp .eq (.var 5) (.con (.int 1))) [.freeze 4, .freeze 3, .store 1 (.var 3) (.bin .add (.bin .add (.slice (.sub (.var 1) (.var 3)) [] [.var 4]) (.lst [.tup [.con (.int 0), .con (.int 1)]])) (.slice (.sub (.var 1) (.var 3)) [.var 4] []))] [.ife (.cmp .eq (.var 5) (.con (.int 2))) [.asg 7 (.call 1 [.var 0, .lst [.neg (.con (.int 1)), .blt .len [.var 1], .bin .pow (.con (.int 10)) (.con (.int 30)), .con (.int 0)]]), .freeze 4, .freeze 7, .freeze 3, .store 1 (.var 3) (.bin .add (.bin .add (.slice (.sub (.var 1) (.var 3)) [] [.var 4]) (.lst [.tup [.var 7, .con (.int 2)]])) (.slice (.sub (.var 1) (.var 3)) [.bin .add (.var 4) (.con (.int 1))] []))] [.ife (.cmp .eq (.var 5) (.con (.int 3))) [.asg 2 (.slice (.var 2) [] [.neg (.con (.int 1))])] [.ife (.cmp .eq (.var 5) (.con (.int 4))) [.freeze 2, .asg 2 (.bin .add (.var 2) (.lst [.con (.int 5)]))] [.freeze 3, .asg 2 (.bin .add (.bin .add (.slice (.var 2) [] [.var 3]) (.lst [.con (.int 101)])) (.slice (.var 2) [.bin .add (.var 3) (.con (.int 1))] []))]]]]], .freeze 1, .freeze 2, .ret (.tup [.var 1, .var 2])]
def k_l_bent : Kn := .fn 8 3 b_l_bent
abbrev n_l_bent : Nat := 13
/-- a code as it is asked for: any goals and bits -/
structure CI where
  letters : List Nat
  rows : List (List (Int × Int))
  ends : List Int
deriving DecidableEq
def prI (p : Int × Int) : D := .tup [.int p.1, .int p.2]
def rowLI (r : List (Int × Int)) : D := .lst (r.map prI)
def rowTI (r : List (Int × Int)) : D := .tup (r.map prI)
def iD (n : Int) : D := .int n
def CI.fs (C : CI) : List D := [.str C.letters, .tup (C.rows.map rowTI), .tup (C.ends.map iD)]
def CI.o (C : CI) : D := .obj 0 C.fs
/-- the rows of a code, as they may be handed in: data of which each row holds pairs -/
def SqPI : List D → List (List (Int × Int)) → Prop
  | [], [] => True
  | g :: gs, r :: rs => Sq g (r.map prI) ∧ SqPI gs rs
  | _, _ => False
theorem SqPI.lists (rs : List (List (Int × Int))) : SqPI (rs.map rowLI) rs := by
  induction rs with
  | nil => trivial
  | cons r rs ih => exact ⟨.inl rfl, ih⟩
theorem SqPI.tups (rs : List (List (Int × Int))) : SqPI (rs.map rowTI) rs := by
  induction rs with
  | nil => trivial
  | cons r rs ih => exact ⟨.inr rfl, ih⟩
theorem SqPI.len : ∀ {gs : List D} {rs : List (List (Int × Int))}, SqPI gs rs → gs.length = rs.length
  | [], [], _ => rfl
  | _ :: _, _ :: _, h => by rw [List.length_cons, List.length_cons, SqPI.len h.2]
  | [], _ :: _, h => h.elim
  | _ :: _, [], h => h.elim
/-- a comprehension over rows -/
theorem lcRowsI {f : D → M (Option O)} {g : List (Int × Int) → D} : ∀ {gs : List D} {rs : List (List (Int × Int))}, SqPI gs rs → (∀ d r, r ∈ rs → Sq d (r.map prI) → f d = M.ret (some (.fz (g r)))) → lcRun f gs = M.ret (fzs (rs.map g))
  | [], [], _, _ => rfl
  | d :: gs, r :: rs, h, k => by
    rw [lcRun, k d r (by simp) h.1, M.bind_ret, lcRowsI h.2 fun d r hr => k d r (by simp [hr])]
    rfl
  | [], _ :: _, h, _ => h.elim
  | _ :: _, [], h, _ => h.elim
theorem lcRowsOI {f : D → M (Option O)} {g : List (Int × Int) → O} : ∀ {gs : List D} {rs : List (List (Int × Int))}, SqPI gs rs → (∀ d r, r ∈ rs → Sq d (r.map prI) → f d = M.ret (some (g r))) → lcRun f gs = M.ret (rs.map g)
  | [], [], _, _ => rfl
  | d :: gs, r :: rs, h, k => by
    rw [lcRun, k d r (by simp) h.1, M.bind_ret, lcRowsOI h.2 fun d r hr => k d r (by simp [hr])]
    rfl
  | [], _ :: _, h, _ => h.elim
  | _ :: _, [], h, _ => h.elim
def goalsI (rs : List (List (Int × Int))) : List (List Int) := rs.map fun r => r.map fun p => p.1
def wrongI (C : CI) : Option Int := firstBad C.letters.length C.ends.length (goalsI C.rows)
/-- Code(..) -/
def MkI (f : List D → M D) : Prop := ∀ (C : CI) (g e : D) (gs : List D), Sq g gs → SqPI gs C.rows → Sq e (C.ends.map iD) → C.letters.length ≤ lim → (∀ r ∈ C.rows, r.length ≤ lim) → C.rows.length ≤ lim →
  f [.str C.letters, g, e] = match wrongI C with
    | some i => M.exc ⟨0, some (.int i)⟩
    | none => M.ret C.o
theorem mkI_ok {S : Sem} (h : CheckRows (S.fn n_check_rows)) (hcl : S.cl 0 = true) : MkI (Kn.run S k_Code___init__) := by
  intro C g e gs hg hgs he hl1 hl2 hl3
  have hlen := hgs.len
  simp [k_Code___init__, b_Code___init__, List.replicate, len_str _ hl1, hg.seqD, he.len]
  have two : 2 ≤ lim := lim_of (by decide)
  rw [lcRowsOI (g := fun r => .lst (fzs (r.map fun p => .int p.1))) hgs]
  · have hrows : SqRows (C.rows.map fun r => .lst (r.map fun p => .int p.1)) (goalsI C.rows) := by
      unfold goalsI
      generalize C.rows = rs
      induction rs with
      | nil => trivial
      | cons r rs ih => exact ⟨.inl (by rw [List.map_map]; rfl), ih⟩
    have hgl : gs.length ≤ lim := by rw [hlen]; exact hl3
    have hc := h C.letters.length C.ends.length (.lst (C.rows.map fun r => .lst (r.map fun p => .int p.1))) _ (goalsI C.rows) (.inl rfl) hrows (fun r hr => by
      obtain ⟨r', h1, rfl⟩ := List.mem_map.mp hr
      rw [List.length_map]
      exact hl2 r' h1)
    have hm : (C.rows.map fun r => O.lst (fzs (r.map fun p => .int p.1))).map O.toD = C.rows.map fun r => .lst (r.map fun p => .int p.1) := by
      rw [List.map_map]
      exact List.map_congr_left fun r _ => by simp
    simp only [M.bind_ret, hgl, if_true, M.of_some, toD_lst, hm, hc]
    show M.bind (told (wrongI C)) _ = _
    cases hw : wrongI C with
    | some i => rfl
    | none =>
      simp [told, setf_of hcl (f := 0) (fs := []) rfl]
      rw [lcRowsI (g := rowTI) hgs]
      · have s1 := setf_of hcl (f := 1) (d := .tup (C.rows.map rowTI)) (fs := [.str C.letters]) rfl
        have s2 := setf_of hcl (f := 2) (d := .tup (C.ends.map iD)) (fs := [.str C.letters, .tup (C.rows.map rowTI)]) rfl
        simp at s1 s2
        simp [hgl, s1, s2, tupleO_of he.seq]
        rfl
      · intro d r hr hd
        simp [hd.seqD]
        rw [lcm (g := prI)]
        · simp [hl2 r hr]
          rfl
        · intro x hx
          simp [prI, two]
  · intro d r hr hd
    simp [hd.seqD]
    rw [lcm (g := fun p => .int p.1)]
    · simp [hl2 r hr]
    · intro x hx
      simp [prI]
end Bc.Pl
set_option Elab.async false
set_option linter.all false
set_option maxRecDepth 100000
set_option maxHeartbeats 4000000
/-! k02: ==, len, the law's own look. -/
namespace Bc.Pl
open PySem PySem.Spec L2
theorem coks_prI (n : Nat) (r : List (Int × Int)) : cokDs (n + 1) (r.map prI) = true := by
  rw [coks_all, List.all_map, List.all_eq_true]
  intro p _
  simp [prI, coks_all]
theorem coks_rowTI (n : Nat) (rs : List (List (Int × Int))) : cokDs (n + 2) (rs.map rowTI) = true := by
  rw [coks_all, List.all_map, List.all_eq_true]
  intro r _
  simp only [Function.comp, rowTI, cok_tup]
  exact coks_prI n r
theorem coks_rowLI (n : Nat) (rs : List (List (Int × Int))) : cokDs (n + 2) (rs.map rowLI) = true := by
  rw [coks_all, List.all_map, List.all_eq_true]
  intro r _
  simp only [Function.comp, rowLI, cok_lst]
  exact coks_prI n r
theorem coks_iD (n : Nat) (es : List Int) : cokDs n (es.map iD) = true := by
  rw [coks_all, List.all_map, List.all_eq_true]
  intro e _
  simp [iD]
theorem fldI0 (C : CI) {cl : Nat → Bool} (h : cl 0 = true) : fldO cl 0 (.fz C.o) = some (.fz (.str C.letters)) := by
  unfold fldO CI.o CI.fs
  simp only
  rw [if_pos h]
  rfl
theorem fldI1 (C : CI) {cl : Nat → Bool} (h : cl 0 = true) : fldO cl 1 (.fz C.o) = some (.fz (.tup (C.rows.map rowTI))) := by
  unfold fldO CI.o CI.fs
  simp only
  rw [if_pos h]
  rfl
theorem fldI2 (C : CI) {cl : Nat → Bool} (h : cl 0 = true) : fldO cl 2 (.fz C.o) = some (.fz (.tup (C.ends.map iD))) := by
  unfold fldO CI.o CI.fs
  simp only
  rw [if_pos h]
  rfl
theorem prI_inj {p q : Int × Int} (h : prI p = prI q) : p = q := by
  obtain ⟨a, b⟩ := p
  obtain ⟨c, d⟩ := q
  simp [prI] at h
  rw [h.1, h.2]
theorem map_inj {α β : Type} {f : α → β} (hf : ∀ a b, f a = f b → a = b) : ∀ {xs ys : List α}, xs.map f = ys.map f → xs = ys
  | [], [], _ => rfl
  | [], _ :: _, h => by cases h
  | _ :: _, [], h => by cases h
  | x :: xs, y :: ys, h => by
    rw [List.map_cons, List.map_cons, List.cons.injEq] at h
    rw [hf _ _ h.1, map_inj hf h.2]
theorem rowTI_inj {p q : List (Int × Int)} (h : rowTI p = rowTI q) : p = q := map_inj (fun _ _ => prI_inj) (by simpa [rowTI] using h)
theorem rowLI_inj {p q : List (Int × Int)} (h : rowLI p = rowLI q) : p = q := map_inj (fun _ _ => prI_inj) (by simpa [rowLI] using h)
theorem iD_inj {p q : Int} (h : iD p = iD q) : p = q := by simpa [iD] using h
theorem fs_iff (C C' : CI) : (D.tup C.fs = D.tup C'.fs) ↔ C = C' := by
  refine ⟨fun h => ?_, fun h => by rw [h]⟩
  unfold CI.fs at h
  simp at h
  obtain ⟨h1, h2, h3⟩ := h
  obtain ⟨l, r, e⟩ := C
  obtain ⟨l', r', e'⟩ := C'
  simp only at h1 h2 h3
  rw [h1, map_inj (fun _ _ => rowTI_inj) h2, map_inj (fun _ _ => iD_inj) h3]
theorem eqD_tmap {α : Type} [DecidableEq α] {f : α → D} (h : ∀ a b, eqD (f a) (f b) = decide (a = b)) : ∀ xs ys : List α, eqD (.tup (xs.map f)) (.tup (ys.map f)) = decide (xs = ys)
  | [], [] => by simp
  | [], _ :: _ => by simp
  | _ :: _, [] => by simp
  | x :: xs, y :: ys => by
    rw [List.map_cons, List.map_cons, eqD_tup_cons, h, eqD_tmap h xs ys]
    by_cases h1 : x = y <;> by_cases h2 : xs = ys <;> simp [h1, h2]
theorem eqD_lmap {α : Type} [DecidableEq α] {f : α → D} (h : ∀ a b, eqD (f a) (f b) = decide (a = b)) : ∀ xs ys : List α, eqD (.lst (xs.map f)) (.lst (ys.map f)) = decide (xs = ys)
  | [], [] => by simp
  | [], _ :: _ => by simp
  | _ :: _, [] => by simp
  | x :: xs, y :: ys => by
    rw [List.map_cons, List.map_cons, eqD_lst_cons, h, eqD_lmap h xs ys]
    by_cases h1 : x = y <;> by_cases h2 : xs = ys <;> simp [h1, h2]
theorem eqD_prI (p q : Int × Int) : eqD (prI p) (prI q) = decide (p = q) := by
  obtain ⟨a, b⟩ := p
  obtain ⟨c, d⟩ := q
  simp only [prI, eqD_tup_cons, eqD_int, eqD_tup_nil]
  by_cases h1 : a = c <;> by_cases h2 : b = d <;> simp [h1, h2]
theorem eqD_rowTI (p q : List (Int × Int)) : eqD (rowTI p) (rowTI q) = decide (p = q) := eqD_tmap eqD_prI p q
theorem eqD_rowLI (p q : List (Int × Int)) : eqD (rowLI p) (rowLI q) = decide (p = q) := eqD_lmap eqD_prI p q
theorem eqD_iD (p q : Int) : eqD (iD p) (iD q) = decide (p = q) := eqD_int p q
/-- own == -/
def CodeEq (f : List D → M D) : Prop := (∀ C C' : CI, okS C.letters = true → okS C'.letters = true → f [C.o, C'.o] = M.ret (.bl (decide (C = C')))) ∧ ∀ (C : CI) (ds : List D), f [C.o, .tup ds] = M.ret (.bl false)
theorem codeEq_ok {S : Sem} (hcl : S.cl 0 = true) : CodeEq (Kn.run S k_Code___eq__) := by
  refine ⟨fun C C' h1 h2 => ?_, fun C ds => ?_⟩
  · have three : 3 ≤ lim := lim_of (by decide)
    have e : isaD S.cl 0 C'.o = some true := by
      unfold isaD CI.o
      simp only
      rw [if_pos hcl]
      rfl
    have c1 : ∀ C : CI, okS C.letters = true → cokDs 59 C.fs = true := fun C h => by
      unfold CI.fs
      rw [coks_all]
      simp only [List.all_cons, List.all_nil, cok_str, cok_tup, Bool.and_true, Bool.and_eq_true]
      exact ⟨h, coks_rowTI 56 _, coks_iD _ _⟩
    have c2 := cmp_eq (.fz (.tup C.fs)) (.fz (.tup C'.fs)) (by simp [c1 C h1]) (by simp [c1 C' h2])
    unfold CI.fs at c2
    simp [k_Code___eq__, b_Code___eq__, List.replicate, O.isFz, e, fldI0 _ hcl, fldI1 _ hcl, fldI2 _ hcl, three, c2]
    congr 2
    rw [eqD_tmap eqD_rowTI, eqD_tmap eqD_iD]
    have hC : decide (C = C') = (decide (C.letters = C'.letters) && (decide (C.rows = C'.rows) && decide (C.ends = C'.ends))) := by
      clear c2 c1 e h1 h2
      obtain ⟨l, r, en⟩ := C
      obtain ⟨l', r', en'⟩ := C'
      simp only [CI.mk.injEq]
      by_cases h1 : l = l' <;> by_cases h2 : r = r' <;> by_cases h3 : en = en' <;> simp [h1, h2, h3]
    rw [hC]
  · have e : isaD S.cl 0 (.tup ds) = some false := rfl
    simp [k_Code___eq__, b_Code___eq__, List.replicate, O.isFz, e]
def CodeLenI (f : List D → M D) : Prop := ∀ C : CI, C.rows.length ≤ lim → f [C.o] = M.ret (.int (C.rows.length : Nat))
theorem codeLenI_ok {S : Sem} (hcl : S.cl 0 = true) : CodeLenI (Kn.run S k_Code___len__) := by
  intro C h
  simp [k_Code___len__, b_Code___len__, List.replicate, fldI1 _ hcl, h]
/-! the law's own look -/
def lawWrong (C : CI) : Option Int := match badFrom C.letters.length C.rows.length C.ends.length 0 (goalsI C.rows) with
  | some i => some (i : Int)
  | none => if (C.rows.length : Int) < C.ends.length then some (C.rows.length : Int) else none
theorem lawWrong_eq {C : CI} (h : C.rows ≠ []) : lawWrong C = wrongI C := by
  unfold lawWrong wrongI firstBad
  have hl : (goalsI C.rows).length = C.rows.length := by unfold goalsI; rw [List.length_map]
  have hne : goalsI C.rows ≠ [] := fun e => h (List.length_eq_zero_iff.mp (by rw [← hl, e]; rfl))
  rw [if_neg hne, hl]
  all_goals
    generalize badFrom (C.letters.length : Int) C.rows.length (C.ends.length : Int) 0 (goalsI C.rows) = b
    cases b <;> rfl
def optD (r : Option Int) : D := match r with
  | some i => .int i
  | none => .non
theorem SqPI.get : ∀ {gs : List D} {rows : List (List (Int × Int))} {i : Nat} {d : D}, SqPI gs rows → gs[i]? = some d → ∃ r, rows[i]? = some r ∧ Sq d (r.map prI)
  | [], [], i, d, _, e => by simp at e
  | g :: gs, r :: rs, 0, d, h, e => by
    simp at e
    subst e
    exact ⟨r, rfl, h.1⟩
  | g :: gs, r :: rs, i + 1, d, h, e => by
    obtain ⟨r', h1, h2⟩ := SqPI.get (i := i) h.2 (by simpa using e)
    exact ⟨r', by simpa using h1, h2⟩
  | [], _ :: _, _, _, h, _ => h.elim
  | _ :: _, [], _, _, h, _ => h.elim
def Wrong (f : List D → M D) : Prop := ∀ C : CI, C.letters.length ≤ lim → C.rows.length ≤ 1000 → (∀ r ∈ C.rows, r.length ≤ lim) → f [.str C.letters, .lst (C.rows.map rowLI), .lst (C.ends.map iD)] = M.ret (optD (lawWrong C))
theorem wrong_ok (S : Sem) : Wrong (Kn.run S k_l_wrong) := by
  intro C h1 h2 h3
  have main : PuX (Kn.run S k_l_wrong [.str C.letters, .lst (C.rows.map rowLI), .lst (C.ends.map iD)]) fun r => M.res r = M.ret (optD (lawWrong C)) := by
    have hr : inRange (C.rows.length : Int) = true := inRange_of (by omega) (by omega)
    conv => arg 1; simp [k_l_wrong, b_l_wrong, List.replicate, items_r1 _ hr]
    refine PuX.bindX ?_
    have hgl : ∀ (i : Nat) (r : List (Int × Int)), C.rows[i]? = some r → (goalsI C.rows).drop i = (r.map fun p => p.1) :: (goalsI C.rows).drop (i + 1) := fun i r h => by
      obtain ⟨q1, q2⟩ := List.getElem?_eq_some_iff.mp h
      unfold goalsI
      rw [← List.map_drop, ← List.map_drop, List.drop_eq_getElem_cons q1, q2, List.map_cons]
    refine PuX.for (I := fun i σ => (∃ o3 o4 o5 : Option O, σ = [some (O.fz (D.str C.letters)), some (O.fz (D.lst (List.map rowLI C.rows))), some (O.fz (D.lst (List.map iD C.ends))), o3, o4, o5]) ∧
      badFrom C.letters.length C.rows.length C.ends.length 0 (goalsI C.rows) = badFrom C.letters.length C.rows.length C.ends.length i ((goalsI C.rows).drop i)) ?_ ?_ ?_
    · exact ⟨⟨_, _, _, rfl⟩, by simp⟩
    · rintro i d σ hi ⟨⟨o3, o4, o5, rfl⟩, hb⟩
      obtain ⟨rfl, hlt⟩ := intsFrom_get _ _ _ _ hi
      cases hrow : C.rows[i]? with
      | none =>
        have := List.getElem?_eq_none_iff.mp hrow
        omega
      | some r =>
        have hrl : r.length ≤ lim := h3 r (List.mem_of_getElem? hrow)
        rw [hgl i r hrow, badFrom] at hb
        have hat : atI (C.rows.map rowLI) (i : Int) = some (rowLI r) := by
          rw [atI_nat _ _ (by rw [List.length_map]; exact hlt), List.getElem?_map, hrow]
          rfl
        have lr : lenO (O.fz (rowLI r)) = some r.length := by
          show lenO (O.fz (.lst (r.map prI))) = _
          simp
        have ls : lenO (O.fz (D.str C.letters)) = some C.letters.length := len_str _ h1
        conv => arg 1; simp [forB, hat]
        have sq : seqD (rowLI r) = some (r.map prI) := rfl
        have ce : ∀ xs : List Int, cmpO .ne (.lst (fzs (xs.map iD))) (.lst (fzs [])) = some (!decide (xs = [])) := fun xs => by
          rw [cmp_ne _ _ (by simp [coks_iD]) (by simp [cokDs])]
          cases xs <;> simp
        by_cases e1 : r.length = C.letters.length
        · by_cases e2 : C.ends.length ≤ i
          · rw [if_pos (by unfold badRow; simp [e2])] at hb
            conv => arg 1; simp [lr, ls, e1, e2]
            refine PuX.ret ?_
            show PuX (M.bind (nxt S _ (Fl.rt _, _)) _) _
            conv => arg 1; simp
            refine PuX.ret ?_
            show M.ret _ = M.ret _
            unfold lawWrong
            rw [hb]
            rfl
          · conv => arg 1; simp [lr, ls, e1, e2, hat, sq]
            rw [lcf (g := fun p => iD p.1) (q := fun p : Int × Int => !(decide (0 ≤ p.1) && decide (p.1 < (C.rows.length : Int))))]
            · have hm : (r.filter fun p : Int × Int => !(decide (0 ≤ p.1) && decide (p.1 < (C.rows.length : Int)))).map (fun p => iD p.1) = ((r.filter fun p : Int × Int => !(decide (0 ≤ p.1) && decide (p.1 < (C.rows.length : Int)))).map fun p => p.1).map iD := by rw [List.map_map]; rfl
              obtain ⟨xs, hxs⟩ : ∃ xs : List Int, xs = (r.filter fun p : Int × Int => !(decide (0 ≤ p.1) && decide (p.1 < (C.rows.length : Int)))).map fun p => p.1 := ⟨_, rfl⟩
              rw [hm, ← hxs]
              by_cases e3 : (r.all fun p : Int × Int => decide (0 ≤ p.1) && decide (p.1 < (C.rows.length : Int))) = true
              · have hn : xs = [] := by
                  rw [hxs, List.map_eq_nil_iff, List.filter_eq_nil_iff]
                  intro p hp
                  have := List.all_eq_true.mp e3 p hp
                  rw [this]
                  decide
                rw [if_neg (by unfold badRow; rw [List.all_map]; simp [e1, e2]; simpa using e3)] at hb
                conv => arg 1; simp [h1, ce, hn]
                exact PuX.ret ⟨⟨_, _, _, rfl⟩, hb⟩
              · have hn : ¬ xs = [] := fun h => e3 (by
                  rw [hxs, List.map_eq_nil_iff, List.filter_eq_nil_iff] at h
                  rw [List.all_eq_true]
                  intro p hp
                  simpa using h p hp)
                rw [if_pos (by unfold badRow; rw [List.all_map]; simp [e1, e2]; simpa using e3)] at hb
                conv => arg 1; simp [h1, ce, hn]
                refine PuX.ret ?_
                show PuX (M.bind (nxt S _ (Fl.rt _, _)) _) _
                conv => arg 1; simp
                refine PuX.ret ?_
                show M.ret _ = M.ret _
                unfold lawWrong
                rw [hb]
                rfl
            · intro p hp
              obtain ⟨x, y⟩ := p
              by_cases p0 : 0 ≤ x
              · by_cases p1 : x < (C.rows.length : Int) <;> simp [prI, iD, p0, p1]
              · simp [prI, iD, p0]
        · rw [if_pos (by unfold badRow; simp; exact .inl (fun h => e1 (by omega)))] at hb
          have e1' : ¬ ((r.length : Int) = (C.letters.length : Int)) := by omega
          conv => arg 1; simp [lr, ls, e1, e1']
          refine PuX.ret ?_
          show PuX (M.bind (nxt S _ (Fl.rt _, _)) _) _
          conv => arg 1; simp
          refine PuX.ret ?_
          show M.ret _ = M.ret _
          unfold lawWrong
          rw [hb]
          rfl
    · rintro σ ⟨⟨o3, o4, o5, rfl⟩, hb⟩
      have hd : (goalsI C.rows).drop (intsFrom 0 C.rows.length).length = [] := List.drop_eq_nil_of_le (by unfold goalsI; rw [intsFrom_len, List.length_map]; exact Nat.le_refl _)
      rw [hd, badFrom] at hb
      show PuX (M.bind (nxt S _ (Fl.nx, _)) _) _
      unfold lawWrong
      rw [hb]
      by_cases e4 : (C.rows.length : Int) < C.ends.length
      · have e5 : C.rows.length < C.ends.length := by omega
        have q1 : C.rows.length ≤ lim := lim_of (by omega)
        conv => arg 1; simp [e4, e5]
        refine PuX.ret ?_
        show M.ret _ = M.ret (optD (if _ then _ else _))
        rw [if_pos e4]
        rfl
      · have e5 : ¬ C.rows.length < C.ends.length := by omega
        conv => arg 1; simp [e4, e5]
        refine PuX.ret ?_
        show M.ret _ = M.ret (optD (if _ then _ else _))
        rw [if_neg e4]
        rfl
  obtain ⟨r, h1, h2⟩ := main
  rw [h1]
  exact h2
theorem olen_of {S : Sem} {n : Nat} (hm : S.mt 0 mLen = some n) (h : CodeLenI (S.fn n)) (C : CI) (hl : C.rows.length ≤ 1000) : olenM S (.fz C.o) = M.ret (.fz (.int (C.rows.length : Nat))) := by
  unfold olenM
  have e := h C (lim_of hl)
  have e2 : isLen? (.int (C.rows.length : Nat)) = some ((C.rows.length : Nat) : Int) := by
    unfold isLen?
    simp only
    rw [if_pos ⟨by omega, by omega⟩]
  have e3 : obj? (.fz C.o) = some (0, C.fs) := rfl
  rw [show CI.o C = .obj 0 C.fs from rfl] at e
  simp [e3, hm, e, e2]
theorem oeq_of {S : Sem} {n : Nat} (hcl : S.cl 0 = true) (hm : S.mt 0 mEq = some n) (h : CodeEq (S.fn n)) (C C' : CI) (h1 : okS C.letters = true) (h2 : okS C'.letters = true) : oeqM S (.fz C.o) (.fz C'.o) = M.ret (.fz (.bl (decide (C = C')))) := by
  unfold oeqM
  have e := h.1 C C' h1 h2
  have e3 : obj? (.fz C.o) = some (0, C.fs) := rfl
  have e4 : (O.fz C'.o).isFz = some C'.o := rfl
  have e5 : eqSide S.cl C'.o = true := hcl
  have e6 : ∀ b, isBl? (.bl b) = some b := fun _ => rfl
  rw [show CI.o C = .obj 0 C.fs from rfl] at e
  simp [e3, e4, hm, e, e5, hcl, e6]
theorem oeq_tup {S : Sem} {n : Nat} (hcl : S.cl 0 = true) (hm : S.mt 0 mEq = some n) (h : CodeEq (S.fn n)) (C : CI) (ds : List D) : oeqM S (.fz C.o) (.fz (.tup ds)) = M.ret (.fz (.bl false)) := by
  unfold oeqM
  have e := h.2 C ds
  have e3 : obj? (.fz C.o) = some (0, C.fs) := rfl
  have e4 : (O.fz (D.tup ds)).isFz = some (.tup ds) := rfl
  have e5 : eqSide S.cl (.tup ds) = true := rfl
  have e6 : ∀ b, isBl? (.bl b) = some b := fun _ => rfl
  rw [show CI.o C = .obj 0 C.fs from rfl] at e
  simp [e3, e4, hm, e, e5, hcl, e6]
/-- refused -/
def Refused (f : List D → M D) : Prop := ∀ C : CI, C.letters.length ≤ 1000 → C.rows.length ≤ 1000 → (∀ r ∈ C.rows, r.length ≤ 1000) → f [.str C.letters, .lst (C.rows.map rowLI), .lst (C.ends.map iD)] = M.ret (optD (wrongI C))
theorem refused_ok {S : Sem} (hmk : MkI (S.fn n_Code___init__)) (hm : S.mt 0 mLen = some n_Code___len__) (hl : CodeLenI (S.fn n_Code___len__)) : Refused (Kn.run S k_l_refused) := by
  intro C h1 h2 h3
  have e := hmk C (.lst (C.rows.map rowLI)) (.lst (C.ends.map iD)) (C.rows.map rowLI) (.inl rfl) (SqPI.lists _) (.inl rfl) (lim_of h1) (fun r hr => lim_of (h3 r hr)) (lim_of h2)
  cases hw : wrongI C with
  | some i =>
    rw [hw] at e
    simp only at e
    simp [k_l_refused, b_l_refused, List.replicate, e, optD]
  | none =>
    rw [hw] at e
    simp only at e
    simp [k_l_refused, b_l_refused, List.replicate, e, olen_of hm hl C h2, optD]
end Bc.Pl
set_option Elab.async false
set_option linter.all false
set_option maxRecDepth 100000
set_option maxHeartbeats 4000000
/-! k02: rows bent. -/
namespace Bc.Pl
open PySem PySem.Spec L2
theorem cutL_map {α β : Type} (f : α → β) (xs : List α) (lo hi : Option Int) : cutL (xs.map f) lo hi = (cutL xs lo hi).map f := by
  unfold cutL
  rw [List.length_map, ← List.map_drop, ← List.map_take]
theorem cutL_len {α : Type} (xs : List α) (lo hi : Option Int) : (cutL xs lo hi).length ≤ xs.length := by
  unfold cutL
  rw [List.length_take, List.length_drop]
  omega
def rowO (r : List (Int × Int)) : O := .lst (fzs (r.map prI))
theorem rowO_D (rs : List (List (Int × Int))) : (rs.map rowO).map O.toD = rs.map rowLI := by
  rw [List.map_map]
  refine List.map_congr_left fun r _ => ?_
  simp [rowO, rowLI]
theorem set_D (rs : List (List (Int × Int))) (j : Nat) (r : List (Int × Int)) : ((rs.map rowO).set j (.fz (.lst (r.map prI)))).map O.toD = (rs.set j r).map rowLI := by
  rw [List.map_set, rowO_D, toD_fz, List.map_set]
  rfl
theorem lcOwn {f : D → M (Option O)} {α : Type} {h : α → D} {g : α → O} : ∀ {xs : List α}, (∀ x ∈ xs, f (h x) = M.ret (some (g x))) → lcRun f (xs.map h) = M.ret (xs.map g)
  | [], _ => rfl
  | x :: xs, k => by
    rw [List.map_cons, lcRun, k x (by simp), M.bind_ret, lcOwn fun y hy => k y (by simp [hy])]
    rfl
theorem store_own {rs : List O} {j : Nat} (h : j < rs.length) (d : D) : storeF (.int (j : Nat)) d (.lst rs) = some (.lst (rs.set j (.fz d))) := by
  unfold storeF
  have e : ixN rs.length (j : Int) = some j := by
    unfold ixN
    rw [if_pos (by omega), if_pos (by omega)]
    simp
  simp only [e, Option.map_some]
def Bent (f : List D → M D) : Prop := ∀ (rows : List (List (Int × Int))) (ends : List Int) (n : Nat), 1 ≤ rows.length → rows.length ≤ 100 → n ≤ 100 → (∀ r ∈ rows, r.length ≤ n) → ends.length ≤ 100 →
  Ok 10 (f [.pen, .lst (rows.map rowLI), .lst (ends.map iD)]) fun d => ∃ (rows' : List (List (Int × Int))) (ends' : List Int), d = .tup [.lst (rows'.map rowLI), .lst (ends'.map iD)] ∧ rows'.length = rows.length ∧ (∀ r ∈ rows', r.length ≤ n + 1) ∧ ends'.length ≤ ends.length + 1
theorem bent_ok {S : Sem} (h : Draw (S.fn n_l_draw)) (hp : Pick (S.fn n_l_pick)) : Bent (Kn.run S k_l_bent) := by
  intro rows ends n h1 h2 h3 h4 h5
  unfold Ok
  have hl : rows.length ≤ lim := lim_of (by omega)
  have hel : ends.length ≤ lim := lim_of (by omega)
  conv => arg 2; simp [k_l_bent, b_l_bent, List.replicate]
  rw [lcOwn (g := rowO)]
  · conv => arg 2; simp [hl]
    refine OkX.bind (h 6 (by decide) (tenK_of (by decide))) (by decide) fun d ⟨k, e, hk⟩ => ?_
    subst e
    conv => arg 2; simp
    refine OkX.bind (h rows.length h1 (tenK_of (by omega))) (by decide) fun d ⟨j, e, hj⟩ => ?_
    subst e
    obtain ⟨r, hr⟩ : ∃ r, rows[j]? = some r := ⟨rows[j], List.getElem?_eq_getElem hj⟩
    have hrn := h4 r (List.mem_of_getElem? hr)
    have hsub : subO (.lst (rows.map rowO)) (.fz (.int (j : Nat))) = some (.lst (fzs (r.map prI))) := by
      show atI (rows.map rowO) (j : Int) = _
      rw [atI_nat _ _ (by rw [List.length_map]; exact hj), List.getElem?_map, hr]
      rfl
    conv => arg 2; simp [hsub]
    rw [show ((r.length : Int) + 1) = ((r.length + 1 : Nat) : Int) by omega]
    refine OkX.bind (h (r.length + 1) (by omega) (tenK_of (by omega))) (by decide) fun d ⟨p, e, hpl⟩ => ?_
    subst e
    have hst : ∀ d : D, storeF (.int (j : Nat)) d (.lst (rows.map rowO)) = some (.lst ((rows.map rowO).set j (.fz d))) := fun d => store_own (by rw [List.length_map]; exact hj) d
    have one : 1 ≤ lim := lim1
    have two : 2 ≤ lim := lim_of (by decide)
    have four : 4 ≤ lim := lim_of (by decide)
    have fin : ∀ (nr : List (Int × Int)) (ne : List Int) (c : Nat) (d : D), nr.length ≤ n + 1 → ne.length ≤ ends.length + 1 → d = .tup [.lst ((rows.map rowLI).set j (rowLI nr)), .lst (ne.map iD)] → OkX c (M.ret d) (okP fun d => ∃ (rows' : List (List (Int × Int))) (ends' : List Int), d = .tup [.lst (rows'.map rowLI), .lst (ends'.map iD)] ∧ rows'.length = rows.length ∧ (∀ r ∈ rows', r.length ≤ n + 1) ∧ ends'.length ≤ ends.length + 1) := fun nr ne c d hn hne hd =>
      OkX.ret ⟨rows.set j nr, ne, by rw [hd, List.map_set], by rw [List.length_set], fun r hr => by
        rcases List.mem_or_eq_of_mem_set hr with q | q
        · exact Nat.le_trans (h4 r q) (Nat.le_succ n)
        · rw [q]
          exact hn, hne⟩
    have finE : ∀ (ne : List Int) (c : Nat) (d : D), ne.length ≤ ends.length + 1 → d = .tup [.lst (rows.map rowLI), .lst (ne.map iD)] → OkX c (M.ret d) (okP fun d => ∃ (rows' : List (List (Int × Int))) (ends' : List Int), d = .tup [.lst (rows'.map rowLI), .lst (ends'.map iD)] ∧ rows'.length = rows.length ∧ (∀ r ∈ rows', r.length ≤ n + 1) ∧ ends'.length ≤ ends.length + 1) := fun ne c d hne hd =>
      OkX.ret ⟨rows, ne, hd, rfl, fun r hr => Nat.le_trans (h4 r hr) (Nat.le_succ n), hne⟩
    have tor : (O.toD ∘ rowO) = rowLI := by
      funext r
      simp [rowO, rowLI]
    have c1 : cutL r none (some (p : Int)) = r.take p := cut_to r p
    have c2 : cutL r (some ((p : Int) + 1)) none = r.drop (p + 1) := cut_from1 r p
    have c3 : cutL r (some (p : Int)) none = r.drop p := cut_from r p
    have addD : ∀ (xs ys : List D), xs.length ≤ 400 → ys.length ≤ 400 → binO .add (.lst (fzs xs)) (.lst (fzs ys)) = some (.lst (fzs (xs ++ ys))) := fun xs ys q1 q2 => add_oo _ _ (lim_of (by omega))
    have e1 : ∀ lo hi, (cutL ends lo hi).length ≤ 300 := fun lo hi => Nat.le_trans (cutL_len ends lo hi) (by omega)
    have a1 : ∀ (xs ys : List (Int × Int)), xs.length ≤ 300 → ys.length ≤ 300 → binO .add (.lst (fzs (xs.map prI))) (.lst (fzs (ys.map prI))) = some (.lst (fzs ((xs ++ ys).map prI))) := fun xs ys q1 q2 => by
      rw [List.map_append]
      exact add_oo _ _ (lim_of (by rw [List.length_map, List.length_map]; omega))
    have l1 : ∀ lo hi, (cutL r lo hi).length ≤ 300 := fun lo hi => Nat.le_trans (cutL_len r lo hi) (by omega)
    rcases (show k = 0 ∨ k = 1 ∨ k = 2 ∨ k = 3 ∨ k = 4 ∨ k = 5 by omega) with rfl | rfl | rfl | rfl | rfl | rfl
    · conv => arg 2; simp [hsub, cutL_map, a1, l1, hst, two, tor]
      refine fin (cutL r none (some (p : Int)) ++ cutL r (some ((p : Int) + 1)) none) ends _ _ ?_ (Nat.le_succ _) (by rw [rowLI, List.map_append])
      rw [c1, c2, List.length_append, List.length_take, List.length_drop]
      omega
    · have g1 := addD ((cutL r none (some (p : Int))).map prI) [D.tup [.int 0, .int 1]] (by rw [List.length_map]; exact Nat.le_trans (l1 _ _) (by decide)) (by simp)
      have g2 := addD ((cutL r none (some (p : Int))).map prI ++ [D.tup [.int 0, .int 1]]) ((cutL r (some (p : Int)) none).map prI) (by rw [List.length_append, List.length_map]; have := l1 none (some (p : Int)); simp; omega) (by rw [List.length_map]; exact Nat.le_trans (l1 _ _) (by decide))
      conv => arg 2; simp [hsub, cutL_map, g1, g2, hst, one, two, tor]
      refine fin (cutL r none (some (p : Int)) ++ [(0, 1)] ++ cutL r (some (p : Int)) none) ends _ _ ?_ (Nat.le_succ _) (by simp [rowLI, prI])
      rw [c1, c3, List.length_append, List.length_append, List.length_take, List.length_drop]
      simp
      omega
    · have hpow : binO .pow (.fz (.int 10)) (.fz (.int 30)) = some (.fz (.int (10 ^ 30))) := by rfl
      conv => arg 2; simp [hpow, four]
      refine OkX.bind (hp _ (by simp) (tenK_of (by simp))) (by decide) fun d hd => ?_
      obtain ⟨z, rfl⟩ : ∃ z : Int, d = .int z := by
        simp at hd
        rcases hd with rfl | rfl | rfl | rfl <;> exact ⟨_, rfl⟩
      have g1 := addD ((cutL r none (some (p : Int))).map prI) [D.tup [.int z, .int 2]] (by rw [List.length_map]; exact Nat.le_trans (l1 _ _) (by decide)) (by simp)
      have g2 := addD ((cutL r none (some (p : Int))).map prI ++ [D.tup [.int z, .int 2]]) ((cutL r (some ((p : Int) + 1)) none).map prI) (by rw [List.length_append, List.length_map]; have := l1 none (some (p : Int)); simp; omega) (by rw [List.length_map]; exact Nat.le_trans (l1 _ _) (by decide))
      conv => arg 2; simp [hsub, cutL_map, g1, g2, hst, one, two, tor]
      refine fin (cutL r none (some (p : Int)) ++ [(z, 2)] ++ cutL r (some ((p : Int) + 1)) none) ends _ _ ?_ (Nat.le_succ _) (by simp [rowLI, prI])
      rw [c1, c2, List.length_append, List.length_append, List.length_take, List.length_drop]
      simp
      omega
    · conv => arg 2; simp [hsub, cutL_map, two, tor]
      exact finE (cutL ends none (some (-1))) _ _ (Nat.le_trans (cutL_len _ _ _) (Nat.le_succ _)) rfl
    · have g1 : binO .add (.fz (.lst (ends.map iD))) (.lst (fzs [D.int 5])) = some (.lst (fzs (ends.map iD ++ [D.int 5]))) := bin_addl rfl (lst_own _) (lim_of (by simp; omega))
      conv => arg 2; simp [hsub, cutL_map, one, two, tor, g1]
      exact finE (ends ++ [5]) _ _ (by simp) (by simp [iD])
    · have g1 := addD ((cutL ends none (some (j : Int))).map iD) [D.int 101] (by rw [List.length_map]; exact Nat.le_trans (e1 _ _) (by decide)) (by simp)
      have g2 := addD ((cutL ends none (some (j : Int))).map iD ++ [D.int 101]) ((cutL ends (some ((j : Int) + 1)) none).map iD) (by rw [List.length_append, List.length_map]; have := e1 none (some (j : Int)); simp; omega) (by rw [List.length_map]; exact Nat.le_trans (e1 _ _) (by decide))
      conv => arg 2; simp [hsub, cutL_map, one, two, tor, g1, g2]
      refine finE (cutL ends none (some (j : Int)) ++ [101] ++ cutL ends (some ((j : Int) + 1)) none) _ _ ?_ (by simp [iD])
      rw [cut_to, cut_from1, List.length_append, List.length_append, List.length_take, List.length_drop]
      simp
      omega
  · intro r hr
    simp [rowLI, rowO]
end Bc.Pl
set_option Elab.async false
set_option linter.all false
set_option maxRecDepth 100000
set_option maxHeartbeats 4000000
namespace Bc.Pl
open PySem PySem.Spec L2
theorem strs_map : ∀ ls : List (List Nat), strs? (ls.map .str) = some ls
  | [] => rfl
  | l :: ls => by rw [List.map_cons, strs?, strs_map ls]; rfl
theorem join_flat : ∀ ls : List (List Nat), TL.joinL [] ls = ls.flatten
  | [] => rfl
  | [l] => by simp [TL.joinL]
  | l :: m :: ls => by
    rw [TL.joinL, join_flat (m :: ls), List.flatten_cons]
    rfl
theorem sumLen_flat (ls : List (List Nat)) : sumLen ls = ls.flatten.length := by
  unfold sumLen
  rw [List.length_flatten]
theorem join_strs (ls : List (List Nat)) (h : ls.flatten.length ≤ lim) : smO .join [] [.lst (fzs (ls.map .str))] = some (.fz (.str ls.flatten)) := by
  show (match strs1? (.lst (fzs (ls.map .str))) with
    | some ss => smJoin [] ss
    | none => none) = _
  have e : strs1? (.lst (fzs (ls.map .str))) = some ls := by
    unfold strs1?
    rw [seq_own]
    exact strs_map ls
  rw [e]
  unfold smJoin
  simp only [sumLen_flat, join_flat, List.length_nil, Nat.mul_zero, Nat.add_zero, h, if_true]
theorem okLend_rowO (rs : List (List (Int × Int))) : okLends (rs.map rowO) = true := by
  have fz : ∀ ds : List D, okLends (fzs ds) = true := fun ds => by
    induction ds with
    | nil => rfl
    | cons d ds ih =>
      show okLends (.fz d :: fzs ds) = true
      rw [okLends, ih]
      rfl
  induction rs with
  | nil => rfl
  | cons r rs ih =>
    rw [List.map_cons, okLends, ih, rowO, okLend, fz]
    rfl
theorem okLend_fzs : ∀ ds : List D, okLends (fzs ds) = true
  | [] => rfl
  | d :: ds => by
    show okLends (.fz d :: fzs ds) = true
    rw [okLends, okLend_fzs ds]
    rfl
theorem noMuts_map {α : Type} {f : α → D} (h : ∀ a, noMut (f a) = true) : ∀ xs : List α, noMuts (xs.map f) = true
  | [] => rfl
  | x :: xs => by
    rw [List.map_cons, noMuts, h, noMuts_map h xs]
    rfl
theorem noMut_o (C : CI) : noMutO (.fz C.o) = some C.o := by
  have h1 : ∀ p, noMut (prI p) = true := fun p => rfl
  have h2 : ∀ r, noMut (rowTI r) = true := fun r => by
    rw [rowTI, noMut]
    exact noMuts_map h1 r
  have h3 : noMut C.o = true := by
    unfold CI.o CI.fs
    rw [noMut, noMuts, noMuts, noMuts, noMuts, noMut, noMut, noMut, noMuts_map h2, noMuts_map (fun _ => rfl)]
    rfl
  unfold noMutO
  show (match some C.o with
    | some d => if noMut d = true then some d else none
    | none => none) = _
  simp only [h3, if_true]
theorem ownAt_0 {σ : Sto} {i : Nat} {xs os : List O} (h : ownL σ i = some (.lst xs :: os)) : ownAt σ i (.fz (.int 0)) = some (.lst xs :: os, 0, xs) := by
  unfold ownAt
  rw [h]
  have e : ixN (O.lst xs :: os).length 0 = some 0 := by
    unfold ixN
    rw [if_pos (by omega), if_pos (by simp)]
    rfl
  have e2 : asInt? (.fz (.int 0)) = some 0 := rfl
  simp only [e2, e, List.getElem?_cons_zero]
theorem cmp_ne_self (d : D) (h : cokD 60 d = true) (e : eqD d d = true) : cmpO .ne (.fz d) (.fz d) = some false := by
  rw [cmp_ne _ _ (by simpa using h) (by simpa using h)]
  simp [e]
/-- a drawn code, its numbers as they are -/
def CD.ci (C : CD) : CI := ⟨C.letters, C.rows.map fun r => r.map fun p => ((p.1 : Int), (p.2 : Int)), C.ends.map fun e : Nat => Int.ofNat e⟩
theorem ci_d (C : CD) : C.d = .tup [.str C.ci.letters, .lst (C.ci.rows.map rowLI), .lst (C.ci.ends.map iD)] := by
  unfold CD.d CD.ci
  simp only [List.map_map]
  congr 3
  · congr 1
    refine List.map_congr_left fun r _ => ?_
    simp only [rowL, Function.comp, rowLI, List.map_map]
    rfl
theorem ci_wrong (C : CD) : wrongI C.ci = wrongC C := by
  unfold wrongI wrongC CD.ci
  have e : goalsI (C.rows.map fun r => r.map fun p => ((p.1 : Int), (p.2 : Int))) = goalsOf C.rows := by
    unfold goalsI goalsOf
    rw [List.map_map]
    refine List.map_congr_left fun r _ => ?_
    simp only [Function.comp, List.map_map]
    rfl
  simp only [e, List.length_map]
namespace K02
def T : Tb := { fns := [("Code", 8), ("_law_bent", 13), ("_law_bits", 10), ("_law_code", 11), ("_law_draw", 0), ("_law_letters", 9), ("_law_pick", 1), ("_law_refused", 14), ("_law_wrong", 12), ("check_rows", 7)], mts := [("__eq__", 12), ("__len__", 13)], cons := [], ers := [("BadCode", 0)], hds := [("BadCode", 0)], iss := [("Code", 0)] }
def tblL : List (Nat × Kn) := [(534, k_Code___eq__), (8, k_Code___init__), (535, k_Code___len__), (13, k_l_bent), (10, k_l_bits), (11, k_l_code), (0, k_l_draw), (9, k_l_letters), (1, k_l_pick), (14, k_l_refused), (12, k_l_wrong), (7, k_check_rows)]
def tbl (i : Nat) : Option Kn := tblL.lookup i
def mtL : List ((Nat × Nat) × Nat) := [((0, 12), 534), ((0, 13), 535)]
def mt (c m : Nat) : Option Nat := mtL.lookup (c, m)
def cl (c : Nat) : Bool := [0].contains c
def N_law : List Str := ["_law_script", "_law_pen_here", "_law_turn", "_law_code_here", "_law_change", "_law_due", "_law_alike", "_law_other", "_law_letters_here", "_law_rows", "_law_ends", "_law_given", "_law_last", "_law_again", "_law_sums", "_law_row", "_law_letter"]
def b_law : List IS := [.for_ .range1 [.bin .add (.con (.int 5)) (.blt .min2 [.con (.int 8), .blt .len [.var 0]])] (.nm 2) [.freeze 1, .asgT [8, 9, 10] (.call 11 [.var 1, .call 9 [.var 1, .bin .add (.con (.int 1)) (.call 0 [.var 1, .con (.int 3)])], .con (.int 6)]), .par [11, 12] [.lc .seq [.var 9] (.nm 15) [] (.blt .list [.var 15]) [15], .blt .list [.var 10]], .asgL [11, 12] 3 (.call 8 [.var 8, .var 11, .var 12]), .appi 11 (.con (.int 0)) (.tup [.con (.int 0), .con (.int 9)]), .app 11 (.lst []), .store 12 (.con (.int 0)) (.bin .add (.sub (.var 12) (.con (.int 0))) (.con (.int 1))), .freeze 3, .ife (.or_ (.cmp .ne (.fld (.var 3) 0) (.var 8)) (.or_ (.cmp .ne (.fld (.var 3) 1) (.blt .tuple [.lc .seq [.var 9] (.nm 15) [] (.blt .tuple [.var 15]) [15]])) (.cmp .ne (.fld (.var 3) 2) (.blt .tuple [.var 10])))) [.ret (.con (.bl false))] [], .freeze 3, .ife (.or_ (.cmp .ne (.olen (.var 3)) (.blt .len [.var 9])) (.or_ (.not_ (.oeq (.var 3) (.call 8 [.var 8, .fld (.var 3) 1, .fld (.var 3) 2]))) (.oeq (.var 3) (.tup [.var 8, .var 9, .var 10])))) [.ret (.con (.bl false))] [], .par [13, 14] [.var 9, .var 10], .freeze 1, .for_ .range1 [.bin .add (.con (.int 1)) (.call 0 [.var 1, .con (.int 2)])] (.nm 4) [.freeze 1, .asgT [13, 14] (.call 13 [.var 1, .var 13, .var 14])], .asg 5 (.call 12 [.var 8, .var 13, .var 14]), .ife (.cmp .ne (.call 14 [.var 8, .var 13, .var 14]) (.var 5)) [.ret (.con (.bl false))] [], .asg 6 (.cmp .eq (.tup [.var 13, .var 14]) (.tup [.var 9, .var 10])), .ife (.and_ (.cmp .isn (.var 5) (.con (.non))) (.cmp .ne (.oeq (.call 8 [.var 8, .var 13, .var 14]) (.var 3)) (.var 6))) [.ret (.con (.bl false))] [], .ife (.cmp .ne (.call 14 [.var 8, .lst [], .lst []]) (.con (.int 0))) [.ret (.con (.bl false))] [], .asg 7 (.sm .join (.con (.str [])) [.slice (.lc .seq [.con (.str [97, 98, 99, 100, 101, 102, 103, 104, 105, 106])] (.nm 16) [.cmp .notin (.var 16) (.var 8)] (.var 16) [16]) [] [.blt .len [.var 8]]]), .freeze 7, .ife (.oeq (.call 8 [.var 7, .var 9, .var 10]) (.var 3)) [.ret (.con (.bl false))] []], .ret (.con (.bl true))]
section
noncomputable abbrev S := fun n => semN tbl mt cl n
theorem hcl (n : Nat) : (S n).cl 0 = true := by rw [semN_cl]; rfl
theorem s_draw (n : Nat) : Draw ((S (n + 1)).fn n_l_draw) := by rw [semN_fn (k := k_l_draw) rfl]; exact draw_ok _
theorem s_pick (n : Nat) : Pick ((S (n + 2)).fn n_l_pick) := by rw [semN_fn (k := k_l_pick) rfl]; exact pick_ok (s_draw _)
theorem s_letters (n : Nat) : Letters ((S (n + 2)).fn n_l_letters) := by rw [semN_fn (k := k_l_letters) rfl]; exact letters_ok (s_draw _)
theorem s_bits (n : Nat) : Bits ((S (n + 3)).fn n_l_bits) := by rw [semN_fn (k := k_l_bits) rfl]; exact bits_ok (s_draw (n + 1)) (s_pick _)
theorem s_code (n : Nat) : Code ((S (n + 4)).fn n_l_code) := by rw [semN_fn (k := k_l_code) rfl]; exact code_ok (s_draw (n + 2)) (s_bits _)
theorem s_check (n : Nat) : CheckRows ((S (n + 1)).fn n_check_rows) := by rw [semN_fn (k := k_check_rows) rfl]; exact checkRows_ok _
theorem s_mk (n : Nat) : MkI ((S (n + 2)).fn n_Code___init__) := by rw [semN_fn (k := k_Code___init__) rfl]; exact mkI_ok (s_check _) (hcl _)
theorem s_eq (n : Nat) : CodeEq ((S (n + 1)).fn n_Code___eq__) := by rw [semN_fn (k := k_Code___eq__) rfl]; exact codeEq_ok (hcl _)
theorem s_len (n : Nat) : CodeLenI ((S (n + 1)).fn n_Code___len__) := by rw [semN_fn (k := k_Code___len__) rfl]; exact codeLenI_ok (hcl _)
theorem s_wrong (n : Nat) : Wrong ((S (n + 1)).fn n_l_wrong) := by rw [semN_fn (k := k_l_wrong) rfl]; exact wrong_ok _
theorem s_bent (n : Nat) : Bent ((S (n + 3)).fn n_l_bent) := by rw [semN_fn (k := k_l_bent) rfl]; exact bent_ok (s_draw (n + 1)) (s_pick _)
theorem hmt (n : Nat) : (S n).mt = mt := by cases n <;> rfl
theorem hmEq (n : Nat) : (S n).mt 0 mEq = some n_Code___eq__ := by rw [hmt]; rfl
theorem hmLen (n : Nat) : (S n).mt 0 mLen = some n_Code___len__ := by rw [hmt]; rfl
theorem s_refused (n : Nat) : Refused ((S (n + 3)).fn n_l_refused) := by rw [semN_fn (k := k_l_refused) rfl]; exact refused_ok (s_mk _) (hmLen _) (s_len _)
end
end K02
end Bc.Pl
set_option Elab.async false
set_option linter.all false
set_option maxRecDepth 100000
set_option maxHeartbeats 4000000
namespace Bc.Pl
open PySem PySem.Spec L2
namespace K02
def oddL : List Nat := [97, 98, 99, 100, 101, 102, 103, 104, 105, 106]
theorem odd_nd : oddL.Nodup := by decide
theorem law_plain (ns : List Int) (hns : ns.length ≤ 63) : Ok 1000000 (exs (S 4) b_law (lawSt N_law.length ns)) fun r => r.1 = .rt (.bl true) := by
  have hmin : (if (ns.length : Int) < 8 then (ns.length : Int) else 8) ≤ 8 := by split <;> omega
  have hmin0 : 0 ≤ (if (ns.length : Int) < 8 then (ns.length : Int) else 8) := by split <;> omega
  have hr : inRange (5 + (if (ns.length : Int) < 8 then (ns.length : Int) else 8)) = true := inRange_of (by omega) (by omega)
  unfold b_law lawSt N_law
  conv => arg 2; simp [List.replicate, items_r1 _ hr]
  generalize hk : (5 + (if (ns.length : Int) < 8 then (ns.length : Int) else 8)).toNat = k
  have hk8 : k ≤ 13 := by omega
  refine OkX.bind (c1 := 60000 * (intsFrom 0 k).length) (P := fun r => ∃ (o2 o3 o4 o5 o6 o7 o8 o9 o10 o11 o12 o13 o14 o15 o16 : Option O), r = (.nx, [some (.fz (.scr ns)), some (.fz .pen), o2, o3, o4, o5, o6, o7, o8, o9, o10, o11, o12, o13, o14, o15, o16])) ?_ (by rw [intsFrom_len]; omega) ?_
  · refine OkX.for (I := fun i σ => ∃ (o2 o3 o4 o5 o6 o7 o8 o9 o10 o11 o12 o13 o14 o15 o16 : Option O), σ = [some (.fz (.scr ns)), some (.fz .pen), o2, o3, o4, o5, o6, o7, o8, o9, o10, o11, o12, o13, o14, o15, o16]) ?_ ?_ ?_
    · exact ⟨_, _, _, _, _, _, _, _, _, _, _, _, _, _, _, rfl⟩
    · rintro i d σ hi ⟨o2, o3, o4, o5, o6, o7, o8, o9, o10, o11, o12, o13, o14, o15, o16, rfl⟩
      obtain ⟨rfl, hlt⟩ := intsFrom_get _ _ _ _ hi
      conv => arg 2; simp [forB]
      refine OkX.bind (s_draw 3 3 (by decide) (tenK_of (by decide))) (by decide) fun d ⟨k, e, hk⟩ => ?_
      subst e
      conv => arg 2; simp
      rw [show (1 + (k : Int)) = ((k + 1 : Nat) : Int) by omega]
      refine OkX.bind (s_letters 2 (k + 1) (by omega) (by omega)) (by decide) fun d ⟨s, e, hsl, hs⟩ => ?_
      subst e
      conv => arg 2; simp
      refine OkX.bind (s_code 0 s 6 (by omega) (by decide) (by decide)) (by decide) fun d ⟨C, e, hC⟩ => ?_
      subst e
      have hW : C.Wf := hC.wf (by omega) (by decide)
      have hw0 : wrongI C.ci = none := by rw [ci_wrong]; exact hW.right
      have hd := ci_d C
      have hs0 : C.ci.letters = s := hC.let_
      have hR1 : 1 ≤ C.ci.rows.length := by
        show 1 ≤ (C.rows.map _).length
        rw [List.length_map]
        exact hC.pos
      have hR6 : C.ci.rows.length ≤ 6 := by
        show (C.rows.map _).length ≤ 6
        rw [List.length_map]
        exact hC.most
      have hEl : C.ci.ends.length = C.ci.rows.length := by
        show (C.ends.map _).length = (C.rows.map _).length
        rw [List.length_map, List.length_map]
        exact hC.ends_
      have hrl : ∀ r ∈ C.ci.rows, r.length ≤ 3 := fun r hr => by
        obtain ⟨r', h1, rfl⟩ := List.mem_map.mp hr
        rw [List.length_map, (hC.rows_ r' h1).1]
        omega
      rw [hd]
      generalize C.ci = I at hw0 hs0 hR1 hR6 hEl hrl
      clear hd hC hW
      obtain ⟨s', R, Es⟩ := I
      simp only at hs0 hR1 hR6 hEl hrl
      subst hs0
      have okl : okS s' = true := hs.ok
      obtain ⟨r0, Rt, hRc⟩ : ∃ r0 Rt, R = r0 :: Rt := by
        cases R with
        | nil => simp at hR1
        | cons r0 Rt => exact ⟨_, _, rfl⟩
      obtain ⟨e0, Et, hEc⟩ : ∃ e0 Et, Es = e0 :: Et := by
        cases Es with
        | nil =>
          simp at hEl
          omega
        | cons e0 Et => exact ⟨_, _, rfl⟩
      obtain ⟨I, hI⟩ : ∃ I : CI, I = ⟨s', R, Es⟩ := ⟨_, rfl⟩
      have hRl : R.length ≤ lim := lim_of (by omega)
      have two : 2 ≤ lim := lim_of (by decide)
      have three : 3 ≤ lim := lim_of (by decide)
      have mk : ∀ (C : CI) (g e : D) (gs : List D), Sq g gs → SqPI gs C.rows → Sq e (C.ends.map iD) → C.letters.length ≤ 1000 → C.rows.length ≤ 1000 → (∀ r ∈ C.rows, r.length ≤ 1000) → wrongI C = none → (S 4).fn 8 [.str C.letters, g, e] = M.ret C.o := fun C g e gs q1 q2 q3 q4 q5 q6 q7 => by
        have := s_mk 2 C g e gs q1 q2 q3 (lim_of q4) (fun r hr => lim_of (q6 r hr)) (lim_of q5)
        rw [q7] at this
        exact this
      have hr3 : ∀ r ∈ R, r.length ≤ 1000 := fun r hr => by have := hrl r hr; omega
      have hmk : (S 4).fn 8 [.str s', .lst (R.map rowLI), .lst (Es.map iD)] = M.ret I.o := by
        rw [hI]
        exact mk ⟨s', R, Es⟩ _ _ _ (.inl rfl) (SqPI.lists R) (.inl rfl) (by simp only; omega) (by simp only; omega) hr3 hw0
      have hmk2 : (S 4).fn 8 [.str s', .tup (R.map rowTI), .tup (Es.map iD)] = M.ret I.o := by
        rw [hI]
        exact mk ⟨s', R, Es⟩ _ _ _ (.inr rfl) (SqPI.tups R) (.inr rfl) (by simp only; omega) (by simp only; omega) hr3 hw0
      have hcl0 : cl 0 = true := rfl
      have tor : (O.toD ∘ rowO) = rowLI := by
        funext r
        simp [rowO, rowLI]
      have f0 : fldO cl 0 (.fz I.o) = some (.fz (.str s')) := by rw [hI]; exact fldI0 _ hcl0
      have f1 : fldO cl 1 (.fz I.o) = some (.fz (.tup (R.map rowTI))) := by rw [hI]; exact fldI1 _ hcl0
      have f2 : fldO cl 2 (.fz I.o) = some (.fz (.tup (Es.map iD))) := by rw [hI]; exact fldI2 _ hcl0
      have hlcO : lcRun (fun d => ((M.of (listO (O.fz d))).bind fun o => M.ret (some o)).safe) (R.map rowLI) = M.ret (R.map rowO) := lcOwn fun r _ => by simp [rowLI, rowO]
      have hlcT : lcRun (fun d => ((M.of (tupleO (O.fz d))).bind fun o => M.ret (some o)).safe) (R.map rowLI) = M.ret (fzs (R.map rowTI)) := lcm fun r _ => by simp [rowLI, rowTI]
      have hat0 : atI (Es.map iD) 0 = some (.int e0) := by rw [hEc]; exact at0 _ _
      have hst0 : ∀ d, storeF (.int 0) d (.lst (fzs (Es.map iD))) = some (.lst ((fzs (Es.map iD)).set 0 (.fz d))) := fun d => store_own (j := 0) (by rw [hEc]; simp) d
      have hown : ∀ σ : Sto, ownL σ 11 = some (R.map rowO) → ownAt σ 11 (.fz (.int 0)) = some (R.map rowO, 0, fzs (r0.map prI)) := fun σ h => by
        rw [hRc] at h ⊢
        exact ownAt_0 h
      have hr0 : (r0.map prI).length < lim := by
        have := hr3 r0 (by rw [hRc]; simp)
        rw [List.length_map]
        unfold lim
        omega
      have happ : ∀ x : O, appL ((R.map rowO).set 0 x) (D.lst []) = some (.lst ((R.map rowO).set 0 x ++ [.fz (.lst [])])) := fun x => appL_of (by rw [List.length_set, List.length_map]; unfold lim; omega)
      have cs := cmp_ne_str s' s' okl okl
      have c1 := cmp_ne_self (.tup (R.map rowTI)) (by rw [cok_tup]; exact coks_rowTI 57 R) (by rw [eqD_tmap eqD_rowTI]; simp)
      have c2 := cmp_ne_self (.tup (Es.map iD)) (by rw [cok_tup]; exact coks_iD _ _) (by rw [eqD_tmap eqD_iD]; simp)
      have oI : okS I.letters = true := by rw [hI]; exact okl
      have hlen : olenM (S 4) (.fz I.o) = M.ret (.fz (.int (R.length : Nat))) := by
        rw [hI]
        exact olen_of (hmLen 4) (s_len 3) _ (by simp only; omega)
      have heq := oeq_of (hcl 4) (hmEq 4) (s_eq 3) I I oI oI
      have heqt := fun ds => oeq_tup (hcl 4) (hmEq 4) (s_eq 3) I ds
      conv => arg 2; simp [hlcO, hRl, lendAll, lend1, ownL, okLend_rowO, okLend_fzs, rowO_D, hmk, noMut_o, hown, two, appL_fz hr0, happ, hat0, hst0, tor, f0, cs, f1, hlcT, c1, f2, c2, hlen, hmk2, heq, heqt, three]
      generalize ((List.map rowO R).set 0 (O.lst (fzs (List.map prI r0 ++ [D.tup [D.int 0, D.int 9]]))) ++ [O.fz (D.lst [])]) = g11
      generalize ((fzs (List.map iD Es)).set 0 (O.fz (D.int (e0 + 1)))) = g12
      refine OkX.bind (s_draw 3 2 (by decide) (tenK_of (by decide))) (by decide) fun d ⟨k2, e, hk2⟩ => ?_
      subst e
      have hrb : inRange (1 + (k2 : Int)) = true := inRange_of (by omega) (by omega)
      have hn2 : (1 + (k2 : Int)).toNat = k2 + 1 := by omega
      conv => arg 2; simp [items_r1 _ hrb, hn2]
      refine OkX.bind (c1 := 10 * (intsFrom 0 (k2 + 1)).length) (P := fun r => ∃ (R1 : List (List (Int × Int))) (E1 : List Int) (o4 : Option O), r = (.nx, [some (O.fz (D.scr ns)), some (O.fz D.pen), some (O.fz (D.int ↑i)), some (O.fz I.o), o4, o5, o6, o7, some (O.fz (D.str s')), some (O.fz (D.lst (List.map rowLI R))), some (O.fz (D.lst (List.map iD Es))), some (O.lst g11), some (O.lst g12), some (O.fz (D.lst (List.map rowLI R1))), some (O.fz (D.lst (List.map iD E1))), o15, o16]) ∧ R1.length = R.length ∧ (∀ r ∈ R1, r.length ≤ 5) ∧ E1.length ≤ 8) ?_ (by rw [intsFrom_len]; omega) ?_
      · refine OkX.for (I := fun j σ => ∃ (R1 : List (List (Int × Int))) (E1 : List Int) (o4 : Option O), σ = [some (O.fz (D.scr ns)), some (O.fz D.pen), some (O.fz (D.int ↑i)), some (O.fz I.o), o4, o5, o6, o7, some (O.fz (D.str s')), some (O.fz (D.lst (List.map rowLI R))), some (O.fz (D.lst (List.map iD Es))), some (O.lst g11), some (O.lst g12), some (O.fz (D.lst (List.map rowLI R1))), some (O.fz (D.lst (List.map iD E1))), o15, o16] ∧ R1.length = R.length ∧ (∀ r ∈ R1, r.length ≤ 3 + j) ∧ E1.length ≤ 6 + j) ?_ ?_ ?_
        · exact ⟨R, Es, _, rfl, rfl, hrl, by omega⟩
        · rintro j d σ hj ⟨R1, E1, o4, rfl, q1, q2, q3⟩
          obtain ⟨rfl, hjl⟩ := intsFrom_get _ _ _ _ hj
          conv => arg 2; simp [forB]
          refine OkX.bind (s_bent 1 R1 E1 (3 + j) (by omega) (by omega) (by omega) q2 (by omega)) (by decide) fun d ⟨R2, E2, e, w1, w2, w3⟩ => ?_
          subst e
          conv => arg 2; simp
          exact OkX.ret ⟨R2, E2, _, rfl, by rw [w1, q1], fun r hr => by have := w2 r hr; omega, by omega⟩
        · rintro σ ⟨R1, E1, o4, rfl, q1, q2, q3⟩
          rw [intsFrom_len] at q2 q3
          exact ⟨R1, E1, _, rfl, q1, fun r hr => by have := q2 r hr; omega, by omega⟩
      · rintro r ⟨R1, E1, o4, rfl, q1, q2, q3⟩
        obtain ⟨J, hJ⟩ : ∃ J : CI, J = ⟨s', R1, E1⟩ := ⟨_, rfl⟩
        have hne : R1 ≠ [] := fun e => by
          rw [e] at q1
          simp at q1
          omega
        have hwr : (S 4).fn 12 [.str s', .lst (R1.map rowLI), .lst (E1.map iD)] = M.ret (optD (wrongI J)) := by
          have := s_wrong 3 ⟨s', R1, E1⟩ (lim_of (by simp only; omega)) (by simp only; omega) (fun r hr => lim_of (by have := q2 r hr; omega))
          rw [lawWrong_eq hne] at this
          rw [hJ]
          exact this
        have hrf : (S 4).fn 14 [.str s', .lst (R1.map rowLI), .lst (E1.map iD)] = M.ret (optD (wrongI J)) := by
          have := s_refused 1 ⟨s', R1, E1⟩ (by simp only; omega) (by simp only; omega) (fun r hr => by have := q2 r hr; omega)
          rw [hJ]
          exact this
        have hrf0 : (S 4).fn 14 [.str s', .lst [], .lst []] = M.ret (.int 0) := s_refused 1 ⟨s', [], []⟩ (by simp only; omega) (by simp) (by simp)
        have hopt : ∀ w : Option Int, cmpO .ne (.fz (optD w)) (.fz (optD w)) = some false := fun w => cmp_ne_self _ (by cases w <;> simp [optD]) (by cases w <;> simp [optD])
        have hal : cmpO .eq (.fz (.tup [.lst (R1.map rowLI), .lst (E1.map iD)])) (.fz (.tup [.lst (R.map rowLI), .lst (Es.map iD)])) = some (decide (R1 = R) && decide (E1 = Es)) := by
          have k1 : ∀ (R : List (List (Int × Int))) (E : List Int), cokD 60 (.tup [.lst (R.map rowLI), .lst (E.map iD)]) = true := fun R E => by
            rw [cok_tup, coks_all]
            simp only [List.all_cons, List.all_nil, cok_lst, Bool.and_true, Bool.and_eq_true]
            exact ⟨coks_rowLI 56 _, coks_iD _ _⟩
          rw [cmp_eq _ _ (by simpa using k1 R1 E1) (by simpa using k1 R Es)]
          simp only [toD_fz, eqD_tup_cons, eqD_tup_nil, eqD_lmap eqD_rowLI, eqD_lmap eqD_iD, Bool.and_true]
        have hdec : decide (J = I) = (decide (R1 = R) && decide (E1 = Es)) := by
          rw [hJ, hI]
          simp only [CI.mk.injEq, true_and]
          by_cases h1 : R1 = R <;> by_cases h2 : E1 = Es <;> simp [h1, h2]
        have hbl : ∀ b, cmpO .ne (.fz (.bl b)) (.fz (.bl b)) = some false := fun b => cmp_ne_self _ (by simp) (by rw [eqD_bl]; simp)
        have oJ : okS J.letters = true := by rw [hJ]; exact okl
        have hmid : (if (optD (wrongI J)).isNon = true then M.bind ((S 4).fn 8 [D.str s', D.lst (List.map rowLI R1), D.lst (List.map iD E1)]) fun a => M.bind (oeqM (S 4) (O.fz a) (O.fz I.o)) fun a => M.bind (M.of (Option.map (fun c => O.fz (D.bl c)) (cmpO CO.ne a (O.fz (D.bl (decide (R1 = R) && decide (E1 = Es))))))) fun y => M.bind (asBl y) fun e => M.ret (O.fz (D.bl e)) else M.ret (O.fz (D.bl false))) = M.ret (O.fz (D.bl false)) := by
          cases hw : wrongI J with
          | some i => rfl
          | none =>
            have m1 : (S 4).fn 8 [D.str s', D.lst (List.map rowLI R1), D.lst (List.map iD E1)] = M.ret J.o := by
              rw [hJ] at hw ⊢
              exact mk ⟨s', R1, E1⟩ _ _ _ (.inl rfl) (SqPI.lists R1) (.inl rfl) (by simp only; omega) (by simp only; omega) (fun r hr => by have := q2 r hr; omega) hw
            rw [if_pos (show (optD none).isNon = true from rfl), m1, M.bind_ret, oeq_of (hcl 4) (hmEq 4) (s_eq 3) J I oJ oI, M.bind_ret, hdec, hbl]
            rfl
        have s3 : s'.length ≤ 3 := by omega
        have hL10 : [D.str [97], D.str [98], D.str [99], D.str [100], D.str [101], D.str [102], D.str [103], D.str [104], D.str [105], D.str [106]] = oddL.map ch := rfl
        obtain ⟨fl, hfl⟩ : ∃ fl : List Nat, fl = oddL.filter (fun c => !decide (c ∈ s')) := ⟨_, rfl⟩
        obtain ⟨ot, hot⟩ : ∃ ot : List Nat, ot = fl.take s'.length := ⟨_, rfl⟩
        have hfl7 : 7 ≤ fl.length := by
          have := nodup_le (s := s' ++ fl) odd_nd fun c hc => by
            by_cases q : c ∈ s'
            · exact List.mem_append_left _ q
            · exact List.mem_append_right _ (by rw [hfl]; exact List.mem_filter.mpr ⟨hc, by simp [q]⟩)
          rw [List.length_append] at this
          have h10 : oddL.length = 10 := rfl
          omega
        have hotl : ot.length = s'.length := by
          rw [hot, List.length_take]
          omega
        have hots : ∀ c ∈ ot, c ∉ s' ∧ c ∈ oddL := fun c hc => by
          rw [hot] at hc
          have h2 := List.mem_of_mem_take hc
          rw [hfl] at h2
          obtain ⟨h3, h4⟩ := List.mem_filter.mp h2
          exact ⟨by simpa using h4, h3⟩
        have hoto : okS ot = true := okS_mem.mpr fun c hc => (by decide : ∀ c ∈ oddL, c < 0x110000) c (hots c hc).2
        have hjoin : smO .join [] [.lst (fzs (ot.map ch))] = some (.fz (.str ot)) := by
          have e1 : ot.map ch = (ot.map fun c => [c]).map .str := by rw [List.map_map]; rfl
          have e2 : (ot.map fun c => [c]).flatten = ot := by
            clear hotl hots hoto hot e1
            induction ot with
            | nil => rfl
            | cons c l ih =>
              rw [List.map_cons, List.flatten_cons, ih]
              rfl
          rw [e1, join_strs _ (by rw [e2]; exact lim_of (by omega)), e2]
        have hw2 : wrongI ⟨ot, R, Es⟩ = none := by
          unfold wrongI at hw0 ⊢
          simp only at hw0 ⊢
          rw [hotl]
          exact hw0
        obtain ⟨G, hG⟩ : ∃ G : CI, G = ⟨ot, R, Es⟩ := ⟨_, rfl⟩
        have hmkG : (S 4).fn 8 [.str ot, .lst (R.map rowLI), .lst (Es.map iD)] = M.ret G.o := by
          rw [hG]
          exact mk ⟨ot, R, Es⟩ _ _ _ (.inl rfl) (SqPI.lists R) (.inl rfl) (by simp only; omega) (by simp only; omega) hr3 hw2
        have oG : okS G.letters = true := by rw [hG]; exact hoto
        have hGI : ¬ G = I := fun e => by
          rw [hG, hI] at e
          have e' : ot = s' := (CI.mk.injEq .. ▸ e).1
          cases hc : ot with
          | nil =>
            rw [hc] at hotl
            simp at hotl
            omega
          | cons c l =>
            have := (hots c (by rw [hc]; simp)).1
            rw [← e', hc] at this
            simp at this
        have heqG := oeq_of (hcl 4) (hmEq 4) (s_eq 3) G I oG oI
        conv => arg 2; simp [hwr, hrf, hopt, two, hal]
        rw [hmid]
        conv => arg 2; simp [hrf0]
        rw [hL10, lcf (g := ch) (q := fun c => !decide (c ∈ s'))]
        · rw [← hfl]
          have h11 : 10 ≤ lim := lim_of (by decide)
          have hsl2 : s'.length ≤ lim := lim_of (by omega)
          conv => arg 2; simp [h11, len_str _ hsl2, cut_to]
          rw [← List.map_take, ← hot, hjoin]
          conv => arg 2; simp [hmkG, heqG, hGI]
          exact OkX.ret ⟨_, _, _, _, _, _, _, _, _, _, _, _, _, _, _, rfl⟩
        · intro x hx
          by_cases hx2 : x ∈ s' <;> simp [hx2]
    · rintro σ ⟨o2, o3, o4, o5, o6, o7, o8, o9, o10, o11, o12, o13, o14, o15, o16, rfl⟩
      exact ⟨_, _, _, _, _, _, _, _, _, _, _, _, _, _, _, rfl⟩
  · rintro r ⟨o2, o3, o4, o5, o6, o7, o8, o9, o10, o11, o12, o13, o14, o15, o16, rfl⟩
    conv => arg 2; simp
    exact OkX.ret rfl
end K02
end Bc.Pl
set_option Elab.async false
set_option linter.all false
set_option maxRecDepth 100000
set_option maxHeartbeats 4000000
namespace Bc.Pl.K02
open PySem PySem.Spec L2 PySem.W Bc
theorem law_true (ns : List Int) (hn : ns.length ≤ 63) : ∃ σ' p', exs (semN tbl mt cl 4) b_law (lawSt N_law.length ns) (penOf ns) = some (.ok (.rt (.bl true), σ'), p') := law_of (n := N_law.length) law_plain (by decide +kernel) ns hn
def top (i : Nat) : Stmt := PySem.Challenge.pw_bestcodes_k02_codes.main.body.getD i (.Pass ⟨0, 0, 0, 0⟩)
abbrev st_Code___eq__ : Stmt := inClass (top 20) 1
theorem ok_Code___eq__ : StOk T st_Code___eq__ "__eq__" "Code.__eq__" N_Code___eq__ ["self", "other"] b_Code___eq__ := ⟨fsB_ok (by decide +kernel), by decide +kernel, fun _ _ _ _ _ _ us hl => match us, hl with | [_, _], _ => rfl⟩
abbrev st_Code___init__ : Stmt := inClass (top 20) 0
theorem ok_Code___init__ : StOk T st_Code___init__ "__init__" "Code.__init__" N_Code___init__ ["self", "values", "rows", "ends"] b_Code___init__ := ⟨fsB_ok (by decide +kernel), by decide +kernel, fun _ _ _ _ _ _ us hl => match us, hl with | [_, _, _, _], _ => rfl⟩
abbrev st_Code___len__ : Stmt := inClass (top 20) 2
theorem ok_Code___len__ : StOk T st_Code___len__ "__len__" "Code.__len__" N_Code___len__ ["self"] b_Code___len__ := ⟨fsB_ok (by decide +kernel), by decide +kernel, fun _ _ _ _ _ _ us hl => match us, hl with | [_], _ => rfl⟩
abbrev st_l_bent : Stmt := top 31
theorem ok_l_bent : StOk T st_l_bent "_law_bent" "_law_bent" N_l_bent ["_law_pen_here", "_law_rows", "_law_ends"] b_l_bent := ⟨fsB_ok (by decide +kernel), by decide +kernel, fun _ _ _ _ _ _ us hl => match us, hl with | [_, _, _], _ => rfl⟩
abbrev st_l_bits : Stmt := top 27
theorem ok_l_bits : StOk T st_l_bits "_law_bits" "_law_bits" N_l_bits ["_law_pen_here"] b_l_bits := ⟨fsB_ok (by decide +kernel), by decide +kernel, fun _ _ _ _ _ _ us hl => match us, hl with | [_], _ => rfl⟩
abbrev st_l_code : Stmt := top 28
theorem ok_l_code : StOk T st_l_code "_law_code" "_law_code" N_l_code ["_law_pen_here", "_law_letters_here", "_law_most"] b_l_code := ⟨fsB_ok (by decide +kernel), by decide +kernel, fun _ _ _ _ _ _ us hl => match us, hl with | [_, _, _], _ => rfl⟩
abbrev st_l_draw : Stmt := top 24
theorem ok_l_draw : StOk T st_l_draw "_law_draw" "_law_draw" N_l_draw ["_law_pen_here", "_law_many"] b_l_draw := ⟨fsB_ok (by decide +kernel), by decide +kernel, fun _ _ _ _ _ _ us hl => match us, hl with | [_, _], _ => rfl⟩
abbrev st_l_letters : Stmt := top 26
theorem ok_l_letters : StOk T st_l_letters "_law_letters" "_law_letters" N_l_letters ["_law_pen_here", "_law_many"] b_l_letters := ⟨fsB_ok (by decide +kernel), by decide +kernel, fun _ _ _ _ _ _ us hl => match us, hl with | [_, _], _ => rfl⟩
abbrev st_l_pick : Stmt := top 25
theorem ok_l_pick : StOk T st_l_pick "_law_pick" "_law_pick" N_l_pick ["_law_pen_here", "_law_items"] b_l_pick := ⟨fsB_ok (by decide +kernel), by decide +kernel, fun _ _ _ _ _ _ us hl => match us, hl with | [_, _], _ => rfl⟩
abbrev st_l_refused : Stmt := top 32
theorem ok_l_refused : StOk T st_l_refused "_law_refused" "_law_refused" N_l_refused ["_law_letters_here", "_law_rows", "_law_ends"] b_l_refused := ⟨fsB_ok (by decide +kernel), by decide +kernel, fun _ _ _ _ _ _ us hl => match us, hl with | [_, _, _], _ => rfl⟩
abbrev st_l_wrong : Stmt := top 30
theorem ok_l_wrong : StOk T st_l_wrong "_law_wrong" "_law_wrong" N_l_wrong ["_law_letters_here", "_law_rows", "_law_ends"] b_l_wrong := ⟨fsB_ok (by decide +kernel), by decide +kernel, fun _ _ _ _ _ _ us hl => match us, hl with | [_, _, _], _ => rfl⟩
abbrev st_check_rows : Stmt := top 19
theorem ok_check_rows : StOk T st_check_rows "check_rows" "check_rows" N_check_rows ["many", "goals", "ends"] b_check_rows := ⟨fsB_ok (by decide +kernel), by decide +kernel, fun _ _ _ _ _ _ us hl => match us, hl with | [_, _, _], _ => rfl⟩
abbrev st_law : Stmt := top 33
abbrev st_pen : Stmt := top 23
abbrev st_er0 : Stmt := inClass (top 3) 0
theorem ok_er0 : ErrS PySem.Challenge.pw_bestcodes_k02_codes "BadCode.__init__" st_er0 "self" "state" "state" := ⟨⟨_, _, rfl, by decide +kernel, by decide +kernel⟩, ⟨_, rfl, rfl⟩, NdefX.nscope_by (by decide +kernel), by decide +kernel, ⟨by decide +kernel, by decide +kernel, by decide +kernel, by decide +kernel⟩, by decide +kernel, fun _ _ _ _ _ us hl => match us, hl with | [_, _], _ => rfl⟩
abbrev lawRest : List Stmt := (isLawDef (PySem.Challenge.pw_bestcodes_k02_codes.main.body.getD 33 (.Pass ⟨0, 0, 0, 0⟩))).getD []
theorem law_rest : isLawDef st_law = some lawRest := isSome_getD (by decide +kernel)
theorem law_body : okSs (Bc.okS T N_law 60 (defScope st_law) (csOf (defScope st_law))) lawRest b_law = true := by decide +kernel
theorem all_mk {w : World} {K : PySem.W.Frag} {h : Heap} {mg : Str → Option Value} {fa : Addr} (X : K.In h) (G : h.Ns mainGlobals mg) (hfa : mg "law" = some (.ref fa)) {f_Code___eq__ f_Code___init__ f_Code___len__ f_l_bent f_l_bits f_l_code f_l_draw f_l_letters f_l_pick f_l_refused f_l_wrong f_check_rows C0 E0 E8 f_pen f_law : Addr}
    (a_l_bent : nsIn K mainGlobals "_law_bent" = some (some (.ref f_l_bent))) (F_l_bent : FnK K "_law_bent" "_law_bent" st_l_bent f_l_bent)
    (a_l_bits : nsIn K mainGlobals "_law_bits" = some (some (.ref f_l_bits))) (F_l_bits : FnK K "_law_bits" "_law_bits" st_l_bits f_l_bits)
    (a_l_code : nsIn K mainGlobals "_law_code" = some (some (.ref f_l_code))) (F_l_code : FnK K "_law_code" "_law_code" st_l_code f_l_code)
    (a_l_draw : nsIn K mainGlobals "_law_draw" = some (some (.ref f_l_draw))) (F_l_draw : FnK K "_law_draw" "_law_draw" st_l_draw f_l_draw)
    (a_l_letters : nsIn K mainGlobals "_law_letters" = some (some (.ref f_l_letters))) (F_l_letters : FnK K "_law_letters" "_law_letters" st_l_letters f_l_letters)
    (a_l_pick : nsIn K mainGlobals "_law_pick" = some (some (.ref f_l_pick))) (F_l_pick : FnK K "_law_pick" "_law_pick" st_l_pick f_l_pick)
    (a_l_refused : nsIn K mainGlobals "_law_refused" = some (some (.ref f_l_refused))) (F_l_refused : FnK K "_law_refused" "_law_refused" st_l_refused f_l_refused)
    (a_l_wrong : nsIn K mainGlobals "_law_wrong" = some (some (.ref f_l_wrong))) (F_l_wrong : FnK K "_law_wrong" "_law_wrong" st_l_wrong f_l_wrong)
    (a_check_rows : nsIn K mainGlobals "check_rows" = some (some (.ref f_check_rows))) (F_check_rows : FnK K "check_rows" "check_rows" st_check_rows f_check_rows)
    (a_C0 : nsIn K mainGlobals "Code" = some (some (.ref C0))) (k_C0 : ClsK K C0 ["letters", "rows", "ends"])
    (m_Code___eq__ : findIn K (.ref C0) "__eq__" = some (some (.ref f_Code___eq__))) (i_Code___eq__ : isFn K (.ref f_Code___eq__) = true) (F_Code___eq__ : FnK K "__eq__" "Code.__eq__" st_Code___eq__ f_Code___eq__)
    (m_Code___init__ : findIn K (.ref C0) "__init__" = some (some (.ref f_Code___init__))) (i_Code___init__ : isFn K (.ref f_Code___init__) = true) (F_Code___init__ : FnK K "__init__" "Code.__init__" st_Code___init__ f_Code___init__)
    (m_Code___len__ : findIn K (.ref C0) "__len__" = some (some (.ref f_Code___len__))) (i_Code___len__ : isFn K (.ref f_Code___len__) = true) (F_Code___len__ : FnK K "__len__" "Code.__len__" st_Code___len__ f_Code___len__)
    (a_E0 : nsIn K mainGlobals "BadCode" = some (some (.ref E0)))
    (k_E0 : ErrK PySem.Challenge.pw_bestcodes_k02_codes K "BadCode.__init__" st_er0 E0 "state")
    (a_E8 : nsIn K mainGlobals "CodeError" = some (some (.ref E8)))
    (x_0_0 : exmOne K (.ref E0) (.ref E0) = some true)
    (x_8_0 : exmOne K (.ref E8) (.ref E0) = some false)
    (y_0 : XfC K E0) (z_0 : findIn K (.ref E0) "state" = some none)
    (isb_0 : IsaB K C0)
    (ik_0_0 : kitOne K (.ref C0) (.ref C0) = some true)
    (ty_0 : TyK K C0)
    (n_0_t : notFirst K C0 (.type "tuple") = true) (n_0_s : notFirst K C0 (.type "str") = true)
    (n_0_0 : notFirst K C0 (.ref C0) = true)
    (b_range : nsIn K mainGlobals "range" = some none)
    (b_enumerate : nsIn K mainGlobals "enumerate" = some none)
    (b_zip : nsIn K mainGlobals "zip" = some none)
    (b_len : nsIn K mainGlobals "len" = some none)
    (b_list : nsIn K mainGlobals "list" = some none)
    (b_tuple : nsIn K mainGlobals "tuple" = some none)
    (b_int : nsIn K mainGlobals "int" = some none)
    (b_sum : nsIn K mainGlobals "sum" = some none)
    (b_max : nsIn K mainGlobals "max" = some none)
    (b_min : nsIn K mainGlobals "min" = some none)
    (b_all : nsIn K mainGlobals "all" = some none)
    (b_any : nsIn K mainGlobals "any" = some none)
    (b_sorted : nsIn K mainGlobals "sorted" = some none)
    (b_isinstance : nsIn K mainGlobals "isinstance" = some none)
    (b_bool : nsIn K mainGlobals "bool" = some none)
    (b_super : nsIn K mainGlobals "super" = some none)
    (a_pen : nsIn K mainGlobals "_law_pen" = some (some (.ref f_pen))) (F_pen : FnK K "_law_pen" "_law_pen" st_pen f_pen) (a_law : nsIn K mainGlobals "law" = some (some (.ref f_law))) (F_law : FnK K "law" "law" st_law f_law) :
    ∃ fd : FuncData, (∀ (s : Shared) (v : Value), BindsTo s fd ⟨[v], []⟩ [("_law_script", v)]) ∧ ∀ base : Heap, K.In base → base.Ns mainGlobals mg → FnOk PySem.Challenge.pw_bestcodes_k02_codes w K mg base (L2.CX PySem.Challenge.pw_bestcodes_k02_codes w) 11 fa fd ["_law_script"] (spLaw K) := by
  have e := hfa.symm.trans (mg_of X G a_law)
  cases e
  obtain ⟨fdl, Fl⟩ := F_law
  obtain ⟨fdp, Fp⟩ := F_pen
  let g : GE := ⟨K, 0, adr [(0, C0)] 0, adr [(0, E0), (8, E8)] E8, 0⟩
  have fa0 : ∀ pa x : Nat, Facts PySem.Challenge.pw_bestcodes_k02_codes ((g.at_ pa).me x) T cl K mg := fun pa x => {
    fk := rfl
    con := fun nm d h => by cases h
    blt := (all_cons' (mg_none_of X G b_range) (all_cons' (mg_none_of X G b_enumerate) (all_cons' (mg_none_of X G b_zip) (all_cons' (mg_none_of X G b_len) (all_cons' (mg_none_of X G b_list) (all_cons' (mg_none_of X G b_tuple) (all_cons' (mg_none_of X G b_int) (all_cons' (mg_none_of X G b_sum) (all_cons' (mg_none_of X G b_max) (all_cons' (mg_none_of X G b_min) (all_cons' (mg_none_of X G b_all) (all_cons' (mg_none_of X G b_any) (all_cons' (mg_none_of X G b_sorted) (all_cons' (mg_none_of X G b_isinstance) (all_cons' (mg_none_of X G b_bool) all_nil')))))))))))))))
    cls := fun c hc => ((all_cons' (⟨k_C0.cl, (all_cons' (k_C0.na _ (by decide +kernel)) (all_cons' (k_C0.na _ (by decide +kernel)) (all_cons' (k_C0.na _ (by decide +kernel)) all_nil')))⟩) all_nil') : ∀ c ∈ ([0] : List Nat), Cls K (adr [(0, C0)] 0 c) ∧ ∀ f ∈ fidT c, NoAttr K (adr [(0, C0)] 0 c) (fnameT f)) c (List.contains_iff_mem.mp hc)
    eqf := fun _ c hc => ((all_cons' (⟨n_0_t, n_0_s, fun c2 hc2 => ((all_cons' (n_0_0) all_nil') : ∀ c2 ∈ ([0] : List Nat), notFirst K C0 (.ref (adr [(0, C0)] 0 c2)) = true) c2 (List.contains_iff_mem.mp hc2)⟩) all_nil') : ∀ c ∈ ([0] : List Nat), notFirst K (adr [(0, C0)] 0 c) (.type "tuple") = true ∧ notFirst K (adr [(0, C0)] 0 c) (.type "str") = true ∧ ∀ c2 : Nat, cl c2 = true → notFirst K (adr [(0, C0)] 0 c) (.ref (adr [(0, C0)] 0 c2)) = true) c (List.contains_iff_mem.mp hc)
    isa := fun nm c h => ((all_cons' (⟨mg_of X G a_C0, isb_0, fun c2 hc2 => ((all_cons' (⟨ik_0_0, ty_0, k_C0.cl⟩) all_nil') : ∀ c2 ∈ ([0] : List Nat), kitOne K (.ref (adr [(0, C0)] 0 c2)) (.ref C0) = some (decide (c2 = 0)) ∧ TyK K (adr [(0, C0)] 0 c2) ∧ Cls K (adr [(0, C0)] 0 c2)) c2 (List.contains_iff_mem.mp hc2)⟩) all_nil') : ∀ p ∈ T.iss, IsaF K mg ((g.at_ pa).me x) cl p.2 p.1) (nm, c) (look_mem h)
    ers := fun nm c h => ((all_cons' (⟨mg_of X G a_E0, (errF_of k_E0 ok_er0 (mg_none_of X G b_super)).imp fun _ h => ⟨"state", h, rfl⟩⟩) all_nil') : ∀ p ∈ T.ers, mg p.1 = some (.ref (adr [(0, E0), (8, E8)] E8 p.2)) ∧ ∃ fI fld, ErrF PySem.Challenge.pw_bestcodes_k02_codes K mg (adr [(0, E0), (8, E8)] E8 p.2) fI fld ∧ efT p.2 = some fld) (nm, c) (look_mem h)
    hds := fun nm c h => ((all_cons' (⟨mg_of X G a_E0, hds_of (l := [(0, E0), (8, E8)]) (d := E8) (c := 0) (E := E0) ((all_cons' (x_0_0) (all_cons' (x_8_0) all_nil'))) x_8_0 rfl, fun fl h => by cases h; exact ⟨y_0, z_0⟩⟩) all_nil') : ∀ p ∈ T.hds, mg p.1 = some (.ref (adr [(0, E0), (8, E8)] E8 p.2)) ∧ (∀ c1 : Nat, exmOne K (.ref (adr [(0, E0), (8, E8)] E8 c1)) (.ref (adr [(0, E0), (8, E8)] E8 p.2)) = some (decide (p.2 = c1 ∨ p.2 = 8))) ∧ ∀ fld, efT p.2 = some fld → XfC K (adr [(0, E0), (8, E8)] E8 p.2) ∧ findIn K (.ref (adr [(0, E0), (8, E8)] E8 p.2)) fld = some none) (nm, c) (look_mem h) }
  have af : ∀ pa : Nat, AllF (g.at_ pa) K mg T tbl mt cl := fun pa => {
    fns := fun nm f h => ((all_cons' (mkF_of (c := 0) X G a_C0 k_C0 m_Code___init__ i_Code___init__ F_Code___init__ ok_Code___init__ rfl) (all_cons' (fnF_of X G a_l_bent F_l_bent ok_l_bent rfl) (all_cons' (fnF_of X G a_l_bits F_l_bits ok_l_bits rfl) (all_cons' (fnF_of X G a_l_code F_l_code ok_l_code rfl) (all_cons' (fnF_of X G a_l_draw F_l_draw ok_l_draw rfl) (all_cons' (fnF_of X G a_l_letters F_l_letters ok_l_letters rfl) (all_cons' (fnF_of X G a_l_pick F_l_pick ok_l_pick rfl) (all_cons' (fnF_of X G a_l_refused F_l_refused ok_l_refused rfl) (all_cons' (fnF_of X G a_l_wrong F_l_wrong ok_l_wrong rfl) (all_cons' (fnF_of X G a_check_rows F_check_rows ok_check_rows rfl) all_nil')))))))))) : ∀ p ∈ T.fns, FnF (g.at_ pa) K mg T tbl p.1 p.2 ∨ MkF (g.at_ pa) K mg T tbl p.1 p.2) (nm, f) (look_mem h)
    mts := fun nm mm h c f h2 => ((all_cons' ((all_cons' (fun _ => mtF_of (c := 0) k_C0 m_Code___eq__ i_Code___eq__ F_Code___eq__ ok_Code___eq__ rfl (by decide +kernel)) (all_cons' (fun e => absurd e (by decide)) all_nil'))) (all_cons' ((all_cons' (fun e => absurd e (by decide)) (all_cons' (fun _ => mtF_of (c := 0) k_C0 m_Code___len__ i_Code___len__ F_Code___len__ ok_Code___len__ rfl (by decide +kernel)) all_nil'))) all_nil')) : ∀ p ∈ T.mts, ∀ q ∈ mtL, q.1.2 = p.2 → MtF (g.at_ pa) K T tbl q.1.1 p.1 q.2) (nm, mm) (look_mem h) ((c, mm), f) (look_mem h2) rfl }
  have bp : Binds K fdp ["_law_script"] [] := Fp.binds fun _ _ _ _ _ _ us hl => match us, hl with | [_], _ => rfl
  refine ⟨fdl, fun s v => ?_, fun base _ _ => ?_⟩
  · obtain ⟨oc, od, kV, doc, pm, an, cdv, ct, osl, rfl, _, _⟩ := Fl.ex
    exact .of_eq rfl
  · exact Bc.law_ok (g := g) (T := T) (tbl := tbl) (mt := mt) (cl := cl) (n := 4) (N := N_law) (m := 60) (rest := lawRest) (body := b_law) Fl (fsB_ok (by decide +kernel)) (by decide +kernel) law_rest (by decide +kernel) (by decide +kernel) (by decide +kernel) (pen_ok Fp (fsB_ok (by decide +kernel)) (by decide +kernel) (by decide +kernel) (mg_none_of X G b_list) (by decide +kernel)) (mg_of X G a_pen) Fp.kp bp (fun pa => fa0 pa _) (fun pa => defs_all (fun x => fa0 pa x) (af pa) 4 _) (by decide) law_body law_true
theorem walk {l : PySem.W.OpenLaw} {q : Program} {loose : List Str} {XP : (Str → Option Value) → Heap → Prop} {YP : World → Heap → Prop} {d : DefRec} {K : Params → PySem.W.Frag} (hl : l.prog = PySem.Challenge.pw_bestcodes_k02_codes) (hn : l.most = some 63) (hdf : d.params.defaults = [])
    (hY : ∀ (w : World) (h : Heap), YP w h → (K w.params).In h)
    (F : ∀ (w : World) (mg : Str → Option Value) (fa : Addr) (h : Heap), (K w.params).In h → h.Ns mainGlobals mg → mg d.name = some (.ref fa) →
      ∃ fd : FuncData, (∀ (s : Shared) (u : Value), BindsTo s fd ⟨[u], []⟩ [("_law_script", u)]) ∧ ∀ base : Heap, (K w.params).In base → base.Ns mainGlobals mg → FnOk PySem.Challenge.pw_bestcodes_k02_codes w (K w.params) mg base (L2.CX PySem.Challenge.pw_bestcodes_k02_codes w) 11 fa fd ["_law_script"] (spLaw (K w.params))) :
    PySem.W.WalkO q loose XP YP l.row.toRowW d [] (fun f vs => PySem.call f vs) :=
  L2.walk_of (n := 63) (k := 11) (x := "_law_script") (CX := fun w => L2.CX PySem.Challenge.pw_bestcodes_k02_codes w) (sp := fun w => spLaw (K w.params)) hn (by decide) hdf ⟨rfl, by decide, by decide⟩ hY (by rw [hl]; exact F) (fun _ _ a ns hl _ hS => ⟨a, ns, rfl, hS, hl, fun _ => rfl⟩) fun _ _ _ _ _ ⟨_, _, _, _, _, _, _, _, _, _, _, _, h⟩ => h

end Bc.Pl.K02
set_option Elab.async false
set_option linter.all false
set_option maxRecDepth 100000
open PySem PySem.W PyProof.Rows in
set_option maxRecDepth 100000 in
set_option maxHeartbeats 0 in
theorem PySem.Challenge.cw_bestcodes_k02_codes_holds : PySem.Challenge.rw_bestcodes_k02_codes.Holds := by
  w_on; o_law; k_head; (case hw => w_witness2)
  k_fill
  refine Bc.Pl.K02.walk (l := PySem.Challenge.rw_bestcodes_k02_codes) rfl rfl rfl (fun w h Y => PySem.W.kIn_of Y) ?F
  case F =>
    intro w mg fa h KX G hmg
    replace hmg : mg ("law" : Str) = some (.ref fa) := hmg
    refine' Bc.Pl.K02.all_mk KX G hmg ?a_l_bent ?F_l_bent ?a_l_bits ?F_l_bits ?a_l_code ?F_l_code ?a_l_draw ?F_l_draw ?a_l_letters ?F_l_letters ?a_l_pick ?F_l_pick ?a_l_refused ?F_l_refused ?a_l_wrong ?F_l_wrong ?a_check_rows ?F_check_rows ?a_C0 ?k_C0 ?m_Code___eq__ ?i_Code___eq__ ?F_Code___eq__ ?m_Code___init__ ?i_Code___init__ ?F_Code___init__ ?m_Code___len__ ?i_Code___len__ ?F_Code___len__ ?a_E0 ?k_E0 ?a_E8 ?x_0_0 ?x_8_0 ?y_0 ?z_0 ?isb_0 ?ik_0_0 ?ty_0 ?n_0_t ?n_0_s ?n_0_0 ?b_range ?b_enumerate ?b_zip ?b_len ?b_list ?b_tuple ?b_int ?b_sum ?b_max ?b_min ?b_all ?b_any ?b_sorted ?b_isinstance ?b_bool ?b_super ?a_pen ?F_pen ?a_law ?F_law
    (case a_l_bent => k_is)
    (case F_l_bent => refine' Bc.fnK_mk ?l ?c ?k; (case l => k_is); (case c => k_is); (case k => k_is))
    (case a_l_bits => k_is)
    (case F_l_bits => refine' Bc.fnK_mk ?l ?c ?k; (case l => k_is); (case c => k_is); (case k => k_is))
    (case a_l_code => k_is)
    (case F_l_code => refine' Bc.fnK_mk ?l ?c ?k; (case l => k_is); (case c => k_is); (case k => k_is))
    (case a_l_draw => k_is)
    (case F_l_draw => refine' Bc.fnK_mk ?l ?c ?k; (case l => k_is); (case c => k_is); (case k => k_is))
    (case a_l_letters => k_is)
    (case F_l_letters => refine' Bc.fnK_mk ?l ?c ?k; (case l => k_is); (case c => k_is); (case k => k_is))
    (case a_l_pick => k_is)
    (case F_l_pick => refine' Bc.fnK_mk ?l ?c ?k; (case l => k_is); (case c => k_is); (case k => k_is))
    (case a_l_refused => k_is)
    (case F_l_refused => refine' Bc.fnK_mk ?l ?c ?k; (case l => k_is); (case c => k_is); (case k => k_is))
    (case a_l_wrong => k_is)
    (case F_l_wrong => refine' Bc.fnK_mk ?l ?c ?k; (case l => k_is); (case c => k_is); (case k => k_is))
    (case a_check_rows => k_is)
    (case F_check_rows => refine' Bc.fnK_mk ?l ?c ?k; (case l => k_is); (case c => k_is); (case k => k_is))
    (case a_C0 => k_is)
    (case k_C0 => refine' ⟨⟨?p1, ?p2, ?p3, ?p4⟩, (Bc.all_cons' (by show PySem.W.findIn _ _ _ = _; k_is) (Bc.all_cons' (by show PySem.W.findIn _ _ _ = _; k_is) (Bc.all_cons' (by show PySem.W.findIn _ _ _ = _; k_is) Bc.all_nil'))), ?p5, ?p6⟩; (case p1 => k_is); (case p2 => k_is); (case p3 => k_is); (case p4 => k_is); (case p5 => k_is); (case p6 => k_is); (all_goals k_is))
    (case m_Code___eq__ => k_is)
    (case i_Code___eq__ => k_is)
    (case F_Code___eq__ => refine' Bc.fnK_mk ?l ?c ?k; (case l => k_is); (case c => k_is); (case k => k_is))
    (case m_Code___init__ => k_is)
    (case i_Code___init__ => k_is)
    (case F_Code___init__ => refine' Bc.fnK_mk ?l ?c ?k; (case l => k_is); (case c => k_is); (case k => k_is))
    (case m_Code___len__ => k_is)
    (case i_Code___len__ => k_is)
    (case F_Code___len__ => refine' Bc.fnK_mk ?l ?c ?k; (case l => k_is); (case c => k_is); (case k => k_is))
    (case a_E0 => k_is)
    (case k_E0 => refine' Bc.errK_mk ?e1 ?e2 ?e3 ?e4 ?e5 ?e6 ?e7 ?e8 (Bc.oexC_mk ?o1 ?o2 ?o3 ?o4 ?o5 ?o6) ?e9 ?e10 ?e11 ?e12 ?e13 ?e14; (case e1 => k_is); (case e2 => k_is); (case e3 => k_is); (case e4 => k_is); (case e5 => k_is); (case e6 => rfl); (case e7 => decide +kernel); (case e8 => k_is); (case o1 => first | k_is | k_exc); (case o2 => first | rfl | decide +kernel); (case o3 => k_is); (case o4 => k_is); (case o5 => k_is); (case o6 => k_is); (case e9 => k_is); (case e10 => k_is); (case e11 => first | rfl | decide +kernel); (case e12 => k_is); (case e13 => k_is); (case e14 => k_is))
    (case a_E8 => k_is)
    (case x_0_0 => first | rfl | k_is | decide +kernel)
    (case x_8_0 => first | rfl | k_is | decide +kernel)
    (case y_0 => refine' ⟨?q1, ?q2, ?q3, ?q4⟩; (case q1 => k_is); (case q2 => k_is); (case q3 => k_is); (case q4 => k_is))
    (case z_0 => k_is)
    (case isb_0 => refine' ⟨?q1, ?q2, ?q3, ?q4, ?q5, ?q6⟩; (case q1 => kit_is); (case q2 => kit_is); (case q3 => kit_is); (case q4 => kit_is); (case q5 => kit_is); (case q6 => kit_is))
    (case ik_0_0 => first | rfl | kit_is)
    (case ty_0 => refine' ⟨?q1, ?q2, ?q3, ?q4⟩; (case q1 => k_is); (case q2 => k_is); (case q3 => k_is); (case q4 => k_is))
    (case n_0_t => k_is)
    (case n_0_s => k_is)
    (case n_0_0 => k_is)
    (case b_range => k_is)
    (case b_enumerate => k_is)
    (case b_zip => k_is)
    (case b_len => k_is)
    (case b_list => k_is)
    (case b_tuple => k_is)
    (case b_int => k_is)
    (case b_sum => k_is)
    (case b_max => k_is)
    (case b_min => k_is)
    (case b_all => k_is)
    (case b_any => k_is)
    (case b_sorted => k_is)
    (case b_isinstance => k_is)
    (case b_bool => k_is)
    (case b_super => k_is)
    (case a_pen => k_is)
    (case F_pen => refine' Bc.fnK_mk ?l ?c ?k; (case l => k_is); (case c => k_is); (case k => k_is))
    (case a_law => k_is)
    (case F_law => refine' Bc.fnK_mk ?l ?c ?k; (case l => k_is); (case c => k_is); (case k => k_is))
