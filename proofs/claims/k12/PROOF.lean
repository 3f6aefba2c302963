import PyProof.Rows.All
import Wide.All
import OpenK.AllK
import Wide.FinOn
import HandS.ForMost
import HandS.ForExc
import HandS.TupAny
import HandS.TupMul
import HandS.Wide
import HandS.IsInst
import HandS.Flow
import HandS.NoneIn
import HandS.Deep
import HandS.WordsDict
import HandS.More
import HandS.Style
import KE.GoesEnum
import HandS.Strs
import HandS.Head0
import HandS.Head1
import HandS.Head2
import HandS.HeadEnd
import HandS.HeadHook1
import HandS.HeadHook2
import HandS.HeadHook3
import HandS.HeadHook4
import HandS.HeadNt
import PySem.Challenge.RW_guestworlds_k12_which_kinds_hold
set_option Elab.async false
set_option linter.all false
set_option maxRecDepth 100000
set_option maxHeartbeats 4000000
/-! L3: values with tuples as trees, a heap of lists, dicts and instances, over HandS. -/
namespace L3
open PySem PySem.Spec PyProof.Rows L2

/-- a value; tuples are trees; ref: a list, a dict, an instance; gl: a def or class of the module by its name; rl: a list that is never written -/
inductive D where
  | non | bl (b : Bool) | int (i : Int) | str (x : Str) | tup (xs : List D) | ref (a : Addr) | gl (x : String) | rl (xs : List D) | wl (xs : List D)

/-- what stands at a tracked address -/
inductive DO where
  | lst (xs : List D)
  | ins (c : String) (fs : List (String × D))
  | dct (kvs : List (Key × D))
abbrev DH := Addr → Option DO
def up (H : DH) (a : Addr) (o : DO) : DH := fun b => if b = a then some o else H b
theorem up_same {H : DH} {a : Addr} {o : DO} : up H a o a = some o := by unfold up; rw [if_pos rfl]
theorem up_ne {H : DH} {a b : Addr} {o : DO} (h : b ≠ a) : up H a o b = H b := by unfold up; rw [if_neg h]
theorem up_up {H : DH} {a : Addr} {o u : DO} : up (up H a o) a u = up H a u := by funext b; unfold up; split <;> rfl
theorem up_comm {H : DH} {a b : Addr} {o u : DO} (h : a ≠ b) : up (up H a o) b u = up (up H b u) a o := by
  funext c; unfold up; split
  · rename_i e; subst e; rw [if_neg (Ne.symm h)]
  · rfl
theorem D.ne_of {H : DH} {a b : Addr} {o : DO} (h : H a = some o) (h' : H b = none) : a ≠ b := by
  intro e; subst e; rw [h] at h'; cases h'

abbrev DQ := D → DH → Prop
abbrev DX := String → D → DH → Prop
abbrev DSt := List (Option D)
abbrev TED := DSt → DH → DX → DQ → Prop
abbrev TAD := DSt → DH → DX → (List D → DH → Prop) → Prop
abbrev TTD := DSt → DH → DX → (Bool → DH → Prop) → Prop
structure DEnds where
  nx : DSt → DH → Prop
  rt : DQ
  xx : DX
  bk : DSt → DH → Prop := fun _ _ => False
  ct : DSt → DH → Prop := fun _ _ => False
abbrev TSD := DEnds → DSt → DH → Prop
/-- a def's promise -/
abbrev DSp := List D → DH → DQ → DX → Prop

/-- a list that is never written -/
def RdL (K : PySem.W.Frag) (H : Hp) (a : Addr) (xs : List V) : Prop :=
  (∃ o, H a = some (.frz o (.lst xs))) ∨
    ∃ (o : Obj) (its : Array Value) (n : Nat), K.lookup a = some o ∧ o.cls = .type "list" ∧ o.dict = none ∧ o.data = .seq its n ∧ its.size ≤ sizeLine ∧ Vals xs its.toList
/-- a list of the top, as it was made there -/
def WrL (K : PySem.W.Frag) (a : Addr) (xs : List V) : Prop := ∃ (its : Array Value) (n : Nat), K.lookup a = some { cls := .type "list", dict := none, data := .seq its n, slots := #[] } ∧ its.size ≤ sizeLine ∧ Vals xs its.toList
theorem RdL.sq {K : PySem.W.Frag} {H : Hp} {a : Addr} {xs : List V} (h : RdL K H a xs) : SqL K H a xs := h.elim (fun z => .inl (.inr z)) .inr

mutual
inductive Rep (K : PySem.W.Frag) (mg : Str → Option Value) (H : Hp) : V → D → Prop
  | non : Rep K mg H .non .non
  | bl (b : Bool) : Rep K mg H (.bl b) (.bl b)
  | int (i : Int) : Rep K mg H (.int i) (.int i)
  | str (x : Str) : Rep K mg H (.str x) (.str x)
  | tup {a : Addr} {xs : List V} {ds : List D} : SqT K H a xs → RepL K mg H xs ds → Rep K mg H (.ref a) (.tup ds)
  | ref (a : Addr) : Rep K mg H (.ref a) (.ref a)
  | gl {a : Addr} {x : String} : mg (x : Str) = some (.ref a) → Rep K mg H (.ref a) (.gl x)
  | rl {a : Addr} {xs : List V} {ds : List D} : RdL K H a xs → RepL K mg H xs ds → Rep K mg H (.ref a) (.rl ds)
  | wl {a : Addr} {xs : List V} {ds : List D} : WrL K a xs → RepL K mg H xs ds → Rep K mg H (.ref a) (.wl ds)
inductive RepL (K : PySem.W.Frag) (mg : Str → Option Value) (H : Hp) : List V → List D → Prop
  | nil : RepL K mg H [] []
  | cons {v : V} {vs : List V} {d : D} {ds : List D} : Rep K mg H v d → RepL K mg H vs ds → RepL K mg H (v :: vs) (d :: ds)
end

/-- tuples and what is frozen stay -/
structure Ext (H H' : Hp) : Prop where
  tup : ∀ b xs, H b = some (.tup xs) → H' b = some (.tup xs)
  frz : ∀ b o u, H b = some (.frz o u) → H' b = some (.frz o u)
theorem Ext.refl (H : Hp) : Ext H H := ⟨fun _ _ h => h, fun _ _ _ h => h⟩
theorem Ext.trans {H H1 H2 : Hp} (a : Ext H H1) (b : Ext H1 H2) : Ext H H2 := ⟨fun _ _ h => b.tup _ _ (a.tup _ _ h), fun _ _ _ h => b.frz _ _ _ (a.frz _ _ _ h)⟩
theorem Ext.new {H : Hp} {p : Addr} {o : HO} (h : H p = none) : Ext H (upd H p o) :=
  ⟨fun b xs e => by rw [upd_ne (ne_of_none e h)]; exact e, fun b u xs e => by rw [upd_ne (ne_of_none e h)]; exact e⟩
theorem Ext.set {H : Hp} {p : Addr} {o u : HO} (h : H p = some u) (n1 : ∀ xs, u ≠ .tup xs) (n2 : ∀ o v, u ≠ .frz o v) : Ext H (upd H p o) :=
  ⟨fun b xs e => by rw [upd_ne (L2.ne_of e h (fun z => n1 _ z.symm))]; exact e, fun b w xs e => by rw [upd_ne (L2.ne_of e h (fun z => n2 _ _ z.symm))]; exact e⟩
theorem Ext.lst {H : Hp} {p : Addr} {o : HO} {xs : List V} (h : H p = some (.lst xs)) : Ext H (upd H p o) := .set h (fun _ z => nomatch z) (fun _ _ z => nomatch z)
theorem Ext.ins {H : Hp} {p C dx : Addr} {o : HO} {xs : List (Str × V)} (h : H p = some (.ins C dx xs)) : Ext H (upd H p o) := .set h (fun _ z => nomatch z) (fun _ _ z => nomatch z)
theorem Ext.dct {H : Hp} {p : Addr} {o : HO} {xs : List (Key × V)} (h : H p = some (.dK xs)) : Ext H (upd H p o) := .set h (fun _ z => nomatch z) (fun _ _ z => nomatch z)

theorem sqT_ext {K : PySem.W.Frag} {H H' : Hp} {a : Addr} {xs : List V} (e : Ext H H') (h : SqT K H a xs) : SqT K H' a xs := by
  rcases h with (h | ⟨o, h⟩) | h
  · exact .inl (.inl (e.tup _ _ h))
  · exact .inl (.inr ⟨o, e.frz _ _ _ h⟩)
  · exact .inr h
theorem rdL_ext {K : PySem.W.Frag} {H H' : Hp} {a : Addr} {xs : List V} (e : Ext H H') (h : RdL K H a xs) : RdL K H' a xs := by
  rcases h with ⟨o, h⟩ | h
  · exact .inl ⟨o, e.frz _ _ _ h⟩
  · exact .inr h

section
variable {K : PySem.W.Frag} {mg : Str → Option Value} {H H' : Hp}
mutual
theorem Rep.ext (e : Ext H H') : ∀ {v : V} {d : D}, Rep K mg H v d → Rep K mg H' v d
  | _, _, .non => .non
  | _, _, .bl b => .bl b
  | _, _, .int i => .int i
  | _, _, .str x => .str x
  | _, _, .tup h r => .tup (sqT_ext e h) (RepL.ext e r)
  | _, _, .ref a => .ref a
  | _, _, .gl h => .gl h
  | _, _, .rl h r => .rl (rdL_ext e h) (RepL.ext e r)
  | _, _, .wl h r => .wl h (RepL.ext e r)
theorem RepL.ext (e : Ext H H') : ∀ {vs : List V} {ds : List D}, RepL K mg H vs ds → RepL K mg H' vs ds
  | _, _, .nil => .nil
  | _, _, .cons a b => .cons (Rep.ext e a) (RepL.ext e b)
end
theorem RepL.length : ∀ {vs : List V} {ds : List D}, RepL K mg H vs ds → vs.length = ds.length
  | _, _, .nil => rfl
  | _, _, .cons _ b => congrArg (· + 1) (RepL.length b)
theorem RepL.append : ∀ {vs ws : List V} {ds es : List D}, RepL K mg H vs ds → RepL K mg H ws es → RepL K mg H (vs ++ ws) (ds ++ es)
  | _, _, _, _, .nil, h => h
  | _, _, _, _, .cons a b, h => .cons a (RepL.append b h)
theorem RepL.get : ∀ {vs : List V} {ds : List D} {i : Nat} {d : D}, RepL K mg H vs ds → ds[i]? = some d → ∃ v, vs[i]? = some v ∧ Rep K mg H v d
  | _, _, _, _, .nil, e => by simp at e
  | _, _, 0, _, .cons a _, e => by simp at e; subst e; exact ⟨_, rfl, a⟩
  | _, _, i + 1, d, .cons _ b, e => by
    obtain ⟨v, h1, h2⟩ := RepL.get (i := i) (d := d) b (by simpa using e)
    exact ⟨v, by simpa using h1, h2⟩
theorem RepL.get' : ∀ {vs : List V} {ds : List D} {i : Nat} {v : V}, RepL K mg H vs ds → vs[i]? = some v → ∃ d, ds[i]? = some d ∧ Rep K mg H v d
  | _, _, _, _, .nil, e => by simp at e
  | _, _, 0, _, .cons a _, e => by simp at e; subst e; exact ⟨_, rfl, a⟩
  | _, _, i + 1, d, .cons _ b, e => by
    obtain ⟨v, h1, h2⟩ := RepL.get' (i := i) (v := d) b (by simpa using e)
    exact ⟨v, by simpa using h1, h2⟩
theorem RepL.set {v : V} {d : D} (r : Rep K mg H v d) : ∀ {vs : List V} {ds : List D} (i : Nat), RepL K mg H vs ds → RepL K mg H (vs.set i v) (ds.set i d)
  | _, _, _, .nil => .nil
  | _, _, 0, .cons _ b => .cons r b
  | _, _, i + 1, .cons a b => .cons a (RepL.set r i b)
theorem RepL.take : ∀ {vs : List V} {ds : List D} (n : Nat), RepL K mg H vs ds → RepL K mg H (vs.take n) (ds.take n)
  | _, _, 0, _ => .nil
  | _, _, _ + 1, .nil => .nil
  | _, _, n + 1, .cons a b => .cons a (RepL.take n b)
theorem RepL.drop : ∀ {vs : List V} {ds : List D} (n : Nat), RepL K mg H vs ds → RepL K mg H (vs.drop n) (ds.drop n)
  | _, _, 0, r => r
  | _, _, _ + 1, .nil => .nil
  | _, _, n + 1, .cons _ b => RepL.drop n b
theorem RepL.eraseIdx : ∀ {vs : List V} {ds : List D} (n : Nat), RepL K mg H vs ds → RepL K mg H (vs.eraseIdx n) (ds.eraseIdx n)
  | _, _, _, .nil => .nil
  | _, _, 0, .cons _ b => b
  | _, _, n + 1, .cons a b => .cons a (RepL.eraseIdx n b)
theorem RepL.reverse {vs : List V} {ds : List D} (r : RepL K mg H vs ds) : RepL K mg H vs.reverse ds.reverse := by
  have core : ∀ {vs ws : List V} {ds es : List D}, RepL K mg H vs ds → RepL K mg H ws es → RepL K mg H (vs.reverseAux ws) (ds.reverseAux es) := by
    intro vs
    induction vs with
    | nil => intro ws ds es a b; cases a; exact b
    | cons v vs ih => intro ws ds es a b; cases a with | cons a1 a2 => have q := ih a2 (RepL.cons a1 b); exact q
  exact core r .nil
theorem RepL.rep {vs : List V} {ds : List D} (r : RepL K mg H vs ds) : ∀ n : Nat, RepL K mg H (List.replicate n vs).flatten (List.replicate n ds).flatten
  | 0 => .nil
  | n + 1 => by
    rw [List.replicate_succ, List.replicate_succ, List.flatten_cons, List.flatten_cons]
    exact r.append (RepL.rep r n)
theorem RepL.snoc {vs : List V} {ds : List D} {v : V} {d : D} (r : RepL K mg H vs ds) (h : Rep K mg H v d) : RepL K mg H (vs ++ [v]) (ds ++ [d]) := r.append (.cons h .nil)
theorem RepL.ints : ∀ ns : List Int, RepL K mg H (ns.map V.int) (ns.map D.int)
  | [] => .nil
  | n :: ns => .cons (.int n) (RepL.ints ns)
end

/-- fields -/
inductive FRep (K : PySem.W.Frag) (mg : Str → Option Value) (H : Hp) : List (Str × V) → List (String × D) → Prop
  | nil : FRep K mg H [] []
  | cons {v : V} {d : D} {x : String} {vs : List (Str × V)} {ds : List (String × D)} : Rep K mg H v d → FRep K mg H vs ds → FRep K mg H (((x : Str), v) :: vs) ((x, d) :: ds)
inductive KRep (K : PySem.W.Frag) (mg : Str → Option Value) (H : Hp) : List (Key × V) → List (Key × D) → Prop
  | nil : KRep K mg H [] []
  | cons {v : V} {d : D} {k : Key} {vs : List (Key × V)} {ds : List (Key × D)} : Rep K mg H v d → KRep K mg H vs ds → KRep K mg H ((k, v) :: vs) ((k, d) :: ds)
section
variable {K : PySem.W.Frag} {mg : Str → Option Value} {H H' : Hp}
theorem FRep.ext (e : Ext H H') : ∀ {vs : List (Str × V)} {ds : List (String × D)}, FRep K mg H vs ds → FRep K mg H' vs ds
  | _, _, .nil => .nil
  | _, _, .cons a b => .cons (a.ext e) (FRep.ext e b)
theorem KRep.ext (e : Ext H H') : ∀ {vs : List (Key × V)} {ds : List (Key × D)}, KRep K mg H vs ds → KRep K mg H' vs ds
  | _, _, .nil => .nil
  | _, _, .cons a b => .cons (a.ext e) (KRep.ext e b)
theorem ofStr_inj {a b : String} (h : (a : Str) = (b : Str)) : a = b := by
  rw [Str.ofString_eq_toList, Str.ofString_eq_toList] at h
  injection h with h
  have h2 : a.toList.map Char.toNat = b.toList.map Char.toNat := by simpa using h
  have h3 : a.toList = b.toList := by
    refine (List.map_inj_right ?_).mp h2
    intro x y e
    exact Char.toNat_inj.mp e
  exact String.toList_inj.mp h3
@[simp] theorem ofStr_eq (a b : String) : ((a : Str) = (b : Str)) = (a = b) := propext ⟨ofStr_inj, fun h => by rw [h]⟩
theorem FRep.lookup {f : String} : ∀ {vs : List (Str × V)} {ds : List (String × D)} {d : D}, FRep K mg H vs ds → ds.lookup f = some d → ∃ v, vs.lookup (f : Str) = some v ∧ Rep K mg H v d
  | _, _, _, .nil, e => by simp at e
  | _, _, d, .cons (x := x) a b, e => by
    by_cases h : f = x
    · subst h
      simp [List.lookup] at e
      subst e
      exact ⟨_, by simp [List.lookup], a⟩
    · have h1 : (f == x) = false := by simpa using h
      have h2 : ((f : Str) == (x : Str)) = false := by simpa using h
      simp only [List.lookup, h1] at e
      obtain ⟨v, e1, e2⟩ := FRep.lookup b e
      exact ⟨v, by simp only [List.lookup, h2]; exact e1, e2⟩
theorem FRep.none {f : String} : ∀ {vs : List (Str × V)} {ds : List (String × D)}, FRep K mg H vs ds → ds.lookup f = none → vs.lookup (f : Str) = none
  | _, _, .nil, e => rfl
  | _, _, .cons (x := x) a b, e => by
    by_cases h : f = x
    · subst h
      simp [List.lookup] at e
    · have h1 : (f == x) = false := by simpa using h
      have h2 : ((f : Str) == (x : Str)) = false := by simpa using h
      simp only [List.lookup, h1] at e
      simp only [List.lookup, h2]
      exact FRep.none b e
theorem FRep.length : ∀ {vs : List (Str × V)} {ds : List (String × D)}, FRep K mg H vs ds → vs.length = ds.length
  | _, _, .nil => rfl
  | _, _, .cons _ b => congrArg (· + 1) (FRep.length b)
end
/-- a field is stored: in its place, or behind all -/
def putD (f : String) (v : D) : List (String × D) → List (String × D)
  | [] => [(f, v)]
  | (g, u) :: r => if g = f then (g, v) :: r else (g, u) :: putD f v r
theorem lookup_putD (f g : String) (v : D) : ∀ fs : List (String × D), (putD f v fs).lookup g = if g = f then some v else fs.lookup g
  | [] => by
    by_cases h : g = f
    · subst h; simp [putD, List.lookup]
    · have h1 : (g == f) = false := by simpa using h
      simp [putD, List.lookup, h, h1]
  | (x, u) :: r => by
    show List.lookup g (if x = f then (x, v) :: r else (x, u) :: putD f v r) = _
    by_cases h : x = f
    · subst h
      rw [if_pos rfl]
      by_cases h2 : g = x
      · subst h2; simp [List.lookup]
      · have h1 : (g == x) = false := by simpa using h2
        simp [List.lookup, h2, h1]
    · rw [if_neg h]
      by_cases h2 : g = x
      · subst h2; simp [List.lookup, h]
      · have h1 : (g == x) = false := by simpa using h2
        simp only [List.lookup, h1]
        exact lookup_putD f g v r
theorem length_putD (f : String) (v : D) : ∀ fs : List (String × D), (putD f v fs).length ≤ fs.length + 1
  | [] => by simp [putD]
  | (x, u) :: r => by
    show (if x = f then (x, v) :: r else (x, u) :: putD f v r).length ≤ _
    split
    · simp
    · have := length_putD f v r; simp; omega
theorem FRep.put {K : PySem.W.Frag} {mg : Str → Option Value} {H : Hp} {f : String} {v : V} {d : D} (r : Rep K mg H v d) : ∀ {vs : List (Str × V)} {ds : List (String × D)}, FRep K mg H vs ds → FRep K mg H (putF (f : Str) v vs) (putD f d ds)
  | _, _, .nil => .cons r .nil
  | _, _, .cons (x := x) a b => by
    show FRep K mg H (if (x : Str) = (f : Str) then _ else _) (if x = f then _ else _)
    by_cases h : x = f
    · rw [if_pos h, if_pos (by rw [h])]
      exact .cons r b
    · rw [if_neg h, if_neg (fun z => h (ofStr_inj z))]
      exact .cons a (FRep.put r b)

/-- the fields that instances have -/
def fieldsOf (c : String) : List String :=
  if c = "State" then ["body", "wide", "boxes", "place", "high", "window", "left", "words", "ear", "why", "many"]
  else if c = "Machine" then ["kind", "state"]
  else if c = "Body" then ["things"]
  else if c = "Ground" then ["kind", "wide", "cells", "words", "deep"]
  else if c = "Room" then ["host", "number", "kind", "wide", "words", "deep"]
  else if c = "Host" then ["ground", "way", "firsts", "states", "shares", "fresh", "upon"]
  else []
def fldOk (c f : String) : Bool := (fieldsOf c).contains f
def FldAll (c : String) (fs : List (String × D)) : Prop := ∀ f v, fs.lookup f = some v → fldOk c f = true
/-- what stands at a tracked address -/
def ObjRep (K : PySem.W.Frag) (mg : Str → Option Value) (H : Hp) (a : Addr) : DO → Prop
  | .lst ds => ∃ xs, H a = some (.lst xs) ∧ RepL K mg H xs ds
  | .ins c fs => ∃ C dx vs, mg (c : Str) = some (.ref C) ∧ H a = some (.ins C dx vs) ∧ FRep K mg H vs fs ∧ FldAll c fs ∧ fs.length ≤ 40
  | .dct kvs => ∃ ws, H a = some (.dK ws) ∧ KRep K mg H ws kvs
def Abs (K : PySem.W.Frag) (mg : Str → Option Value) (DH_ : DH) (H : Hp) : Prop := ∀ a o, DH_ a = some o → ObjRep K mg H a o
section
variable {K : PySem.W.Frag} {mg : Str → Option Value} {H H' : Hp} {G : DH} {p : Addr} {o : DO} {ho : HO}
theorem Abs.there (A : Abs K mg G H) (h : G p = some o) : ∃ u, H p = some u := by
  have z := A p o h
  cases o with
  | lst _ => obtain ⟨_, e, _⟩ := z; exact ⟨_, e⟩
  | ins _ _ => obtain ⟨_, _, _, _, e, _⟩ := z; exact ⟨_, e⟩
  | dct _ => obtain ⟨_, e, _⟩ := z; exact ⟨_, e⟩
theorem Abs.none (A : Abs K mg G H) (h : H p = none) : G p = none := by
  cases e : G p with
  | none => rfl
  | some o => obtain ⟨u, z⟩ := A.there e; rw [h] at z; cases z
theorem ObjRep.ext (e : Ext H H') (k : H' p = H p) (z : ObjRep K mg H p o) : ObjRep K mg H' p o := by
  cases o with
  | lst _ => obtain ⟨xs, e1, e2⟩ := z; exact ⟨xs, k.trans e1, e2.ext e⟩
  | ins _ _ => obtain ⟨C, dx, vs, e0, e1, e2, e3⟩ := z; exact ⟨C, dx, vs, e0, k.trans e1, e2.ext e, e3⟩
  | dct _ => obtain ⟨xs, e1, e2⟩ := z; exact ⟨xs, k.trans e1, e2.ext e⟩
/-- one object is laid or changed -/
theorem Abs.upd (A : Abs K mg G H) (e : Ext H (upd H p ho)) (z : ObjRep K mg (L2.upd H p ho) p o) : Abs K mg (up G p o) (L2.upd H p ho) := fun a u h => by
  by_cases q : a = p
  · subst q; rw [up_same] at h; cases h; exact z
  · rw [up_ne q] at h
    exact (A a u h).ext e (upd_ne q)
/-- a new thing is laid that isn't tracked here (a tuple) -/
theorem Abs.keep (A : Abs K mg G H) (h : H p = Option.none) : Abs K mg G (L2.upd H p ho) := fun a u q => by
  obtain ⟨v, z⟩ := A.there q
  exact (A a u q).ext (.new h) (upd_ne (ne_of_none z h))
theorem Abs.newL {xs : List V} {ds : List D} (A : Abs K mg G H) (h : H p = Option.none) (z : RepL K mg H xs ds) : Abs K mg (up G p (.lst ds)) (L2.upd H p (.lst xs)) :=
  A.upd (.new h) (show ObjRep K mg _ p (.lst ds) from ⟨xs, upd_same, z.ext (.new h)⟩)
theorem Abs.setL {xs ys : List V} {ds : List D} (A : Abs K mg G H) (h : H p = some (.lst ys)) (z : RepL K mg H xs ds) : Abs K mg (up G p (.lst ds)) (L2.upd H p (.lst xs)) :=
  A.upd (.lst h) (show ObjRep K mg _ p (.lst ds) from ⟨xs, upd_same, z.ext (.lst h)⟩)
theorem Abs.newD {xs : List (Key × V)} {ds : List (Key × D)} (A : Abs K mg G H) (h : H p = Option.none) (z : KRep K mg H xs ds) : Abs K mg (up G p (.dct ds)) (L2.upd H p (.dK xs)) :=
  A.upd (.new h) (show ObjRep K mg _ p (.dct ds) from ⟨xs, upd_same, z.ext (.new h)⟩)
theorem Abs.setD {xs ys : List (Key × V)} {ds : List (Key × D)} (A : Abs K mg G H) (h : H p = some (.dK ys)) (z : KRep K mg H xs ds) : Abs K mg (up G p (.dct ds)) (L2.upd H p (.dK xs)) :=
  A.upd (.dct h) (show ObjRep K mg _ p (.dct ds) from ⟨xs, upd_same, z.ext (.dct h)⟩)
theorem Abs.new (A : Abs K mg G H) (h : H p = Option.none) (z : ObjRep K mg (L2.upd H p ho) p o) : Abs K mg (up G p o) (L2.upd H p ho) := A.upd (.new h) z
end

/-- slots -/
inductive StRep (K : PySem.W.Frag) (mg : Str → Option Value) (H : Hp) : L2.St → DSt → Prop
  | nil : StRep K mg H [] []
  | none {v : Option V} {σ : L2.St} {τ : DSt} : StRep K mg H σ τ → StRep K mg H (v :: σ) (Option.none :: τ)
  | some {v : V} {d : D} {σ : L2.St} {τ : DSt} : Rep K mg H v d → StRep K mg H σ τ → StRep K mg H (Option.some v :: σ) (Option.some d :: τ)
section
variable {K : PySem.W.Frag} {mg : Str → Option Value} {H H' : Hp}
theorem StRep.ext (e : Ext H H') : ∀ {σ : L2.St} {τ : DSt}, StRep K mg H σ τ → StRep K mg H' σ τ
  | _, _, .nil => .nil
  | _, _, .none b => .none (StRep.ext e b)
  | _, _, .some a b => .some (a.ext e) (StRep.ext e b)
theorem StRep.get : ∀ {σ : L2.St} {τ : DSt} {i : Nat} {d : D}, StRep K mg H σ τ → τ[i]? = Option.some (Option.some d) → ∃ v, σ[i]? = Option.some (Option.some v) ∧ Rep K mg H v d
  | _, _, _, _, .nil, e => by simp at e
  | _, _, 0, _, .none _, e => by simp at e
  | _, _, 0, _, .some a _, e => by simp at e; subst e; exact ⟨_, rfl, a⟩
  | _, _, i + 1, d, .none b, e => by
    obtain ⟨v, h1, h2⟩ := StRep.get (i := i) (d := d) b (by simpa using e)
    exact ⟨v, by simpa using h1, h2⟩
  | _, _, i + 1, d, .some _ b, e => by
    obtain ⟨v, h1, h2⟩ := StRep.get (i := i) (d := d) b (by simpa using e)
    exact ⟨v, by simpa using h1, h2⟩
theorem StRep.set {v : V} {d : D} (r : Rep K mg H v d) : ∀ {σ : L2.St} {τ : DSt} (i : Nat), StRep K mg H σ τ → StRep K mg H (σ.set i (Option.some v)) (τ.set i (Option.some d))
  | _, _, _, .nil => .nil
  | _, _, 0, .none b => .some r b
  | _, _, 0, .some _ b => .some r b
  | _, _, i + 1, .none b => .none (StRep.set r i b)
  | _, _, i + 1, .some a b => .some a (StRep.set r i b)
theorem StRep.start : ∀ {vs : List V} {ds : List D} (n : Nat), RepL K mg H vs ds → StRep K mg H (vs.map Option.some ++ List.replicate n Option.none) (ds.map Option.some ++ List.replicate n Option.none)
  | _, _, 0, .nil => .nil
  | _, _, n + 1, .nil => .none (StRep.start n .nil)
  | _, _, n, .cons a b => .some a (StRep.start n b)
end
end L3

namespace L3
open PySem PySem.Spec PyProof.Rows L2

/-- the one field of an own exception -/
def excField (c : String) : Option String := if c = "BadCells" then some "at" else if c = "BadText" then some "row" else none
def ExcRep (K : PySem.W.Frag) (mg : Str → Option Value) (H : Hp) (c : String) (d : D) (cls : Value) (dd : Option Addr) : Prop :=
  ∃ C, mg (c : Str) = some (.ref C) ∧ cls = .ref C ∧ ((d = .non ∧ dd = none) ∨ ∃ (f : String) (a : Addr) (v : V), excField c = some f ∧ dd = some a ∧ H a = some (.xd [((f : Str), v)]) ∧ Rep K mg H v d)
def XOk (K : PySem.W.Frag) (mg : Str → Option Value) (W : WX) (Xd : DX) (σ : L2.St) (H : Hp) : Prop :=
  ∀ c d G' cls dd H', Ext H H' → Abs K mg G' H' → ExcRep K mg H' c d cls dd → Xd c d G' → W cls dd σ H'
theorem XOk.ext {K : PySem.W.Frag} {mg : Str → Option Value} {W : WX} {Xd : DX} {σ : L2.St} {H H' : Hp} (h : XOk K mg W Xd σ H) (e : Ext H H') : XOk K mg W Xd σ H' :=
  fun c d G' cls dd H2 e2 a r x => h c d G' cls dd H2 (e.trans e2) a r x

def liftE (K : PySem.W.Frag) (mg : Str → Option Value) (W : WX) (td : TED) : TE := fun σ H Q =>
  ∃ τ G Xd Qd, StRep K mg H σ τ ∧ Abs K mg G H ∧ td τ G Xd Qd ∧ (∀ d G' v H', Ext H H' → Rep K mg H' v d → Abs K mg G' H' → Qd d G' → Q v H') ∧ XOk K mg W Xd σ H
def liftA (K : PySem.W.Frag) (mg : Str → Option Value) (W : WX) (td : TAD) : TA := fun σ H Q =>
  ∃ τ G Xd Qd, StRep K mg H σ τ ∧ Abs K mg G H ∧ td τ G Xd Qd ∧ (∀ ds G' vs H', Ext H H' → RepL K mg H' vs ds → Abs K mg G' H' → Qd ds G' → Q vs H') ∧ XOk K mg W Xd σ H
def liftT (K : PySem.W.Frag) (mg : Str → Option Value) (W : WX) (td : TTD) : TT := fun σ H Q =>
  ∃ τ G Xd Qd, StRep K mg H σ τ ∧ Abs K mg G H ∧ td τ G Xd Qd ∧ (∀ b G' H', Ext H H' → Abs K mg G' H' → Qd b G' → Q b H') ∧ XOk K mg W Xd σ H
structure EndsOk (K : PySem.W.Frag) (mg : Str → Option Value) (W : WX) (H : Hp) (D_ : Ends) (Dd : DEnds) : Prop where
  nx : ∀ τ' G' σ' H', Ext H H' → StRep K mg H' σ' τ' → Abs K mg G' H' → Dd.nx τ' G' → D_.nx σ' H'
  rt : ∀ d G' v H', Ext H H' → Rep K mg H' v d → Abs K mg G' H' → Dd.rt d G' → D_.rt v H'
  bk : ∀ τ' G' σ' H', Ext H H' → StRep K mg H' σ' τ' → Abs K mg G' H' → Dd.bk τ' G' → D_.bk σ' H'
  ct : ∀ τ' G' σ' H', Ext H H' → StRep K mg H' σ' τ' → Abs K mg G' H' → Dd.ct τ' G' → D_.ct σ' H'
  xx : ∀ σ', XOk K mg W Dd.xx σ' H
theorem EndsOk.ext {K : PySem.W.Frag} {mg : Str → Option Value} {W : WX} {H H' : Hp} {D_ : Ends} {Dd : DEnds} (h : EndsOk K mg W H D_ Dd) (e : Ext H H') : EndsOk K mg W H' D_ Dd :=
  ⟨fun _ _ _ _ q => h.nx _ _ _ _ (e.trans q), fun _ _ _ _ q => h.rt _ _ _ _ (e.trans q), fun _ _ _ _ q => h.bk _ _ _ _ (e.trans q), fun _ _ _ _ q => h.ct _ _ _ _ (e.trans q), fun σ' => (h.xx σ').ext e⟩
def liftS (K : PySem.W.Frag) (mg : Str → Option Value) (W : WX) (td : TSD) : TS := fun D_ σ H =>
  ∃ τ G Dd, StRep K mg H σ τ ∧ Abs K mg G H ∧ td Dd τ G ∧ EndsOk K mg W H D_ Dd
def liftSp (K : PySem.W.Frag) (mg : Str → Option Value) (sp : DSp) : Sp := fun vs H Q E =>
  ∃ ds G Qd Xd, RepL K mg H vs ds ∧ Abs K mg G H ∧ sp ds G Qd Xd ∧ (∀ d G' v H', Ext H H' → Rep K mg H' v d → Abs K mg G' H' → Qd d G' → Q v H') ∧
    ∀ c d G' cls dd H', Ext H H' → Abs K mg G' H' → ExcRep K mg H' c d cls dd → Xd c d G' → E cls dd H'

section
variable {X : Cx}
theorem PE.imp {e : Expr} {t t' : TE} (h : PE X e t) (k : ∀ σ H Q, t' σ H Q → t σ H Q) : PE X e t' := ⟨fun pins s σ H Q I q => h.run pins s σ H Q I (k _ _ _ q)⟩
theorem PT.imp {e : Expr} {t t' : TT} (h : PT X e t) (k : ∀ σ H Q, t' σ H Q → t σ H Q) : PT X e t' := ⟨fun pins s σ H Q I q => h.run pins s σ H Q I (k _ _ _ q)⟩
theorem PW.imp {e : Expr} {t t' : TT} (h : PW X e t) (k : ∀ σ H Q, t' σ H Q → t σ H Q) : PW X e t' := ⟨fun w pins s σ H Q I q => h.run w pins s σ H Q I (k _ _ _ q)⟩
theorem PA.imp {e : List Expr} {t t' : TA} (h : PA X e t) (k : ∀ σ H Q, t' σ H Q → t σ H Q) : PA X e t' := ⟨fun pos pins s σ H Q I q => h.run pos pins s σ H Q I (k _ _ _ q)⟩
theorem PS.imp {e : Stmt} {t t' : TS} (h : PS X e t) (k : ∀ D_ σ H, t' D_ σ H → t D_ σ H) : PS X e t' := ⟨fun pins s σ H Q I q => h.run pins s σ H Q I (k _ _ _ q)⟩
theorem PSs.imp {e : List Stmt} {t t' : TS} (h : PSs X e t) (k : ∀ D_ σ H, t' D_ σ H → t D_ σ H) : PSs X e t' := ⟨fun pins s σ H Q I q => h.run pins s σ H Q I (k _ _ _ q)⟩
end

/-- the judgements here -/
abbrev ME (X : Cx) (W : WX) (e : Expr) (td : TED) : Prop := PE X e (liftE X.K X.mg W td)
abbrev MA (X : Cx) (W : WX) (es : List Expr) (td : TAD) : Prop := PA X es (liftA X.K X.mg W td)
abbrev MT (X : Cx) (W : WX) (e : Expr) (td : TTD) : Prop := PT X e (liftT X.K X.mg W td)
abbrev MW (X : Cx) (W : WX) (e : Expr) (td : TTD) : Prop := PW X e (liftT X.K X.mg W td)
abbrev MS (X : Cx) (W : WX) (e : Stmt) (td : TSD) : Prop := PS X e (liftS X.K X.mg W td)
abbrev MSs (X : Cx) (W : WX) (es : List Stmt) (td : TSD) : Prop := PSs X es (liftS X.K X.mg W td)

/-! ### names and constants -/
def slot (τ : DSt) (i : Nat) (Q : D → Prop) : Prop := match τ[i]? with | some (some v) => Q v | _ => False
def dVar (i : Nat) : TED := fun τ G _ Q => slot τ i fun v => Q v G
def dC (v : D) : TED := fun _ G _ Q => Q v G
theorem slot_of {τ : DSt} {i : Nat} {Q : D → Prop} (h : slot τ i Q) : ∃ v, τ[i]? = some (some v) ∧ Q v := by
  unfold slot at h
  split at h
  · rename_i v e; exact ⟨v, e, h⟩
  · exact h.elim

section
variable {X : Cx} {W : WX} {a b c : Expr} {ta tb tc : TED} {pos : Pos}
theorem m_var (i : Nat) {x : Str} (hN : X.N[i]? = some x := by rfl) (hv : Vis X.env.scope x := by first | exact Or.inl rfl | exact Or.inr (Or.inl rfl) | exact Or.inr (Or.inr rfl)) (hd : (x == ("__debug__" : Str)) = false := by decide)
    (hcd : (x == ("__classdict__" : Str)) = false := by decide) : ME X W (.Name x pos) (dVar i) := PE.imp (pe_var hN hv hd hcd) fun σ H Q ⟨τ, G, Xd, Qd, hσ, hA, h, hQ, _⟩ => by
  obtain ⟨d, e, q⟩ := slot_of h
  obtain ⟨v, e1, r⟩ := hσ.get e
  exact ⟨v, e1, hQ _ _ _ _ (.refl _) r hA q⟩
theorem m_c {e : Expr} {v : V} {d : D} (h : PE X e (tC v)) (r : ∀ H, Rep X.K X.mg H v d) : ME X W e (dC d) := PE.imp h fun σ H Q ⟨τ, G, Xd, Qd, hσ, hA, h, hQ, _⟩ => hQ _ _ _ _ (.refl _) (r H) hA h
theorem m_int {i j} : ME X W (.Constant (.int i) j pos) (dC (.int i)) := m_c pe_int fun _ => .int i
theorem m_bl {i j} : ME X W (.Constant (.bool i) j pos) (dC (.bl i)) := m_c pe_bl fun _ => .bl i
theorem m_non {j} : ME X W (.Constant .none j pos) (dC .non) := m_c pe_non fun _ => .non
theorem m_str {x j} : ME X W (.Constant (.str x) j pos) (dC (.str x)) := m_c pe_str fun _ => .str x
/-- a def or class of the module as a value -/
theorem m_gl {x : String} {f : Addr} (hm : X.mg (x : Str) = some (.ref f)) (hg : Gl X (x : Str) := by rfl) (hd : (((x : Str)) == ("__debug__" : Str)) = false := by decide) : ME X W (.Name (x : Str) pos) (dC (.gl x)) :=
  m_c (pe_glob (v := .ref f) hg hm rfl hd) fun _ => .gl hm
/-- a constant of the module: a value that stands for d wherever the written part stands -/
def Kon (K : PySem.W.Frag) (mg : Str → Option Value) (x : Str) (d : D) : Prop := ∃ v u, mg x = some u ∧ RelV v u ∧ ∀ H, Rep K mg H v d
theorem m_kon {x : Str} {d : D} (h : Kon X.K X.mg x d) (hg : Gl X x := by rfl) (hd : (x == ("__debug__" : Str)) = false := by decide) : ME X W (.Name x pos) (dC d) := by
  obtain ⟨v, u, hm, r, q⟩ := h
  exact m_c (pe_glob hg hm r hd) q

/-! ### two-place operations -/
abbrev DR2 := D → D → DH → DQ → Prop
def liftR2 (K : PySem.W.Frag) (mg : Str → Option Value) (r : DR2) : R2 := fun x y H Q =>
  ∃ d e G Qd, Rep K mg H x d ∧ Rep K mg H y e ∧ Abs K mg G H ∧ r d e G Qd ∧ ∀ d' G' v H', Ext H H' → Rep K mg H' v d' → Abs K mg G' H' → Qd d' G' → Q v H'
def dBin (r : DR2) (ta tb : TED) : TED := fun τ G X Q => ta τ G X fun x G1 => tb τ G1 X fun y G2 => r x y G2 Q
theorem lift_bin {K : PySem.W.Frag} {mg : Str → Option Value} {r : DR2} {σ : L2.St} {H : Hp} {Q : VK} (h : liftE K mg W (dBin r ta tb) σ H Q) : tOp (liftR2 K mg r) (liftE K mg W ta) (liftE K mg W tb) σ H Q := by
  obtain ⟨τ, G, Xd, Qd, hσ, hA, h, hQ, hX⟩ := h
  refine ⟨τ, G, Xd, _, hσ, hA, h, fun x G1 v H1 e1 r1 a1 h1 => ?_, hX⟩
  refine ⟨τ, G1, Xd, _, hσ.ext e1, a1, h1, fun y G2 u H2 e2 r2 a2 h2 => ?_, hX.ext e1⟩
  exact ⟨x, y, G2, Qd, r1.ext e2, r2, a2, h2, fun d' G' v' H' e' r' a' q' => hQ d' G' v' H' ((e1.trans e2).trans e') r' a' q'⟩
theorem m_op {op : Operator} {r : DR2} (ho : OpR X (binaryOp op) (liftR2 X.K X.mg r)) (ha : ME X W a ta) (hb : ME X W b tb) : ME X W (.BinOp a op b pos) (dBin r ta tb) :=
  PE.imp (pe_op ho ha hb) fun _ _ _ h => lift_bin h
theorem m_cmp {op : CmpOp} {r : DR2} (ho : OpR X (compareOp op) (liftR2 X.K X.mg r)) (ha : ME X W a ta) (hb : ME X W b tb) (hm : behindInMarks op b = false := by first | exact nomark _ | rfl) : ME X W (.Compare a [op] [b] pos) (dBin r ta tb) :=
  PE.imp (pe_cmpR ho ha hb hm) fun _ _ _ h => lift_bin h
/-- a test by the truth of a bool -/
def asB (x : D) (G : DH) (Q : Bool → DH → Prop) : Prop := match x with | .bl k => Q k G | _ => False
theorem asB_of {x : D} {G : DH} {Q : Bool → DH → Prop} (h : asB x G Q) : ∃ k, x = .bl k ∧ Q k G := by
  cases x <;> first | exact ⟨_, rfl, h⟩ | exact h.elim
theorem Rep.blv {K : PySem.W.Frag} {mg : Str → Option Value} {H : Hp} {v : V} {k : Bool} (r : Rep K mg H v (.bl k)) : v = .bl k := by cases r; rfl
theorem Rep.intv {K : PySem.W.Frag} {mg : Str → Option Value} {H : Hp} {v : V} {k : Int} (r : Rep K mg H v (.int k)) : v = .int k := by cases r; rfl
theorem Rep.strv {K : PySem.W.Frag} {mg : Str → Option Value} {H : Hp} {v : V} {k : Str} (r : Rep K mg H v (.str k)) : v = .str k := by cases r; rfl
theorem Rep.nonv {K : PySem.W.Frag} {mg : Str → Option Value} {H : Hp} {v : V} (r : Rep K mg H v .non) : v = .non := by cases r; rfl
theorem Rep.refv {K : PySem.W.Frag} {mg : Str → Option Value} {H : Hp} {v : V} {a : Addr} (r : Rep K mg H v (.ref a)) : v = .ref a := by cases r; rfl
theorem Rep.tupv {K : PySem.W.Frag} {mg : Str → Option Value} {H : Hp} {v : V} {ds : List D} (r : Rep K mg H v (.tup ds)) : ∃ a xs, v = .ref a ∧ SqT K H a xs ∧ RepL K mg H xs ds := by cases r; exact ⟨_, _, rfl, ‹_›, ‹_›⟩
theorem Rep.rlv {K : PySem.W.Frag} {mg : Str → Option Value} {H : Hp} {v : V} {ds : List D} (r : Rep K mg H v (.rl ds)) : ∃ a xs, v = .ref a ∧ RdL K H a xs ∧ RepL K mg H xs ds := by cases r; exact ⟨_, _, rfl, ‹_›, ‹_›⟩
def dT (td : TED) : TTD := fun τ G X Q => td τ G X fun x G1 => asB x G1 Q
theorem lift_T {K : PySem.W.Frag} {mg : Str → Option Value} {σ : L2.St} {H : Hp} {Q : Bool → Hp → Prop} (h : liftT K mg W (dT ta) σ H Q) : tTest (liftE K mg W ta) σ H Q := by
  obtain ⟨τ, G, Xd, Qd, hσ, hA, h, hQ, hX⟩ := h
  refine ⟨τ, G, Xd, _, hσ, hA, h, fun x G1 v H1 e1 r1 a1 h1 => ?_, hX⟩
  obtain ⟨k, rfl, q⟩ := asB_of h1
  exact ⟨k, r1.blv, hQ k G1 H1 e1 a1 q⟩
theorem m_tcmp {op : CmpOp} {r : DR2} (ho : OpR X (compareOp op) (liftR2 X.K X.mg r)) (ha : ME X W a ta) (hb : ME X W b tb) (hm : behindInMarks op b = false := by first | exact nomark _ | rfl) : MT X W (.Compare a [op] [b] pos) (dT (dBin r ta tb)) :=
  PT.imp (pt_cmpR ho ha hb hm) fun σ H Q h => by
    obtain ⟨τ, G, Xd, Qd, hσ, hA, h, hQ, hX⟩ := lift_T h
    exact lift_bin ⟨τ, G, Xd, Qd, hσ, hA, h, hQ, hX⟩
/-- a test on a value that is True or False -/
theorem m_tval (ha : ME X W a ta) (he : ∀ whole, isTrue a X.env whole = (do let v ← whole; standAt a.pos; holding [v] (truthy v)) := by intro _; rfl) : MT X W a (dT ta) :=
  PT.imp (pt_val ha he) fun σ H Q h => lift_T h
end
end L3

namespace L3
open PySem PySem.Spec PyProof.Rows L2

/-- a list to be read -/
def oLst : Option DO → Option (List D)
  | some (.lst xs) => some xs
  | _ => none
theorem oLst_some {o : Option DO} {xs : List D} (h : oLst o = some xs) : o = some (.lst xs) := by
  cases o with
  | none => cases h
  | some u => cases u <;> first | (cases h; rfl) | cases h
def lstOf (G : DH) : D → Option (List D)
  | .ref a => oLst (G a)
  | .rl xs => some xs
  | .wl xs => some xs
  | _ => none
def mutOf (G : DH) : D → Option (List D)
  | .ref a => oLst (G a)
  | _ => none
theorem mutOf_lst {G : DH} {d : D} {xs : List D} (h : mutOf G d = some xs) : ∃ a, d = .ref a ∧ G a = some (.lst xs) := by
  cases d <;> first | exact ⟨_, rfl, oLst_some h⟩ | cases h
theorem WrL.sq {K : PySem.W.Frag} {H : Hp} {a : Addr} {xs : List V} (h : WrL K a xs) : SqL K H a xs := by
  obtain ⟨its, n, h1, h2, h3⟩ := h
  exact .inr ⟨_, its, n, h1, rfl, rfl, rfl, h2, h3⟩
section
variable {K : PySem.W.Frag} {mg : Str → Option Value} {H : Hp} {G : DH}
theorem lst_at {v : V} {d : D} {ds : List D} (A : Abs K mg G H) (r : Rep K mg H v d) (h : lstOf G d = some ds) : ∃ a xs, v = .ref a ∧ SqL K H a xs ∧ RepL K mg H xs ds := by
  cases d with
  | ref a =>
    obtain ⟨zs, e1, e2⟩ := A a _ (oLst_some h)
    exact ⟨a, zs, r.refv, .of e1, e2⟩
  | rl xs =>
    cases h
    obtain ⟨a, zs, e1, e2, e3⟩ := r.rlv
    exact ⟨a, zs, e1, e2.sq, e3⟩
  | wl xs =>
    cases h
    cases r with
    | wl w rr => exact ⟨_, _, rfl, w.sq, rr⟩
  | _ => cases h
theorem mut_at {v : V} {d : D} {ds : List D} (A : Abs K mg G H) (r : Rep K mg H v d) (h : mutOf G d = some ds) : ∃ a xs, v = .ref a ∧ d = .ref a ∧ G a = some (.lst ds) ∧ H a = some (.lst xs) ∧ RepL K mg H xs ds := by
  obtain ⟨a, rfl, e⟩ := mutOf_lst h
  obtain ⟨zs, e1, e2⟩ := A a _ e
  exact ⟨a, zs, r.refv, rfl, e, e1, e2⟩
end

/-! ### sums -/
inductive onSome {α : Type} (o : Option α) (Q : α → Prop) : Prop where
  | mk (x : α) (e : o = some x) (h : Q x) : onSome o Q
theorem onSome_of {α : Type} {o : Option α} {Q : α → Prop} (h : onSome o Q) : ∃ x, o = some x ∧ Q x := by cases h; exact ⟨_, ‹_›, ‹_›⟩
theorem onSome_i {α : Type} {o : Option α} {x : α} {Q : α → Prop} (e : o = some x) (h : Q x) : onSome o Q := .mk x e h
/-- a branch -/
inductive ifB (k : Bool) (A B : Prop) : Prop where
  | yes (e : k = true) (h : A) : ifB k A B
  | no (e : k = false) (h : B) : ifB k A B
theorem ifB_true {A B : Prop} : ifB true A B = A := by
  refine propext ⟨fun h => ?_, fun h => .yes rfl h⟩
  cases h with
  | yes _ h => exact h
  | no e _ => cases e
theorem ifB_false {A B : Prop} : ifB false A B = B := by
  refine propext ⟨fun h => ?_, fun h => .no rfl h⟩
  cases h with
  | yes e _ => cases e
  | no _ h => exact h
theorem ifB_t {k : Bool} {A B : Prop} (e : k = true) (h : A) : ifB k A B := .yes e h
theorem ifB_f {k : Bool} {A B : Prop} (e : k = false) (h : B) : ifB k A B := .no e h
theorem ifB_i {k : Bool} {A B : Prop} (h : k = true → A) (g : k = false → B) : ifB k A B := by
  cases k with
  | true => exact ifB_t rfl (h rfl)
  | false => exact ifB_f rfl (g rfl)
/-- a branch by a decision -/
theorem ifB_d {p : Prop} {inst : Decidable p} {A B : Prop} (h : p → A) (g : ¬ p → B) : ifB (decide p) A B := ifB_i (fun e => h (of_decide_eq_true e)) fun e => g (of_decide_eq_false e)
theorem ifB_nd {p : Prop} {inst : Decidable p} {A B : Prop} (h : ¬ p → A) (g : p → B) : ifB (!decide p) A B := ifB_i (fun e => h (by simpa using e)) fun e => g (by simpa using e)
def rNewL (xs : List D) (G : DH) (Q : DQ) : Prop := ∀ p, G p = none → Q (.ref p) (up G p (.lst xs))
def rAddD : DR2 := fun x y G Q => match x, y with
  | .int i, .int j => Q (.int (i + j)) G
  | .str a, .str b => a.length + b.length ≤ 16777216 ∧ Q (.str (a ++ b)) G
  | .tup a, .tup b => a.length + b.length ≤ 16777216 ∧ Q (.tup (a ++ b)) G
  | .ref a, .ref b => onSome (oLst (G a)) fun xs => onSome (oLst (G b)) fun ys => xs.length + ys.length ≤ 16777216 ∧ rNewL (xs ++ ys) G Q
  | .wl xs, .ref b => onSome (oLst (G b)) fun ys => xs.length + ys.length ≤ 16777216 ∧ rNewL (xs ++ ys) G Q
  | _, _ => False
section
variable {X : Cx} {W : WX}
theorem big_line {n : Nat} (h : n ≤ 16777216) : n ≤ sizeLine := by rw [sizeLine_eq]; exact h
theorem mo_add : OpR X (binaryOp .Add) (liftR2 X.K X.mg rAddD) := by
  intro pins s σ H x y v u Q I rx ry h
  obtain ⟨d, e, G, Qd, r1, r2, A, h, hQ⟩ := h
  cases d <;> cases e <;> first
    | exact (show False from h).elim
    | skip
  · -- int int
    exact op_add pins s σ H _ _ v u Q I rx ry ⟨_, _, r1.intv, r2.intv, hQ _ _ _ _ (.refl _) (.int _) A h⟩
  · -- str str
    exact op_add_str pins s σ H _ _ v u Q I rx ry ⟨_, _, r1.strv, r2.strv, big_line h.1, hQ _ _ _ _ (.refl _) (.str _) A h.2⟩
  · -- tup tup
    obtain ⟨a, xs, rfl, t1, l1⟩ := r1.tupv
    obtain ⟨b, ys, rfl, t2, l2⟩ := r2.tupv
    have hl := h.1
    rw [← l1.length, ← l2.length] at hl
    refine op_catA pins s σ H _ _ v u Q I rx ry ⟨a, b, xs, ys, rfl, rfl, t1, t2, big_line hl, fun z => ?_, fun _ z => ?_, fun _ _ p hp => ?_⟩
    · subst z; cases l1; exact hQ _ _ _ _ (.refl _) (.tup t2 l2) A h.2
    · subst z; cases l2; refine hQ _ _ _ _ (.refl _) (.tup t1 l1) A ?_; have q := h.2; rw [List.append_nil] at q; exact q
    · exact hQ _ _ _ _ (.new hp) (.tup (.of upd_same) ((l1.append l2).ext (.new hp))) (A.keep hp) h.2
  · -- ref ref
    obtain ⟨xs, ex, h⟩ := onSome_of h
    obtain ⟨ys, ey, hz, h⟩ := onSome_of h
    obtain ⟨zs, e1, l1⟩ := A _ _ (oLst_some ex)
    obtain ⟨ws, e2, l2⟩ := A _ _ (oLst_some ey)
    have hl := hz
    rw [← l1.length, ← l2.length] at hl
    refine op_cat pins s σ H _ _ v u Q I rx ry ⟨_, _, zs, ws, r1.refv, r2.refv, e1, e2, big_line hl, fun p hp => ?_⟩
    exact hQ _ _ _ _ (.new hp) (.ref p) (A.newL hp (l1.append l2)) (h p (A.none hp))
  · -- wl ref
    obtain ⟨ys, ey, hz, h⟩ := onSome_of h
    obtain ⟨ws, e2, l2⟩ := A _ _ (oLst_some ey)
    obtain rfl := r2.refv
    cases ry
    cases r1 with
    | wl w l1 =>
      cases rx
      obtain ⟨its, n, hk, hs, rv⟩ := w
      have hl := hz
      rw [← l1.length, ← l2.length] at hl
      have hv := rv.length
      obtain ⟨z2, its2, n2, rr2, hl2, e3⟩ := I.lstM e2
      refine PySem.P.add_list (I.kIn _ _ hk) e3 ?_ (by simp only [List.size_toArray, Array.length_toList] at hv ⊢; rw [sizeLine_eq]; omega)
      have ea : its ++ its2.toArray = (its.toList ++ its2).toArray := by apply Array.ext'; simp
      rw [ea]
      refine ⟨.ref _, _, I.lnew (t' := s.toks) (rv.append rr2) (by rw [List.length_append]; exact big_line hl), rfl, ?_⟩
      exact hQ _ _ _ _ (.new I.fresh) (.ref _) (A.newL I.fresh (l1.append l2)) (h _ (A.none I.fresh))

/-- two ints, under C -/
def rII (C : Int → Int → Prop) (g : Int → Int → D) : DR2 := fun x y G Q => match x, y with
  | .int i, .int j => C i j ∧ Q (g i j) G
  | _, _ => False
theorem mo_ii {f : Value → Value → Sem Value} {C C' : Int → Int → Prop} {g : Int → Int → V} {g' : Int → Int → D} (ho : OpR X f (rI C g)) (hC : ∀ i j, C' i j → C i j) (hg : ∀ H i j, C' i j → Rep X.K X.mg H (g i j) (g' i j)) : OpR X f (liftR2 X.K X.mg (rII C' g')) := by
  intro pins s σ H x y v u Q I rx ry h
  obtain ⟨d, e, G, Qd, r1, r2, A, h, hQ⟩ := h
  cases d <;> cases e <;> first
    | exact (show False from h).elim
    | exact ho pins s σ H _ _ v u Q I rx ry ⟨_, _, r1.intv, r2.intv, hC _ _ h.1, hQ _ _ _ _ (.refl _) (hg _ _ _ h.1) A h.2⟩
def rI1 (g : Int → Int → D) : DR2 := fun x y G Q => match x, y with
  | .int i, .int j => Q (g i j) G
  | _, _ => False
theorem mo_i1 {f : Value → Value → Sem Value} {g : Int → Int → V} {g' : Int → Int → D} (ho : OpR X f (rI0 g)) (hg : ∀ H i j, Rep X.K X.mg H (g i j) (g' i j)) : OpR X f (liftR2 X.K X.mg (rI1 g')) := by
  intro pins s σ H x y v u Q I rx ry h
  obtain ⟨d, e, G, Qd, r1, r2, A, h, hQ⟩ := h
  cases d <;> cases e <;> first
    | exact (show False from h).elim
    | exact ho pins s σ H _ _ v u Q I rx ry ⟨_, _, r1.intv, r2.intv, hQ _ _ _ _ (.refl _) (hg _ _ _) A h⟩
def rSubD : DR2 := rI1 fun i j => .int (i - j)
def rLtD : DR2 := rI1 fun i j => .bl (decide (i < j))
def rLeD : DR2 := rI1 fun i j => .bl (decide (i ≤ j))
def rGtD : DR2 := rI1 fun i j => .bl (decide (j < i))
def rGeD : DR2 := rI1 fun i j => .bl (decide (j ≤ i))
/-- a remainder by a positive number; floors: the divisor below 2 ^ 9000 -/
def rModD : DR2 := rII (fun _ j => 0 < j) fun i j => .int (i % j)
def CDivD (j : Int) : Prop := 0 < j ∧ j < 2 ^ 64
def rFdivD : DR2 := rII (fun _ j => CDivD j) fun i j => .int (i / j)
def rPowD : DR2 := rII (fun i j => 0 ≤ j ∧ j ≤ 1000 ∧ i.natAbs < 2 ^ 64) fun i j => .int (i ^ j.toNat)
theorem mo_sub : OpR X (binaryOp .Sub) (liftR2 X.K X.mg rSubD) := mo_i1 op_sub fun _ _ _ => .int _
theorem mo_lt : OpR X (compareOp .Lt) (liftR2 X.K X.mg rLtD) := mo_i1 op_lt fun _ _ _ => .bl _
theorem mo_le : OpR X (compareOp .LtE) (liftR2 X.K X.mg rLeD) := mo_i1 op_le fun _ _ _ => .bl _
theorem mo_gt : OpR X (compareOp .Gt) (liftR2 X.K X.mg rGtD) := mo_i1 op_gt fun _ _ _ => .bl _
theorem mo_ge : OpR X (compareOp .GtE) (liftR2 X.K X.mg rGeD) := mo_i1 op_ge fun _ _ _ => .bl _
theorem mo_mod : OpR X (binaryOp .Mod) (liftR2 X.K X.mg rModD) := mo_ii op_mod (fun _ _ h => h) fun _ _ _ _ => .int _
theorem mo_fdiv : OpR X (binaryOp .FloorDiv) (liftR2 X.K X.mg rFdivD) := mo_ii op_fdivW (fun _ j h => wide_div (b := 64) h.1 (by have := h.1; have := h.2; omega) (by decide) (by decide)) fun _ _ _ _ => .int _
theorem mo_pow : OpR X (binaryOp .Pow) (liftR2 X.K X.mg rPowD) := mo_ii op_pow (fun _ _ h => ⟨h.1, by have := h.2.1; omega, h.2.2⟩) fun _ _ _ _ => .int _
def small64 (i : Int) : Prop := -(2 ^ 64) < i ∧ i < 2 ^ 64
def rMulD : DR2 := fun x y G Q => match x, y with
  | .int i, .int j => (small64 i ∨ small64 j) ∧ Q (.int (i * j)) G
  | .ref a, .int k => onSome (oLst (G a)) fun xs => (-(2 ^ 63) ≤ k ∧ k < 2 ^ 63 ∧ xs.length * k.toNat ≤ 16777216) ∧ rNewL (List.replicate k.toNat xs).flatten G Q
  | .tup xs, .int k => (xs ≠ [] ∧ 2 ≤ k ∧ k ≤ 1000 ∧ xs.length ≤ 1000) ∧ Q (.tup (List.replicate k.toNat xs).flatten) G
  | _, _ => False
theorem mo_mul : OpR X (binaryOp .Mult) (liftR2 X.K X.mg rMulD) := by
  intro pins s σ H x y v u Q I rx ry h
  obtain ⟨d, e, G, Qd, r1, r2, A, h, hQ⟩ := h
  cases d <;> cases e <;> first
    | exact (show False from h).elim
    | skip
  · exact op_mul pins s σ H _ _ v u Q I rx ry ⟨_, _, r1.intv, r2.intv, h.1, hQ _ _ _ _ (.refl _) (.int _) A h.2⟩
  · obtain ⟨a, xs, rfl, t1, l1⟩ := r1.tupv
    obtain ⟨⟨h1, h2, h3, h4⟩, h⟩ := h
    refine op_repT pins s σ H _ _ v u Q I rx ry ⟨a, _, xs, rfl, r2.intv, t1, fun z => ?_, h2, h3, by rw [l1.length]; exact h4, fun p hp => ?_⟩
    · subst z; cases l1; exact h1 rfl
    · exact hQ _ _ _ _ (.new hp) (.tup (.of upd_same) ((l1.rep _).ext (.new hp))) (A.keep hp) h
  · obtain ⟨xs, ex, ⟨h1, h2, h3⟩, h⟩ := onSome_of h
    obtain ⟨zs, e1, l1⟩ := A _ _ (oLst_some ex)
    refine op_rep pins s σ H _ _ v u Q I rx ry ⟨_, _, zs, r1.refv, r2.intv, e1, h1, h2, by rw [l1.length]; exact big_line h3, fun p hp => ?_⟩
    exact hQ _ _ _ _ (.new hp) (.ref p) (A.newL hp (l1.rep _)) (h p (A.none hp))
end

/-! ### equality -/
def allPy (f : D → Option PyData) : List D → Option (List PyData)
  | [] => some []
  | d :: ds => (f d).bind fun p => (allPy f ds).map fun ps => p :: ps
def toPy (G : DH) : Nat → D → Option PyData
  | _, .non => some .none
  | _, .bl b => some (.bool b)
  | _, .int i => some (.int i)
  | _, .str x => match x.cps.toList.all fun c => decide (c < 1114112) with
    | true => some (.str x)
    | false => none
  | n + 1, .tup ds => (allPy (toPy G n) ds).map .tuple
  | n + 1, .rl ds => (allPy (toPy G n) ds).map .list
  | n + 1, .wl ds => (allPy (toPy G n) ds).map .list
  | n + 1, .ref a => (oLst (G a)).bind fun ds => (allPy (toPy G n) ds).map .list
  | _, _ => none
theorem allPy_ok {K : PySem.W.Frag} {mg : Str → Option Value} {H : Hp} {f : D → Option PyData} {m : Nat} (hf : ∀ d p v, f d = some p → Rep K mg H v d → Dp K H v p ∧ p.canLay0 = true ∧ p.depth ≤ m) :
    ∀ {ds : List D} {ps : List PyData} {vs : List V}, allPy f ds = some ps → RepL K mg H vs ds → DpAll K H vs ps ∧ PyData.canLayAll0 ps = true ∧ PyData.depthAll ps ≤ m
  | [], ps, vs, h, r => by
    cases r; cases h
    exact ⟨.nil, rfl, Nat.zero_le _⟩
  | d :: ds, ps, vs, h, r => by
    cases r with
    | cons r1 r2 =>
      unfold allPy at h
      obtain ⟨p, e1, h⟩ := Option.bind_eq_some_iff.mp h
      obtain ⟨qs, e2, e3⟩ := Option.map_eq_some_iff.mp h
      subst e3
      obtain ⟨a1, a2, a3⟩ := hf d p _ e1 r1
      obtain ⟨b1, b2, b3⟩ := allPy_ok hf e2 r2
      refine ⟨.cons a1 b1, ?_, ?_⟩
      · unfold PyData.canLayAll0; rw [a2, b2]; rfl
      · unfold PyData.depthAll; omega
theorem strOk_list (x : Str) : PyData.strOk x = x.cps.toList.all fun c => decide (c < 1114112) := by simp [PyData.strOk]
theorem toPy_ok {K : PySem.W.Frag} {mg : Str → Option Value} {H : Hp} {G : DH} (A : Abs K mg G H) : ∀ (n : Nat) (d : D) (p : PyData) (v : V), toPy G n d = some p → Rep K mg H v d → Dp K H v p ∧ p.canLay0 = true ∧ p.depth ≤ n := by
  intro n
  induction n with
  | zero =>
    intro d p v h r
    cases d with
    | non => simp only [toPy, Option.some.injEq] at h; subst h; rw [r.nonv]; exact ⟨.non, rfl, Nat.zero_le _⟩
    | bl b => simp only [toPy, Option.some.injEq] at h; subst h; rw [r.blv]; exact ⟨.bl _, rfl, Nat.zero_le _⟩
    | int b => simp only [toPy, Option.some.injEq] at h; subst h; rw [r.intv]; exact ⟨.int _, rfl, Nat.zero_le _⟩
    | str b =>
      simp only [toPy] at h
      split at h
      · rename_i q; cases h; rw [r.strv]; exact ⟨.str _, (strOk_list b).trans q, Nat.zero_le _⟩
      · cases h
    | _ => simp only [toPy] at h; cases h
  | succ n ih =>
    intro d p v h r
    have ih' : ∀ d p v, toPy G n d = some p → Rep K mg H v d → Dp K H v p ∧ p.canLay0 = true ∧ p.depth ≤ n := ih
    cases d with
    | non => simp only [toPy, Option.some.injEq] at h; subst h; rw [r.nonv]; exact ⟨.non, rfl, Nat.zero_le _⟩
    | bl b => simp only [toPy, Option.some.injEq] at h; subst h; rw [r.blv]; exact ⟨.bl _, rfl, Nat.zero_le _⟩
    | int b => simp only [toPy, Option.some.injEq] at h; subst h; rw [r.intv]; exact ⟨.int _, rfl, Nat.zero_le _⟩
    | str b =>
      simp only [toPy] at h
      split at h
      · rename_i q; cases h; rw [r.strv]; exact ⟨.str _, (strOk_list b).trans q, Nat.zero_le _⟩
      · cases h
    | tup ds =>
      simp only [toPy] at h
      obtain ⟨ps, e1, e2⟩ := Option.map_eq_some_iff.mp h
      subst e2
      obtain ⟨a, xs, rfl, t, l⟩ := r.tupv
      obtain ⟨b1, b2, b3⟩ := allPy_ok ih' e1 l
      exact ⟨.tup t b1, by unfold PyData.canLay0; exact b2, by unfold PyData.depth; omega⟩
    | rl ds =>
      simp only [toPy] at h
      obtain ⟨ps, e1, e2⟩ := Option.map_eq_some_iff.mp h
      subst e2
      obtain ⟨a, xs, rfl, t, l⟩ := r.rlv
      obtain ⟨b1, b2, b3⟩ := allPy_ok ih' e1 l
      exact ⟨.lst t.sq b1, by unfold PyData.canLay0; exact b2, by unfold PyData.depth; omega⟩
    | wl ds =>
      simp only [toPy] at h
      obtain ⟨ps, e1, e2⟩ := Option.map_eq_some_iff.mp h
      subst e2
      cases r with
      | wl w l =>
        obtain ⟨b1, b2, b3⟩ := allPy_ok ih' e1 l
        exact ⟨.lst w.sq b1, by unfold PyData.canLay0; exact b2, by unfold PyData.depth; omega⟩
    | ref a =>
      simp only [toPy] at h
      obtain ⟨ds, e0, h⟩ := Option.bind_eq_some_iff.mp h
      obtain ⟨ps, e1, e2⟩ := Option.map_eq_some_iff.mp h
      subst e2
      obtain ⟨xs, e3, l⟩ := A a _ (oLst_some e0)
      rw [r.refv]
      obtain ⟨b1, b2, b3⟩ := allPy_ok ih' e1 l
      exact ⟨.lst (.of e3) b1, by unfold PyData.canLay0; exact b2, by unfold PyData.depth; omega⟩
    | gl x => simp only [toPy] at h; cases h
theorem toPy_shaped {K : PySem.W.Frag} {mg : Str → Option Value} {H : Hp} {G : DH} (A : Abs K mg G H) {n : Nat} (hn : n ≤ 60) {d : D} {p : PyData} {v : V} (h : toPy G n d = some p) (r : Rep K mg H v d) : Dp K H v p ∧ SeqAt.shaped p = true := by
  obtain ⟨a, b, c⟩ := toPy_ok A n d p v h r
  refine ⟨a, ?_⟩
  unfold SeqAt.shaped
  rw [b, decide_eq_true (by omega)]
  rfl
/-- == of flat things at once, of others as data -/
def eqQ (neg : Bool) (x y : D) (G : DH) (Q : DQ) : Prop := match x, y with
  | .int i, .int j => Q (.bl (if neg then !decide (i = j) else decide (i = j))) G
  | .str i, .str j => Q (.bl (if neg then !decide (i = j) else decide (i = j))) G
  | .bl i, .bl j => Q (.bl (if neg then !decide (i = j) else decide (i = j))) G
  | x, y => onSome (toPy G 6 x) fun p => onSome (toPy G 6 y) fun q => Q (.bl (if neg then !PyData.eqv p q else PyData.eqv p q)) G
@[irreducible] def rEqD : DR2 := eqQ false
@[irreducible] def rNeD : DR2 := eqQ true
section
variable {X : Cx} {W : WX}
theorem mo_eq (hu : X.A.units + 65 < cLine) : OpR X (compareOp .Eq) (liftR2 X.K X.mg rEqD) := by
  intro pins s σ H x y v u Q I rx ry h
  obtain ⟨d, e, G, Qd, r1, r2, A, h, hQ⟩ := h
  unfold rEqD at h
  have gen : (onSome (toPy G 6 d) fun p => onSome (toPy G 6 e) fun q => Qd (.bl (PyData.eqv p q)) G) → wpAny (model X.prog X.w) X.A (compareOp .Eq v u) (EP X pins σ Q) X.xe s := fun h => by
    obtain ⟨p, e1, h⟩ := onSome_of h
    obtain ⟨q, e2, h⟩ := onSome_of h
    obtain ⟨a1, a2⟩ := toPy_shaped A (by decide) e1 r1
    obtain ⟨b1, b2⟩ := toPy_shaped A (by decide) e2 r2
    exact L2.op_eqD (by omega) pins s σ H x y v u Q I rx ry ⟨p, q, a1, b1, a2, b2, hQ _ _ _ _ (.refl _) (.bl _) A h⟩
  have flat : ∀ b : Bool, scal x y = true → decide (x = y) = b → Qd (.bl b) G → wpAny (model X.prog X.w) X.A (compareOp .Eq v u) (EP X pins σ Q) X.xe s := fun b h1 h2 h3 =>
    op_eq pins s σ H x y v u Q I rx ry ⟨h1, by rw [h2]; exact hQ _ _ _ _ (.refl _) (.bl b) A h3⟩
  cases d <;> cases e <;> first
    | exact gen h
    | skip
  all_goals first
    | (rename_i i j; have e1 := r1.blv; have e2 := r2.blv; subst e1 e2; exact flat (decide (i = j)) rfl (by rw [dec_bl]; first | rfl | simp | (rw [Bool.beq_eq_decide_eq])) h)
    | (rename_i i j; have e1 := r1.intv; have e2 := r2.intv; subst e1 e2; exact flat (decide (i = j)) rfl (by rw [dec_int]; first | rfl | simp | rw [Bool.beq_eq_decide_eq]) h)
    | (rename_i i j; have e1 := r1.strv; have e2 := r2.strv; subst e1 e2; exact flat (decide (i = j)) rfl (by rw [dec_str, Bool.beq_eq_decide_eq]) h)
theorem mo_ne (hu : X.A.units + 65 < cLine) : OpR X (compareOp .NotEq) (liftR2 X.K X.mg rNeD) := by
  intro pins s σ H x y v u Q I rx ry h
  obtain ⟨d, e, G, Qd, r1, r2, A, h, hQ⟩ := h
  unfold rNeD at h
  have gen : (onSome (toPy G 6 d) fun p => onSome (toPy G 6 e) fun q => Qd (.bl (!PyData.eqv p q)) G) → wpAny (model X.prog X.w) X.A (compareOp .NotEq v u) (EP X pins σ Q) X.xe s := fun h => by
    obtain ⟨p, e1, h⟩ := onSome_of h
    obtain ⟨q, e2, h⟩ := onSome_of h
    obtain ⟨a1, a2⟩ := toPy_shaped A (by decide) e1 r1
    obtain ⟨b1, b2⟩ := toPy_shaped A (by decide) e2 r2
    exact L2.op_neD (by omega) pins s σ H x y v u Q I rx ry ⟨p, q, a1, b1, a2, b2, hQ _ _ _ _ (.refl _) (.bl _) A h⟩
  have flat : ∀ b : Bool, scal x y = true → decide (x = y) = b → Qd (.bl (!b)) G → wpAny (model X.prog X.w) X.A (compareOp .NotEq v u) (EP X pins σ Q) X.xe s := fun b h1 h2 h3 =>
    op_ne pins s σ H x y v u Q I rx ry ⟨h1, by rw [h2]; exact hQ _ _ _ _ (.refl _) (.bl _) A h3⟩
  cases d <;> cases e <;> first
    | exact gen h
    | skip
  all_goals first
    | (rename_i i j; have e1 := r1.blv; have e2 := r2.blv; subst e1 e2; exact flat (decide (i = j)) rfl (by rw [dec_bl]; first | rfl | simp | (rw [Bool.beq_eq_decide_eq])) h)
    | (rename_i i j; have e1 := r1.intv; have e2 := r2.intv; subst e1 e2; exact flat (decide (i = j)) rfl (by rw [dec_int]; first | rfl | simp | rw [Bool.beq_eq_decide_eq]) h)
    | (rename_i i j; have e1 := r1.strv; have e2 := r2.strv; subst e1 e2; exact flat (decide (i = j)) rfl (by rw [dec_str, Bool.beq_eq_decide_eq]) h)
end
end L3

namespace L3
open PySem PySem.Spec PyProof.Rows L2

/-! ### is None -/
def isN : D → Bool
  | .non => true
  | _ => false
def dIsN (neg : Bool) (ta : TED) : TED := fun τ G X Q => ta τ G X fun x G1 => Q (.bl (if neg then !isN x else isN x)) G1
theorem Rep.isN {K : PySem.W.Frag} {mg : Str → Option Value} {H : Hp} {v : V} {d : D} (r : Rep K mg H v d) : decide (v = .non) = isN d := by
  cases r <;> rfl
section
variable {X : Cx} {W : WX} {a b c : Expr} {ta tb tc : TED} {pos : Pos}
theorem m_isN {j p2} (ha : ME X W a ta) : ME X W (.Compare a [.Is] [.Constant .none j p2] pos) (dIsN false ta) :=
  PE.imp (pe_cmpR op_isN ha pe_non (nomark _)) fun σ H Q ⟨τ, G, Xd, Qd, hσ, hA, h, hQ, hX⟩ =>
    ⟨τ, G, Xd, _, hσ, hA, h, fun d G1 v H1 e r A h => ⟨rfl, by rw [r.isN]; exact hQ _ _ _ _ e (.bl _) A h⟩, hX⟩
theorem m_notN {j p2} (ha : ME X W a ta) : ME X W (.Compare a [.IsNot] [.Constant .none j p2] pos) (dIsN true ta) :=
  PE.imp (pe_cmpR op_notN ha pe_non (nomark _)) fun σ H Q ⟨τ, G, Xd, Qd, hσ, hA, h, hQ, hX⟩ =>
    ⟨τ, G, Xd, _, hσ, hA, h, fun d G1 v H1 e r A h => ⟨rfl, by rw [r.isN]; exact hQ _ _ _ _ e (.bl _) A h⟩, hX⟩

/-! ### chains -/
def dChain (r r' : DR2) (ta tb tc : TED) : TED := fun τ G X Q => ta τ G X fun x G1 => tb τ G1 X fun y G2 => r x y G2 fun z G3 => asB z G3 fun k G4 =>
  ifB k (tc τ G4 X fun u G5 => r' y u G5 Q) (Q (.bl false) G4)
theorem m_chain {op op' : CmpOp} {r r' : DR2} (ho : OpR X (compareOp op) (liftR2 X.K X.mg r)) (ho' : OpR X (compareOp op') (liftR2 X.K X.mg r')) (ha : ME X W a ta) (hb : ME X W b tb) (hc : ME X W c tc)
    (hm : lastMarks [op, op'] [b, c] = false := by rfl) : ME X W (.Compare a [op, op'] [b, c] pos) (dChain r r' ta tb tc) :=
  PE.imp (pe_chain ho ho' ha hb hc hm) fun σ H Q ⟨τ, G, Xd, Qd, hσ, hA, h, hQ, hX⟩ => by
    refine ⟨τ, G, Xd, _, hσ, hA, h, fun x G1 v H1 e1 r1 a1 h1 => ?_, hX⟩
    refine ⟨τ, G1, Xd, _, hσ.ext e1, a1, h1, fun y G2 u H2 e2 r2 a2 h2 => ?_, hX.ext e1⟩
    refine ⟨x, y, G2, _, r1.ext e2, r2, a2, h2, fun z G3 w H3 e3 r3 a3 h3 => ?_⟩
    obtain ⟨k, rfl, h4⟩ := asB_of h3
    refine ⟨k, r3.blv, ?_⟩
    have e13 := (e1.trans e2).trans e3
    cases k with
    | true =>
      rw [ifB_true] at h4; rw [if_pos rfl]
      refine ⟨τ, G3, Xd, _, hσ.ext e13, a3, h4, fun q G5 w5 H5 e5 r5 a5 h5 => ?_, hX.ext e13⟩
      exact ⟨y, q, G5, Qd, (r2.ext e3).ext e5, r5, a5, h5, fun d' G' v' H' e' r' a' q' => hQ d' G' v' H' ((e13.trans e5).trans e') r' a' q'⟩
    | false =>
      rw [ifB_false] at h4; rw [if_neg Bool.false_ne_true]
      exact hQ _ _ _ _ e13 (.bl false) a3 h4

/-! ### logic -/
def dNotT (t : TTD) : TTD := fun τ G X Q => t τ G X fun k G1 => Q (!k) G1
def dAndT (t u : TTD) : TTD := fun τ G X Q => t τ G X fun k G1 => ifB k (u τ G1 X Q) (Q false G1)
def dOrT (t u : TTD) : TTD := fun τ G X Q => t τ G X fun k G1 => ifB k (Q true G1) (u τ G1 X Q)
def dIfE (t : TTD) (ta tb : TED) : TED := fun τ G X Q => t τ G X fun k G1 => ifB k (ta τ G1 X Q) (tb τ G1 X Q)
/-- a test as a value -/
def dNotV (ta : TED) : TED := fun τ G X Q => ta τ G X fun x G1 => asB x G1 fun k G2 => Q (.bl (!k)) G2
def dAndV (ta tb : TED) : TED := fun τ G X Q => ta τ G X fun x G1 => asB x G1 fun k G2 => ifB k (tb τ G2 X Q) (Q (.bl false) G2)
def dOrV (ta tb : TED) : TED := fun τ G X Q => ta τ G X fun x G1 => asB x G1 fun k G2 => ifB k (Q (.bl true) G2) (tb τ G2 X Q)
variable {rest : List Expr} {t u : TTD}
theorem m_tnot (ha : MT X W a t) : MT X W (.UnaryOp .Not a pos) (dNotT t) := PT.imp (pt_not ha) fun σ H Q ⟨τ, G, Xd, Qd, hσ, hA, h, hQ, hX⟩ =>
  ⟨τ, G, Xd, _, hσ, hA, h, fun k G1 H1 e A h => hQ _ _ _ e A h, hX⟩
theorem lift_andT {K : PySem.W.Frag} {mg : Str → Option Value} {σ : L2.St} {H : Hp} {Q : Bool → Hp → Prop} (h : liftT K mg W (dAndT t u) σ H Q) : tAnd (liftT K mg W t) (liftT K mg W u) σ H Q := by
  obtain ⟨τ, G, Xd, Qd, hσ, hA, h, hQ, hX⟩ := h
  refine ⟨τ, G, Xd, _, hσ, hA, h, fun k G1 H1 e A h => ?_, hX⟩
  cases k with
  | true => rw [ifB_true] at h; rw [if_pos rfl]; exact ⟨τ, G1, Xd, Qd, hσ.ext e, A, h, fun b G' H' e' A' q => hQ _ _ _ (e.trans e') A' q, hX.ext e⟩
  | false => rw [ifB_false] at h; rw [if_neg Bool.false_ne_true]; exact hQ _ _ _ e A h
theorem lift_orT {K : PySem.W.Frag} {mg : Str → Option Value} {σ : L2.St} {H : Hp} {Q : Bool → Hp → Prop} (h : liftT K mg W (dOrT t u) σ H Q) : tOr (liftT K mg W t) (liftT K mg W u) σ H Q := by
  obtain ⟨τ, G, Xd, Qd, hσ, hA, h, hQ, hX⟩ := h
  refine ⟨τ, G, Xd, _, hσ, hA, h, fun k G1 H1 e A h => ?_, hX⟩
  cases k with
  | true => rw [ifB_true] at h; rw [if_pos rfl]; exact hQ _ _ _ e A h
  | false => rw [ifB_false] at h; rw [if_neg Bool.false_ne_true]; exact ⟨τ, G1, Xd, Qd, hσ.ext e, A, h, fun b G' H' e' A' q => hQ _ _ _ (e.trans e') A' q, hX.ext e⟩
theorem mw_and1 (ha : MT X W a t) : MW X W (.BoolOp .And [a] pos) t := pw_and1 ha
theorem mw_or1 (ha : MT X W a t) : MW X W (.BoolOp .Or [a] pos) t := pw_or1 ha
theorem mw_and (ha : MT X W a t) (hb : MW X W (.BoolOp .And (b :: rest) pos) u) : MW X W (.BoolOp .And (a :: b :: rest) pos) (dAndT t u) := PW.imp (pw_and ha hb) fun _ _ _ h => lift_andT h
theorem mw_or (ha : MT X W a t) (hb : MW X W (.BoolOp .Or (b :: rest) pos) u) : MW X W (.BoolOp .Or (a :: b :: rest) pos) (dOrT t u) := PW.imp (pw_or ha hb) fun _ _ _ h => lift_orT h
theorem m_tw (h : MW X W a t) : MT X W a t := h.pt
theorem m_not (ha : ME X W a ta) : ME X W (.UnaryOp .Not a pos) (dNotV ta) := PE.imp (pe_not ha) fun σ H Q ⟨τ, G, Xd, Qd, hσ, hA, h, hQ, hX⟩ =>
  ⟨τ, G, Xd, _, hσ, hA, h, fun x G1 v H1 e r A h => by
    obtain ⟨k, rfl, h⟩ := asB_of h
    exact ⟨k, r.blv, hQ _ _ _ _ e (.bl _) A h⟩, hX⟩
theorem m_one {op} (h : ME X W a ta) : ME X W (.BoolOp op [a] pos) ta := pe_one h
theorem m_and (ha : ME X W a ta) (hb : ME X W (.BoolOp .And (b :: rest) pos) tb) : ME X W (.BoolOp .And (a :: b :: rest) pos) (dAndV ta tb) := PE.imp (pe_and ha hb) fun σ H Q ⟨τ, G, Xd, Qd, hσ, hA, h, hQ, hX⟩ =>
  ⟨τ, G, Xd, _, hσ, hA, h, fun x G1 v H1 e r A h0 => by
    obtain ⟨k, rfl, h⟩ := asB_of h0
    refine ⟨k, r.blv, ?_⟩
    clear h0
    cases k with
    | true => rw [ifB_true] at h; rw [if_pos rfl]; exact ⟨τ, G1, Xd, Qd, hσ.ext e, A, h, fun _ _ _ _ e' r' A' q => hQ _ _ _ _ (e.trans e') r' A' q, hX.ext e⟩
    | false => rw [ifB_false] at h; rw [if_neg Bool.false_ne_true]; exact hQ _ _ _ _ e (.bl _) A h, hX⟩
theorem m_or (ha : ME X W a ta) (hb : ME X W (.BoolOp .Or (b :: rest) pos) tb) : ME X W (.BoolOp .Or (a :: b :: rest) pos) (dOrV ta tb) := PE.imp (pe_or ha hb) fun σ H Q ⟨τ, G, Xd, Qd, hσ, hA, h, hQ, hX⟩ =>
  ⟨τ, G, Xd, _, hσ, hA, h, fun x G1 v H1 e r A h0 => by
    obtain ⟨k, rfl, h⟩ := asB_of h0
    refine ⟨k, r.blv, ?_⟩
    clear h0
    cases k with
    | true => rw [ifB_true] at h; rw [if_pos rfl]; exact hQ _ _ _ _ e (.bl _) A h
    | false => rw [ifB_false] at h; rw [if_neg Bool.false_ne_true]; exact ⟨τ, G1, Xd, Qd, hσ.ext e, A, h, fun _ _ _ _ e' r' A' q => hQ _ _ _ _ (e.trans e') r' A' q, hX.ext e⟩, hX⟩
theorem m_ifE (hc : MT X W c t) (ha : ME X W a ta) (hb : ME X W b tb) : ME X W (.IfExp c a b pos) (dIfE t ta tb) := PE.imp (pe_ifExp hc ha hb) fun σ H Q ⟨τ, G, Xd, Qd, hσ, hA, h, hQ, hX⟩ =>
  ⟨τ, G, Xd, _, hσ, hA, h, fun k G1 H1 e A h => by
    cases k with
    | true => rw [ifB_true] at h; rw [if_pos rfl]; exact ⟨τ, G1, Xd, Qd, hσ.ext e, A, h, fun _ _ _ _ e' r' A' q => hQ _ _ _ _ (e.trans e') r' A' q, hX.ext e⟩
    | false => rw [ifB_false] at h; rw [if_neg Bool.false_ne_true]; exact ⟨τ, G1, Xd, Qd, hσ.ext e, A, h, fun _ _ _ _ e' r' A' q => hQ _ _ _ _ (e.trans e') r' A' q, hX.ext e⟩, hX⟩
end

/-! ### argument lists, displays -/
def dNil : TAD := fun _ G _ Q => Q [] G
def dCons (ta : TED) (tr : TAD) : TAD := fun τ G X Q => ta τ G X fun x G1 => tr τ G1 X fun xs G2 => Q (x :: xs) G2
def dTup (t : TAD) : TED := fun τ G X Q => t τ G X fun xs G1 => xs.length ≤ 16777216 ∧ Q (.tup xs) G1
def dLst (t : TAD) : TED := fun τ G X Q => t τ G X fun xs G1 => xs.length ≤ 16777216 ∧ rNewL xs G1 Q
section
variable {X : Cx} {W : WX} {e : Expr} {es : List Expr} {te : TED} {t : TAD} {pos : Pos}
theorem ma_nil : MA X W [] dNil := PA.imp pa_nil fun σ H Q ⟨τ, G, Xd, Qd, hσ, hA, h, hQ, hX⟩ => hQ _ _ _ _ (.refl _) .nil hA h
theorem ma_cons (ha : ME X W e te) (hr : MA X W es t) (hs : starEach (e :: es) X.env = (false, eval e X.env) :: starEach es X.env := by rfl) : MA X W (e :: es) (dCons te t) :=
  PA.imp (pa_cons ha hr hs) fun σ H Q ⟨τ, G, Xd, Qd, hσ, hA, h, hQ, hX⟩ =>
    ⟨τ, G, Xd, _, hσ, hA, h, fun x G1 v H1 e1 r1 a1 h1 => ⟨τ, G1, Xd, _, hσ.ext e1, a1, h1, fun xs G2 vs H2 e2 r2 a2 h2 =>
      hQ _ _ _ _ (e1.trans e2) (.cons (r1.ext e2) r2) a2 h2, hX.ext e1⟩, hX⟩
theorem m_tup {x1} (h : MA X W es t) : ME X W (.Tuple es x1 pos) (dTup t) := PE.imp (pe_tup h) fun σ H Q ⟨τ, G, Xd, Qd, hσ, hA, h, hQ, hX⟩ =>
  ⟨τ, G, Xd, _, hσ, hA, h, fun ds G1 vs H1 e1 r1 a1 h1 => ⟨by rw [r1.length]; exact big_line h1.1, fun p hp =>
    hQ _ _ _ _ (e1.trans (.new hp)) (.tup (.of upd_same) (r1.ext (.new hp))) (a1.keep hp) h1.2⟩, hX⟩
theorem m_lst (h : MA X W es t) : ME X W (.List es pos) (dLst t) := PE.imp (pe_lst h) fun σ H Q ⟨τ, G, Xd, Qd, hσ, hA, h, hQ, hX⟩ =>
  ⟨τ, G, Xd, _, hσ, hA, h, fun ds G1 vs H1 e1 r1 a1 h1 => ⟨by rw [r1.length]; exact big_line h1.1, fun p hp =>
    hQ _ _ _ _ (e1.trans (.new hp)) (.ref p) (a1.newL hp r1) (h1.2 p (a1.none hp))⟩, hX⟩
end

/-! ### defs, classes, methods -/
/-- what a call may let out -/
def EX (K : PySem.W.Frag) (mg : Str → Option Value) (W : WX) (Xd : DX) (σ : L2.St) (H : Hp) : XK := fun cls dd H' => W cls dd σ H'
/-- the def x of the module keeps sp -/
structure FnD (P : Program) (w : World) (K : PySem.W.Frag) (mg : Str → Option Value) (base : Heap) (k : Nat) (x : Str) (sp : DSp) : Prop where
  ok : ∃ f fd ps, mg x = some (.ref f) ∧ PySem.W.keepIn K (.ref f) = true ∧ Binds K fd ps [] ∧ FnOk P w K mg base (L2.CX P w) k f fd ps (liftSp K mg sp)
/-- the method m of the class c keeps sp (the instance first) -/
structure MtD (P : Program) (w : World) (K : PySem.W.Frag) (mg : Str → Option Value) (base : Heap) (k : Nat) (c : String) (m : Str) (sp : DSp) : Prop where
  ok : ∀ C, mg (c : Str) = some (.ref C) → ∃ f fd ps, Cls K C ∧ Meth K C m f ∧ Binds K fd ps [] ∧ FnOk P w K mg base (L2.CX P w) k f fd ps (liftSp K mg sp)
/-- the class c is made by an __init__ that keeps sp -/
structure MkD (P : Program) (w : World) (K : PySem.W.Frag) (mg : Str → Option Value) (base : Heap) (k : Nat) (c : Str) (sp : DSp) : Prop where
  ok : ∃ C f fd ps, mg c = some (.ref C) ∧ Mk K C f ∧ Binds K fd ps [] ∧ FnOk P w K mg base (L2.CX P w) k f fd ps (liftSp K mg sp)
def dCall (sp : DSp) (t : TAD) : TED := fun τ G X Q => t τ G X fun ds G1 => sp ds G1 Q X
def dMake (c : String) (sp : DSp) (t : TAD) : TED := fun τ G X Q => t τ G X fun ds G1 => ∀ x, G1 x = none → sp (.ref x :: ds) (up G1 x (.ins c [])) (fun v G2 => v = .non ∧ Q (.ref x) G2) X
def clsOf : Option DO → Option String
  | some (.ins c _) => some c
  | _ => none
def recv (G : DH) : D → Option String
  | .ref a => clsOf (G a)
  | _ => none
/-- o.m(..): the promise by the instance's class -/
def dMeth (tab : List (String × DSp)) (ta : TED) (t : TAD) : TED := fun τ G X Q => ta τ G X fun x G1 => onSome (recv G1 x) fun c => onSome (tab.lookup c) fun sp => t τ G1 X fun ds G2 => sp (x :: ds) G2 Q X
theorem recv_of {G : DH} {x : D} {c : String} (h : recv G x = some c) : ∃ a fs, x = .ref a ∧ G a = some (.ins c fs) := by
  cases x with
  | ref a =>
    cases e : G a with
    | none => simp [recv, e, clsOf] at h
    | some o =>
      cases o <;> simp [recv, e, clsOf] at h
      subst h
      exact ⟨a, _, rfl, e⟩
  | _ => cases h
section
variable {X : Cx} {W : WX} {e o : Expr} {es : List Expr} {te to : TED} {t : TAD} {pos p apos : Pos} {k : Nat}
theorem lift_sp {K : PySem.W.Frag} {mg : Str → Option Value} {sp : DSp} {H H0 : Hp} {σ : L2.St} {vs : List V} {ds : List D} {G : DH} {Qd : DQ} {Xd : DX} {Q : VK} (r : RepL K mg H vs ds) (A : Abs K mg G H) (h : sp ds G Qd Xd) (e : Ext H0 H)
    (hQ : ∀ d G' v H', Ext H0 H' → Rep K mg H' v d → Abs K mg G' H' → Qd d G' → Q v H') (hX : XOk K mg W Xd σ H0) : liftSp K mg sp vs H Q (fun cls dd H' => W cls dd σ H') :=
  ⟨ds, G, Qd, Xd, r, A, h, fun d G' v H' e' => hQ d G' v H' (e.trans e'), fun c d G' cls dd H' e' => hX c d G' cls dd H' (e.trans e')⟩
theorem m_call {x : Str} {sp : DSp} (F : FnD X.prog X.w X.K X.mg X.base k x sp) (hr : Room k X.A) (tk : Takes X W) (ha : MA X W (e :: es) t) (hg : Gl X x := by rfl) (hdb : (x == ("__debug__" : Str)) = false := by decide)
    (he : starEach (e :: es) X.env = (false, eval e X.env) :: starEach es X.env := by rfl) (hpl : (backTo pos (starEach es X.env)).any (·.1) = false := by rfl) : ME X W (.Call (.Name x p) (e :: es) [] pos) (dCall sp t) := by
  obtain ⟨f, fd, ps, hm, hk, hb, ok⟩ := F.ok
  refine PE.imp (pe_callS (E := WE W) ok hr hg hm hk hb (passAt tk) ha hdb he hpl) fun σ H Q ⟨τ, G, Xd, Qd, hσ, hA, h, hQ, hX⟩ => ?_
  exact ⟨τ, G, Xd, _, hσ, hA, h, fun ds G1 vs H1 e1 r1 a1 h1 => lift_sp r1 a1 h1 e1 hQ hX, hX⟩
theorem m_call0 {x : Str} {sp : DSp} (F : FnD X.prog X.w X.K X.mg X.base k x sp) (hr : Room k X.A) (tk : Takes X W) (hg : Gl X x := by rfl) (hdb : (x == ("__debug__" : Str)) = false := by decide) : ME X W (.Call (.Name x p) [] [] pos) (dCall sp dNil) := by
  obtain ⟨f, fd, ps, hm, hk, hb, ok⟩ := F.ok
  refine ⟨fun pins s σ H Q I ⟨τ, G, Xd, Qd, hσ, hA, h, hQ, hX⟩ => ?_⟩
  refine wpAny_Call_Name_kw (ld_glob I hg hm ?_ hdb)
  exact PySem.W.callWith_K0 I.kIn hk (run_fnS (us := []) (E := WE W) ok hr hb (passAt tk σ) I .nil (lift_sp .nil hA h (.refl _) hQ hX))
theorem lookup_none_of {c : String} {m : String} {fs : List (String × D)} (F : FldAll c fs) (hm : fldOk c m = false) : fs.lookup m = none := by
  cases q : fs.lookup m with
  | none => rfl
  | some v => have := F m v q; rw [hm] at this; cases this
/-- every class of the table has the method, and no field of that name -/
def TabOk (P : Program) (w : World) (K : PySem.W.Frag) (mg : Str → Option Value) (base : Heap) (k : Nat) (m : String) (tab : List (String × DSp)) : Prop := ∀ c sp, tab.lookup c = some sp → fldOk c m = false ∧ MtD P w K mg base k c (m : Str) sp
theorem TabOk.nil {m : String} : TabOk X.prog X.w X.K X.mg X.base k m [] := fun _ _ h => by cases h
theorem TabOk.cons {m c : String} {sp : DSp} {tab : List (String × DSp)} (h1 : fldOk c m = false) (h2 : MtD X.prog X.w X.K X.mg X.base k c (m : Str) sp) (h : TabOk X.prog X.w X.K X.mg X.base k m tab) : TabOk X.prog X.w X.K X.mg X.base k m ((c, sp) :: tab) := fun c' sp' q => by
  by_cases e : c' = c
  · subst e; simp [List.lookup] at q; subst q; exact ⟨h1, h2⟩
  · have e1 : (c' == c) = false := by simpa using e
    simp only [List.lookup, e1] at q
    exact h _ _ q
theorem m_meth {pl : Sem Bool} {m : String} {tab : List (String × DSp)} (T : TabOk X.prog X.w X.K X.mg X.base k m tab) (hr : Room k X.A) (tk : Takes X W) (ho : ME X W o to) (ha : MA X W (e :: es) t)
    (hst : starEach (e :: es) X.env = (false, eval e X.env) :: starEach es X.env := by rfl) (hpl : (backTo pos (starEach es X.env)).any (·.1) = false := by rfl)
    (ht : eval (.Call (.Attribute o (m : Str) apos) (e :: es) [] pos) X.env = (do
      let ov ← eval o X.env
      standAt apos.atName
      let (f, first) ← holding [ov] (getMethod ov (m : Str) pl)
      callWith pos f first (backTo pos (starEach (e :: es) X.env)) (backToKw pos (keywordEach [] X.env))) := by rfl) :
    ME X W (.Call (.Attribute o (m : Str) apos) (e :: es) [] pos) (dMeth tab to t) := by
  refine ⟨fun pins s σ H Q I ⟨τ, G, Xd, Qd, hσ, hA, h, hQ, hX⟩ => ?_⟩
  refine PySem.W.methodCall_KW (pl := pl) (thn (ho.run pins s σ H (fun v H1 => ∃ d G1, Ext H H1 ∧ Rep X.K X.mg H1 v d ∧ Abs X.K X.mg G1 H1 ∧ _) I ⟨τ, G, Xd, _, hσ, hA, h, fun d G1 v H1 e1 r1 a1 h1 => ⟨d, G1, e1, r1, a1, h1⟩, hX⟩) fun u s1 ⟨x, H1, I1, rx, d, G1, e1, r1, a1, h1⟩ => ?_) ht
  obtain ⟨c, hc, h1⟩ := onSome_of h1
  obtain ⟨sp, hsp, h1⟩ := onSome_of h1
  obtain ⟨a, fs, rfl, ea⟩ := recv_of hc
  obtain ⟨hf, M⟩ := T c sp hsp
  obtain ⟨C, dx, vs, hC, eH, fr, fo, _⟩ := a1 a _ ea
  obtain ⟨f, fd, ps, cl, mt, hb, ok⟩ := M.ok C hC
  have e2 := r1.refv
  subst e2
  obtain rfl : u = Value.ref a := rx
  refine getmeth_ok I1 eH cl mt (fr.none (lookup_none_of fo hf)) ?_
  refine PySem.W.callWith_K (first := [.ref a]) (h₀ := X.base) I.ok.mod.kin mt.kp (thn (ha.run pos pins s1 σ H1 (fun vs H2 => ∃ ds G2, Ext H1 H2 ∧ RepL X.K X.mg H2 vs ds ∧ Abs X.K X.mg G2 H2 ∧ _) I1 ⟨τ, G1, Xd, _, hσ.ext e1, a1, h1, fun ds G2 vs H2 e2 r2 a2 h2 => ⟨ds, G2, e2, r2, a2, h2⟩, hX.ext e1⟩) fun us s2 ⟨vs, H2, I2, r, ds, G2, e2, r2, a2, h2⟩ => ⟨I2.kIn, ?_⟩) hst hpl
  exact run_fnS (us := .ref a :: us) (vs := .ref a :: vs) (E := WE W) ok hr hb (passAt tk σ) I2 (.cons rfl r) (lift_sp (.cons (.ref a) r2) a2 h2 (e1.trans e2) hQ hX)
theorem m_meth0 {pl : Sem Bool} {m : String} {tab : List (String × DSp)} (T : TabOk X.prog X.w X.K X.mg X.base k m tab) (hr : Room k X.A) (tk : Takes X W) (ho : ME X W o to)
    (ht : eval (.Call (.Attribute o (m : Str) apos) [] [] pos) X.env = (do
      let ov ← eval o X.env
      standAt apos.atName
      let (f, first) ← holding [ov] (getMethod ov (m : Str) pl)
      callWith pos f first (backTo pos (starEach [] X.env)) (backToKw pos (keywordEach [] X.env))) := by rfl) :
    ME X W (.Call (.Attribute o (m : Str) apos) [] [] pos) (dMeth tab to dNil) := by
  refine ⟨fun pins s σ H Q I ⟨τ, G, Xd, Qd, hσ, hA, h, hQ, hX⟩ => ?_⟩
  refine PySem.W.methodCall_KW (pl := pl) (thn (ho.run pins s σ H (fun v H1 => ∃ d G1, Ext H H1 ∧ Rep X.K X.mg H1 v d ∧ Abs X.K X.mg G1 H1 ∧ _) I ⟨τ, G, Xd, _, hσ, hA, h, fun d G1 v H1 e1 r1 a1 h1 => ⟨d, G1, e1, r1, a1, h1⟩, hX⟩) fun u s1 ⟨x, H1, I1, rx, d, G1, e1, r1, a1, h1⟩ => ?_) ht
  obtain ⟨c, hc, h1⟩ := onSome_of h1
  obtain ⟨sp, hsp, h1⟩ := onSome_of h1
  obtain ⟨a, fs, rfl, ea⟩ := recv_of hc
  obtain ⟨hf, M⟩ := T c sp hsp
  obtain ⟨C, dx, vs, hC, eH, fr, fo, _⟩ := a1 a _ ea
  obtain ⟨f, fd, ps, cl, mt, hb, ok⟩ := M.ok C hC
  have e2 := r1.refv
  subst e2
  obtain rfl : u = Value.ref a := rx
  refine getmeth_ok I1 eH cl mt (fr.none (lookup_none_of fo hf)) ?_
  exact PySem.W.callWith_K0 (first := [.ref a]) I1.kIn mt.kp (run_fnS (us := [.ref a]) (vs := [.ref a]) (E := WE W) ok hr hb (passAt tk σ) I1 (.cons rfl .nil) (lift_sp (.cons (.ref a) .nil) a1 h1 e1 hQ hX))

theorem run_makeS {C f : Addr} {fd : FuncData} {ps : List Str} {sp : Sp} {E : XK} {pins : List (Addr × Obj)} {σ : L2.St} {H : Hp} {s : Shared} {Q : VK} {us : List Value} {vs : List V} (M : Mk X.K C f) (F : FnOk X.prog X.w X.K X.mg X.base (L2.CX X.prog X.w) k f fd ps sp) (hr : Room (k + 1) X.A) (hb : Binds X.K fd ps [])
    (hx : PassesAt (L2.CX X.prog X.w) X σ E) (I : Inv X pins σ H s) (r : Vals vs us)
    (h : ∀ x dx, H x = none → H dx = none → dx ≠ x → sp (.ref x :: vs) (upd (upd H dx (.own x)) x (.ins C dx [])) (fun v H2 => v = .non ∧ Q (.ref x) H2) E) :
    wpAny (model X.prog X.w) X.A (call (.ref C) us) (EP X pins σ Q) X.xe s := by
  have hq := h (s.heap.objs.size + 1) s.heap.objs.size (I.hok.fresh (Nat.le_succ _)) (I.hok.fresh (Nat.le_refl _)) (Nat.ne_of_lt (Nat.lt_succ_self _))
  have I2 := Inv.made (C := C) I
  have r2 : Vals (V.ref (s.heap.objs.size + 1) :: vs) (Value.ref (s.heap.objs.size + 1) :: us) := .cons rfl r
  have hl : (Value.ref (s.heap.objs.size + 1) :: us).length = ps.length := by
    have e := r2.length
    rw [F.len _ _ _ _ hq] at e
    exact e.symm
  have b := hb _ (Value.ref (s.heap.objs.size + 1) :: us) I2.kIn (by rw [List.append_nil]; exact hl)
  rw [List.append_nil] at b
  refine wpAny_call (make_map (f := f) I.kIn M.makes M.init (beq_iff_eq.mp M.fn) (codeAny_mono (F.run _ X.stack _ _ ⟨Value.ref (s.heap.objs.size + 1) :: us, []⟩ (Value.ref (s.heap.objs.size + 1) :: us) _ _ E (hr.make C us [])
    (I2.env0.make C us []) b r2 hq) fun r s' hq' => ?_))
  cases r with
  | error e => exact hx pins _ _ e s' I2 hq'
  | ok fl =>
    cases fl with
    | ret u =>
      obtain ⟨v, H', I3, rv, ev, q3⟩ := I2.after hq'
      subst ev
      exact ⟨rv, ⟨V.ref (s.heap.objs.size + 1), H', I3, rfl, q3⟩⟩
    | next => exact False.elim hq'
    | brk => exact False.elim hq'
    | cont => exact False.elim hq'
theorem lift_make {c : String} {sp : DSp} {C : Addr} (hC : X.mg (c : Str) = some (.ref C)) {H H0 : Hp} {σ : L2.St} {vs : List V} {ds : List D} {G : DH} {Qd : DQ} {Xd : DX} {Q : VK} (r : RepL X.K X.mg H vs ds) (A : Abs X.K X.mg G H)
    (h : ∀ x, G x = none → sp (.ref x :: ds) (up G x (.ins c [])) (fun v G2 => v = .non ∧ Qd (.ref x) G2) Xd) (e : Ext H0 H) (hQ : ∀ d G' v H', Ext H0 H' → Rep X.K X.mg H' v d → Abs X.K X.mg G' H' → Qd d G' → Q v H') (hX : XOk X.K X.mg W Xd σ H0) :
    ∀ x dx, H x = none → H dx = none → dx ≠ x → liftSp X.K X.mg sp (.ref x :: vs) (upd (upd H dx (.own x)) x (.ins C dx [])) (fun v H2 => v = .non ∧ Q (.ref x) H2) (fun cls dd H' => W cls dd σ H') := by
  intro x dx hx hdx ne
  have e1 : Ext H (upd H dx (.own x)) := .new hdx
  have hx1 : (upd H dx (.own x)) x = none := by rw [upd_ne (Ne.symm ne)]; exact hx
  have e2 : Ext (upd H dx (.own x)) (upd (upd H dx (.own x)) x (.ins C dx [])) := .new hx1
  have A1 : Abs X.K X.mg G (upd H dx (.own x)) := A.keep hdx
  have A2 : Abs X.K X.mg (up G x (.ins c [])) (upd (upd H dx (.own x)) x (.ins C dx [])) := A1.upd e2 (show ObjRep X.K X.mg _ x (.ins c []) from ⟨C, dx, [], hC, upd_same, .nil, fun f v q => by simp at q, by decide⟩)
  refine lift_sp (.cons (.ref x) (r.ext (e1.trans e2))) A2 (h x (A.none hx)) ((e.trans e1).trans e2) (fun d G' v H' e' r' a' q' => ?_) hX
  obtain ⟨rfl, q⟩ := q'
  exact ⟨r'.nonv, hQ _ _ _ _ e' (.ref x) a' q⟩
theorem m_make {c : String} {sp : DSp} (M : MkD X.prog X.w X.K X.mg X.base k (c : Str) sp) (hr : Room (k + 1) X.A) (tk : Takes X W) (ha : MA X W (e :: es) t) (hg : Gl X (c : Str) := by rfl) (hdb : (((c : Str)) == ("__debug__" : Str)) = false := by decide)
    (he : starEach (e :: es) X.env = (false, eval e X.env) :: starEach es X.env := by rfl) (hpl : (backTo pos (starEach es X.env)).any (·.1) = false := by rfl) : ME X W (.Call (.Name (c : Str) p) (e :: es) [] pos) (dMake c sp t) := by
  obtain ⟨C, f, fd, ps, hm, mk, hb, ok⟩ := M.ok
  refine ⟨fun pins s σ H Q I ⟨τ, G, Xd, Qd, hσ, hA, h, hQ, hX⟩ => ?_⟩
  refine wpAny_Call_Name_kw (ld_glob I hg hm ?_ hdb)
  refine PySem.W.callWith_K (h₀ := X.base) I.ok.mod.kin mk.kp (thn (ha.run pos pins s σ H (fun vs H1 => ∃ ds G1, Ext H H1 ∧ RepL X.K X.mg H1 vs ds ∧ Abs X.K X.mg G1 H1 ∧ _) I ⟨τ, G, Xd, _, hσ, hA, h, fun ds G1 vs H1 e1 r1 a1 h1 => ⟨ds, G1, e1, r1, a1, h1⟩, hX⟩) fun us s1 ⟨vs, H1, I1, r, ds, G1, e1, r1, a1, h1⟩ => ⟨I1.kIn, ?_⟩) he hpl
  exact run_makeS mk ok hr hb (passAt tk σ) I1 r (lift_make hm r1 a1 h1 e1 hQ hX)

/-! ### fields -/
def oIns : Option DO → Option (String × List (String × D))
  | some (.ins c fs) => some (c, fs)
  | _ => none
theorem oIns_some {o : Option DO} {c : String} {fs : List (String × D)} (h : oIns o = some (c, fs)) : o = some (.ins c fs) := by
  cases o with
  | none => cases h
  | some u => cases u <;> first | (cases h; rfl) | cases h
def fldV (G : DH) (x : D) (f : String) : Option D := match x with
  | .ref a => (oIns (G a)).bind fun p => p.2.lookup f
  | _ => none
def dFld (ta : TED) (f : String) : TED := fun τ G X Q => ta τ G X fun x G1 => onSome (fldV G1 x f) fun v => Q v G1
/-- what the written part says of the fields of classes -/
def FldTxt (K : PySem.W.Frag) (mg : Str → Option Value) : Prop := ∀ (c f : String) (C : Addr), mg (c : Str) = some (.ref C) → fldOk c f = true → Cls K C ∧ NoAttr K C (f : Str)
theorem fldV_of {G : DH} {x v : D} {f : String} (h : fldV G x f = some v) : ∃ a c fs, x = .ref a ∧ G a = some (.ins c fs) ∧ fs.lookup f = some v := by
  cases x with
  | ref a =>
    obtain ⟨⟨c, fs⟩, h1, h2⟩ := Option.bind_eq_some_iff.mp h
    exact ⟨a, c, fs, rfl, oIns_some h1, h2⟩
  | _ => cases h
theorem m_fld {f : String} (T : FldTxt X.K X.mg) (he : ME X W e te) (hb : attributeBase e (f : Str) X.env (eval e X.env) = eval e X.env := by rfl) : ME X W (.Attribute e (f : Str) pos) (dFld te f) :=
  PE.imp (pe_fld he hb) fun σ H Q ⟨τ, G, Xd, Qd, hσ, hA, h, hQ, hX⟩ =>
    ⟨τ, G, Xd, _, hσ, hA, h, fun x G1 v H1 e1 r1 a1 h1 => by
      obtain ⟨d, hd, q1⟩ := onSome_of h1
      obtain ⟨a, c, fs, rfl, ea, hl⟩ := fldV_of hd
      obtain ⟨C, dx, vs, hC, eH, fr, fo, _⟩ := a1 a _ ea
      obtain ⟨u, hu, ru⟩ := fr.lookup hl
      obtain ⟨cl, na⟩ := T c f C hC (fo _ _ hl)
      exact ⟨a, C, dx, vs, u, r1.refv, eH, cl, na, hu, hQ _ _ _ _ e1 ru a1 q1⟩, hX⟩

/-! ### subscripts -/
def seqOf (G : DH) : D → Option (List D)
  | .tup xs => some xs
  | x => lstOf G x
def rIxD : DR2 := fun x y G Q => match y with
  | .int i => match x with
    | .str z => z.length ≤ 16777216 ∧ onSome (atI z.cps.toList i) fun c => Q (.str ⟨#[c]⟩) G
    | x => onSome (seqOf G x) fun xs => onSome (atI xs i) fun v => Q v G
  | _ => False
theorem RepL.ixN {K : PySem.W.Frag} {mg : Str → Option Value} {H : Hp} {vs : List V} {ds : List D} {i : Int} {d : D} (r : RepL K mg H vs ds) (h : atI ds i = some d) : ∃ v, atI vs i = some v ∧ Rep K mg H v d := by
  unfold atI at h ⊢
  obtain ⟨j, h1, h2⟩ := Option.bind_eq_some_iff.mp h
  obtain ⟨v, h3, h4⟩ := r.get h2
  refine ⟨v, ?_, h4⟩
  rw [r.length, h1]
  exact h3
theorem ixr : IxR X (liftR2 X.K X.mg rIxD) := by
  intro value slice pins s σ H x y v u Q I rx ry h hs
  obtain ⟨d, e, G, Qd, r1, r2, A, h, hQ⟩ := h
  cases e <;> try exact (show False from h).elim
  rename_i i
  have e2 := r2.intv
  subst e2
  have seq : (onSome (seqOf G d) fun xs => onSome (atI xs i) fun v => Qd v G) → rIx X.K x (.int i) H Q := fun h => by
    obtain ⟨xs, e1, h0⟩ := onSome_of h
    obtain ⟨d', e2, q0⟩ := onSome_of h0
    clear h h0
    by_cases ht : ∃ ys, d = .tup ys
    · obtain ⟨ys, rfl⟩ := ht
      cases e1
      obtain ⟨a, zs, rfl, t, l⟩ := r1.tupv
      obtain ⟨v', e3, r3⟩ := l.ixN e2
      exact .inr (.inl ⟨a, zs, i, v', rfl, rfl, t, e3, hQ _ _ _ _ (.refl _) r3 A q0⟩)
    · have e1' : lstOf G d = some xs := by
        cases d <;> first | exact e1 | exact absurd ⟨_, rfl⟩ ht
      obtain ⟨a, zs, rfl, t, l⟩ := lst_at A r1 e1'
      obtain ⟨v', e3, r3⟩ := l.ixN e2
      exact .inl ⟨a, zs, i, v', rfl, rfl, t, e3, hQ _ _ _ _ (.refl _) r3 A q0⟩
  refine ix_seq value slice pins s σ H x _ v u Q I rx ry ?_ hs
  cases d <;> try exact seq h
  -- a text
  obtain ⟨hz, h⟩ := h
  obtain ⟨c, e1, h⟩ := onSome_of h
  exact .inr (.inr ⟨_, i, c, r1.strv, rfl, big_line hz, e1, hQ _ _ _ _ (.refl _) (.str _) A h⟩)
theorem m_ix {a b : Expr} {ta tb : TED} (ha : ME X W a ta) (hb : ME X W b tb) (hs : PlainIx b := by exact fun _ _ => rfl) : ME X W (.Subscript a b pos) (dBin rIxD ta tb) := PE.imp (pe_ix ixr ha hb hs) fun _ _ _ h => lift_bin h
end
end L3

namespace L3
open PySem PySem.Spec PyProof.Rows L2

/-! ### slices -/
abbrev TOD := DSt → DH → DX → (Option Int → DH → Prop) → Prop
def liftO (K : PySem.W.Frag) (mg : Str → Option Value) (W : WX) (td : TOD) : TO := fun σ H Q =>
  ∃ τ G Xd Qd, StRep K mg H σ τ ∧ Abs K mg G H ∧ td τ G Xd Qd ∧ (∀ o G' H', Ext H H' → Abs K mg G' H' → Qd o G' → Q o H') ∧ XOk K mg W Xd σ H
def dNoPart : TOD := fun _ G _ Q => Q none G
def asI (x : D) (Q : Int → Prop) : Prop := match x with | .int i => Q i | _ => False
theorem asI_of {x : D} {Q : Int → Prop} (h : asI x Q) : ∃ i, x = .int i ∧ Q i := by
  cases x <;> first | exact ⟨_, rfl, h⟩ | exact h.elim
def dPart (t : TED) : TOD := fun τ G X Q => t τ G X fun x G1 => asI x fun i => Q (some i) G1
def cutD (xs : List D) (lo hi : Option Int) : List D := (xs.drop (HT.sIx xs.length 0 lo)).take (HT.sIx xs.length xs.length hi - HT.sIx xs.length 0 lo)
theorem RepL.cut {K : PySem.W.Frag} {mg : Str → Option Value} {H : Hp} {vs : List V} {ds : List D} (r : RepL K mg H vs ds) (lo hi : Option Int) : RepL K mg H (cutV vs lo hi) (cutD ds lo hi) := by
  unfold cutV cutD
  rw [r.length]
  exact (r.drop _).take _
def rSlD (x : D) (lo hi : Option Int) (G : DH) (Q : DQ) : Prop := match x with
  | .tup xs => Q (.tup (cutD xs lo hi)) G
  | .str z => z.length ≤ 16777216 ∧ Q (.str (cutS z lo hi)) G
  | x => onSome (lstOf G x) fun xs => rNewL (cutD xs lo hi) G Q
def dSl (te : TED) (tl th : TOD) : TED := fun τ G X Q => te τ G X fun x G1 => tl τ G1 X fun l G2 => th τ G2 X fun u G3 => rSlD x l u G3 Q
theorem take_all {α : Type} {xs : List α} {n : Nat} (h : xs.length ≤ n) : xs.take n = xs := List.take_of_length_le h
theorem cutD_all {xs : List D} {lo hi : Option Int} (h1 : HT.sIx xs.length 0 lo = 0) (h2 : HT.sIx xs.length xs.length hi = xs.length) : cutD xs lo hi = xs := by
  unfold cutD
  rw [h1, h2, List.drop_zero, Nat.sub_zero, List.take_length]
section
variable {X : Cx} {W : WX} {e : Expr} {te : TED} {tl th : TOD} {lo hi : Option Expr} {pos p2 : Pos}
abbrev MO (X : Cx) (W : WX) (e : Option Expr) (td : TOD) : Prop := PO X e (liftO X.K X.mg W td)
theorem PO.imp {e : Option Expr} {t t' : TO} (h : PO X e t) (k : ∀ σ H Q, t' σ H Q → t σ H Q) : PO X e t' := ⟨fun pins s σ H Q I q => h.run pins s σ H Q I (k _ _ _ q)⟩
theorem mo_none : MO X W none dNoPart := PO.imp po_none fun σ H Q ⟨τ, G, Xd, Qd, hσ, hA, h, hQ, hX⟩ => hQ _ _ _ (.refl _) hA h
theorem mo_some (h : ME X W e te) : MO X W (some e) (dPart te) := PO.imp (po_some h) fun σ H Q ⟨τ, G, Xd, Qd, hσ, hA, h, hQ, hX⟩ =>
  ⟨τ, G, Xd, _, hσ, hA, h, fun x G1 v H1 e1 r1 a1 h1 => by
    obtain ⟨i, rfl, q⟩ := asI_of h1
    exact ⟨i, r1.intv, hQ _ _ _ e1 a1 q⟩, hX⟩
def liftSl (K : PySem.W.Frag) (mg : Str → Option Value) : V → Option Int → Option Int → Hp → VK → Prop := fun x lo hi H Q =>
  ∃ d G Qd, Rep K mg H x d ∧ Abs K mg G H ∧ rSlD d lo hi G Qd ∧ ∀ d' G' v H', Ext H H' → Rep K mg H' v d' → Abs K mg G' H' → Qd d' G' → Q v H'
theorem slr : SlR X (liftSl X.K X.mg) := by
  intro pins s σ H x v vl vu lo hi sl Q I rx hs pl pu h
  obtain ⟨d, G, Qd, r1, A, h, hQ⟩ := h
  have lst : (onSome (lstOf G d) fun xs => rNewL (cutD xs lo hi) G Qd) → rSlL X.K x lo hi H Q := fun h => by
    obtain ⟨xs, e1, q⟩ := onSome_of h
    obtain ⟨a, zs, rfl, sq, l⟩ := lst_at A r1 e1
    refine ⟨a, zs, rfl, sq, fun p hp => ?_⟩
    exact hQ _ _ _ _ (.new hp) (.ref p) (A.newL hp (l.cut lo hi)) (q p (A.none hp))
  cases d
  case tup xs =>
    obtain ⟨a, zs, rfl, t, l⟩ := r1.tupv
    refine sl_tupA pins s σ H _ v vl vu lo hi sl Q I rx hs pl pu ⟨a, zs, rfl, t, fun z => ?_, fun _ p hp => ?_⟩
    · rw [l.length] at z
      have q : Qd (.tup (cutD xs lo hi)) G := h
      rw [cutD_all z.1 z.2] at q
      exact hQ _ _ _ _ (.refl _) (.tup t l) A q
    · exact hQ _ _ _ _ (.new hp) (.tup (.of upd_same) ((l.cut lo hi).ext (.new hp))) (A.keep hp) h
  case str z => exact sl_str pins s σ H _ v vl vu lo hi sl Q I rx hs pl pu ⟨_, r1.strv, big_line h.1, hQ _ _ _ _ (.refl _) (.str _) A h.2⟩
  all_goals exact sl_list pins s σ H x v vl vu lo hi sl Q I rx hs pl pu (lst h)
theorem m_sl (he : ME X W e te) (hl : MO X W lo tl) (hu : MO X W hi th) : ME X W (.Subscript e (.Slice lo hi none p2) pos) (dSl te tl th) := PE.imp (pe_slice slr he hl hu) fun σ H Q ⟨τ, G, Xd, Qd, hσ, hA, h, hQ, hX⟩ =>
  ⟨τ, G, Xd, _, hσ, hA, h, fun x G1 v H1 e1 r1 a1 h1 => ⟨τ, G1, Xd, _, hσ.ext e1, a1, h1, fun l G2 H2 e2 a2 h2 => ⟨τ, G2, Xd, _, (hσ.ext e1).ext e2, a2, h2, fun u G3 H3 e3 a3 h3 =>
    ⟨x, G3, Qd, (r1.ext e2).ext e3, a3, h3, fun d' G' v' H' e' => hQ d' G' v' H' (((e1.trans e2).trans e3).trans e')⟩, (hX.ext e1).ext e2⟩, hX.ext e1⟩, hX⟩
end

/-! ### calls of built-ins -/
abbrev RC := List D → DH → DQ → Prop
def liftC (K : PySem.W.Frag) (mg : Str → Option Value) (r : RC) : List V → Hp → VK → Prop := fun vs H Q =>
  ∃ ds G Qd, RepL K mg H vs ds ∧ Abs K mg G H ∧ r ds G Qd ∧ ∀ d' G' v H', Ext H H' → Rep K mg H' v d' → Abs K mg G' H' → Qd d' G' → Q v H'
def dB (r : RC) (t : TAD) : TED := fun τ G X Q => t τ G X fun ds G1 => r ds G1 Q
theorem RepL.one {K : PySem.W.Frag} {mg : Str → Option Value} {H : Hp} {vs : List V} {d : D} (r : RepL K mg H vs [d]) : ∃ v, vs = [v] ∧ Rep K mg H v d := by
  cases r with | cons a b => cases b; exact ⟨_, rfl, a⟩
theorem RepL.two {K : PySem.W.Frag} {mg : Str → Option Value} {H : Hp} {vs : List V} {d e : D} (r : RepL K mg H vs [d, e]) : ∃ v w, vs = [v, w] ∧ Rep K mg H v d ∧ Rep K mg H w e := by
  cases r with | cons a b => cases b with | cons b c => cases c; exact ⟨_, _, rfl, a, b⟩
section
variable {X : Cx} {W : WX} {e : Expr} {es : List Expr} {te : TED} {t : TAD} {r : RC} {pos p : Pos}
theorem m_B {id : String} {x : Str} (hc : CallR X (.builtin id) (liftC X.K X.mg r)) (hm : X.mg x = none) (hv : bootBuiltins x = some (.builtin id)) (ha : MA X W (e :: es) t) (hg : Gl X x := by rfl) (hn : x ≠ "__name__" := by decide) (hdb : (x == ("__debug__" : Str)) = false := by decide)
    (hst : starEach (e :: es) X.env = (false, eval e X.env) :: starEach es X.env := by rfl) (hpl : (backTo pos (starEach es X.env)).any (·.1) = false := by rfl) : ME X W (.Call (.Name x p) (e :: es) [] pos) (dB r t) :=
  PE.imp (pe_callB hc hg hm hv ha hn hdb hst hpl) fun σ H Q ⟨τ, G, Xd, Qd, hσ, hA, h, hQ, hX⟩ =>
    ⟨τ, G, Xd, _, hσ, hA, h, fun ds G1 vs H1 e1 r1 a1 h1 => ⟨ds, G1, Qd, r1, a1, h1, fun d' G' v' H' e' => hQ d' G' v' H' (e1.trans e')⟩, hX⟩
theorem m_Ty {T : String} {x : Str} (hc : CallR X (.type T) (liftC X.K X.mg r)) (hm : X.mg x = none) (hv : bootBuiltins x = some (.type T)) (ha : MA X W (e :: es) t) (hg : Gl X x := by rfl) (hn : x ≠ "__name__" := by decide) (hdb : (x == ("__debug__" : Str)) = false := by decide)
    (hst : starEach (e :: es) X.env = (false, eval e X.env) :: starEach es X.env := by rfl) (hpl : (backTo pos (starEach es X.env)).any (·.1) = false := by rfl) : ME X W (.Call (.Name x p) (e :: es) [] pos) (dB r t) :=
  PE.imp (pe_callTy hc hg hm hv ha hn hdb hst hpl) fun σ H Q ⟨τ, G, Xd, Qd, hσ, hA, h, hQ, hX⟩ =>
    ⟨τ, G, Xd, _, hσ, hA, h, fun ds G1 vs H1 e1 r1 a1 h1 => ⟨ds, G1, Qd, r1, a1, h1, fun d' G' v' H' e' => hQ d' G' v' H' (e1.trans e')⟩, hX⟩
def oDct : Option DO → Option (List (Key × D))
  | some (.dct kvs) => some kvs
  | _ => none
theorem oDct_some {o : Option DO} {xs : List (Key × D)} (h : oDct o = some xs) : o = some (.dct xs) := by
  cases o with
  | none => cases h
  | some u => cases u <;> first | (cases h; rfl) | cases h
theorem KRep.length {K : PySem.W.Frag} {mg : Str → Option Value} {H : Hp} : ∀ {vs : List (Key × V)} {ds : List (Key × D)}, KRep K mg H vs ds → vs.length = ds.length
  | _, _, .nil => rfl
  | _, _, .cons _ b => congrArg (· + 1) (KRep.length b)
def lenD (G : DH) : D → Option Nat
  | .str z => if z.length ≤ 16777216 then some z.length else none
  | .tup xs => some xs.length
  | .rl xs => some xs.length
  | .wl xs => some xs.length
  | .ref a => match oLst (G a) with
    | some xs => some xs.length
    | none => (oDct (G a)).map (·.length)
  | _ => none
def rLen : RC := fun ds G Q => match ds with
  | [x] => onSome (lenD G x) fun n => Q (.int n) G
  | _ => False
theorem mc_len : CallR X (.builtin "len") (liftC X.K X.mg rLen) := by
  intro pins s σ H xs us Q I rv h
  obtain ⟨ds, G, Qd, r1, A, h, hQ⟩ := h
  match ds, h with
  | [x], h =>
    obtain ⟨v, rfl, r⟩ := r1.one
    obtain ⟨n, e, h⟩ := onSome_of h
    have fin : ∀ m : Nat, m = n → Q (.int m) H := fun m z => by rw [z]; exact hQ _ _ _ _ (.refl _) (.int _) A h
    have seq : ∀ zs, lstOf G x = some zs → zs.length = n → wpAny (model X.prog X.w) X.A (call (.builtin "len") us) (EP X pins σ Q) X.xe s := fun zs e1 e2 => by
      obtain ⟨a, ws, rfl, sq, l⟩ := lst_at A r e1
      exact call_len_seq pins s σ H _ us Q I rv ⟨a, ws, rfl, .inl sq, fin _ (l.length.trans e2)⟩
    cases x with
    | str z =>
      have e0 : (if z.length ≤ 16777216 then some z.length else none) = some n := e
      split at e0
      · rename_i hz; cases e0; exact call_len_str pins s σ H _ us Q I rv ⟨z, by rw [r.strv], big_line hz, fin _ rfl⟩
      · cases e0
    | tup ys =>
      cases e
      obtain ⟨a, ws, rfl, t, l⟩ := r.tupv
      exact call_len_seq pins s σ H _ us Q I rv ⟨a, ws, rfl, .inr t, fin _ l.length⟩
    | rl ys => cases e; exact seq ys rfl rfl
    | wl ys => cases e; exact seq ys rfl rfl
    | ref a =>
      have e0 : (match oLst (G a) with | some xs => some xs.length | none => (oDct (G a)).map (·.length)) = some n := e
      split at e0
      · rename_i zs hz; cases e0; exact seq zs hz rfl
      · obtain ⟨kvs, e1, e2⟩ := Option.map_eq_some_iff.mp e0
        obtain ⟨ws, e3, l⟩ := A a _ (oDct_some e1)
        exact call_lenD pins s σ H _ us Q I rv ⟨a, ws, by rw [r.refv], e3, fin _ (l.length.trans e2)⟩
    | _ => cases e
def rTupleD : RC := fun ds G Q => match ds with
  | [x] => onSome (seqOf G x) fun xs => Q (.tup xs) G
  | _ => False
theorem mc_tuple : CallR X (.type "tuple") (liftC X.K X.mg rTupleD) := by
  intro pins s σ H xs us Q I rv h
  obtain ⟨ds, G, Qd, r1, A, h, hQ⟩ := h
  match ds, h with
  | [x], h =>
    obtain ⟨v, rfl, r⟩ := r1.one
    obtain ⟨zs, e, h9⟩ := onSome_of h
    replace h := h9
    by_cases ht : ∃ ys, x = .tup ys
    · obtain ⟨ys, rfl⟩ := ht
      cases e
      obtain ⟨a, ws, rfl, t, l⟩ := r.tupv
      exact call_tuple_of pins s σ H _ us Q I rv ⟨a, ws, rfl, .inr ⟨t, hQ _ _ _ _ (.refl _) (.tup t l) A h9⟩⟩
    · have e' : lstOf G x = some zs := by cases x <;> first | exact e | exact absurd ⟨_, rfl⟩ ht
      obtain ⟨a, ws, rfl, sq, l⟩ := lst_at A r e'
      exact call_tuple_of pins s σ H _ us Q I rv ⟨a, ws, rfl, .inl ⟨sq, fun p hp => hQ _ _ _ _ (.new hp) (.tup (.of upd_same) (l.ext (.new hp))) (A.keep hp) h⟩⟩
def rListD : RC := fun ds G Q => match ds with
  | [x] => onSome (seqOf G x) fun xs => rNewL xs G Q
  | _ => False
theorem mc_list : CallR X (.type "list") (liftC X.K X.mg rListD) := by
  intro pins s σ H xs us Q I rv h
  obtain ⟨ds, G, Qd, r1, A, h, hQ⟩ := h
  match ds, h with
  | [x], h =>
    obtain ⟨v, rfl, r⟩ := r1.one
    obtain ⟨zs, e, h⟩ := onSome_of h
    have fin : ∀ ws p, RepL X.K X.mg H ws zs → H p = none → Q (.ref p) (upd H p (.lst ws)) := fun ws p l hp => hQ _ _ _ _ (.new hp) (.ref p) (A.newL hp l) (h p (A.none hp))
    by_cases ht : ∃ ys, x = .tup ys
    · obtain ⟨ys, rfl⟩ := ht
      cases e
      obtain ⟨a, ws, rfl, t, l⟩ := r.tupv
      exact call_list_of pins s σ H _ us Q I rv ⟨a, ws, rfl, .inr t, fun p hp => fin ws p l hp⟩
    · have e' : lstOf G x = some zs := by cases x <;> first | exact e | exact absurd ⟨_, rfl⟩ ht
      obtain ⟨a, ws, rfl, sq, l⟩ := lst_at A r e'
      exact call_list_of pins s σ H _ us Q I rv ⟨a, ws, rfl, .inl sq, fun p hp => fin ws p l hp⟩
def rMin : RC := fun ds G Q => match ds with
  | [.int i, .int j] => Q (.int (if j < i then j else i)) G
  | _ => False
def rMax : RC := fun ds G Q => match ds with
  | [.int i, .int j] => Q (.int (if j > i then j else i)) G
  | _ => False
theorem mc_min (hc : X.calm = true) : CallR X (.builtin "min") (liftC X.K X.mg rMin) := by
  intro pins s σ H xs us Q I rv h
  obtain ⟨ds, G, Qd, r1, A, h, hQ⟩ := h
  match ds, h with
  | [.int i, .int j], h =>
    obtain ⟨v, w, rfl, ra, rb⟩ := r1.two
    exact call_min2 hc pins s σ H _ us Q I rv ⟨i, j, by rw [ra.intv, rb.intv], hQ _ _ _ _ (.refl _) (.int _) A h⟩
theorem mc_max (hc : X.calm = true) : CallR X (.builtin "max") (liftC X.K X.mg rMax) := by
  intro pins s σ H xs us Q I rv h
  obtain ⟨ds, G, Qd, r1, A, h, hQ⟩ := h
  match ds, h with
  | [.int i, .int j], h =>
    obtain ⟨v, w, rfl, ra, rb⟩ := r1.two
    exact call_max2 hc pins s σ H _ us Q I rv ⟨i, j, by rw [ra.intv, rb.intv], hQ _ _ _ _ (.refl _) (.int _) A h⟩
def rStrI : RC := fun ds G Q => match ds with
  | [.int i] => i.natAbs.log2 < 1920 ∧ Q (.str (toString i)) G
  | _ => False
theorem mc_str : CallR X (.type "str") (liftC X.K X.mg rStrI) := by
  intro pins s σ H xs us Q I rv h
  obtain ⟨ds, G, Qd, r1, A, h, hQ⟩ := h
  match ds, h with
  | [.int i], h =>
    obtain ⟨v, rfl, r⟩ := r1.one
    exact call_str_int pins s σ H _ us Q I rv ⟨i, by rw [r.intv], h.1, hQ _ _ _ _ (.refl _) (.str _) A h.2⟩
/-- int(b), int(n) -/
def rIntB : RC := fun ds G Q => match ds with
  | [.int i] => Q (.int i) G
  | [.bl k] => Q (.int (if k then 1 else 0)) G
  | _ => False
theorem mc_intb : CallR X (.type "int") (liftC X.K X.mg rIntB) := by
  intro pins s σ H xs us Q I rv h
  obtain ⟨ds, G, Qd, r1, A, h, hQ⟩ := h
  match ds, h with
  | [.int i], h =>
    obtain ⟨v, rfl, r⟩ := r1.one
    exact call_int1 pins s σ H _ us Q I rv (.inl ⟨i, by rw [r.intv], hQ _ _ _ _ (.refl _) (.int _) A h⟩)
  | [.bl k], h =>
    obtain ⟨v, rfl, r⟩ := r1.one
    exact call_int1 pins s σ H _ us Q I rv (.inr ⟨k, by rw [r.blv], hQ _ _ _ _ (.refl _) (.int _) A h⟩)

/-! ### isinstance with built-in types -/
def tyOf (G : DH) : D → Option String
  | .non => some "NoneType"
  | .bl _ => some "bool"
  | .int _ => some "int"
  | .str _ => some "str"
  | .tup _ => some "tuple"
  | .rl _ => some "list"
  | .wl _ => some "list"
  | .ref a => if (oLst (G a)).isSome then some "list" else if (oDct (G a)).isSome then some "dict" else none
  | _ => none
def isT (ns : List String) (t : String) : Bool := ns.contains t || (t == "bool" && ns.contains "int")
def dIsi (ns : List String) (te : TED) : TED := fun τ G X Q => te τ G X fun x G1 => onSome (tyOf G1 x) fun t => Q (.bl (isT ns t)) G1
theorem tyx_of {v : V} {d : D} {H : Hp} {G : DH} {t : String} (A : Abs X.K X.mg G H) (r : Rep X.K X.mg H v d) (h : tyOf G d = some t) : TyX X.K H v (.type t) ∧ t ∈ ["NoneType", "bool", "int", "str", "tuple", "list", "dict"] := by
  cases d with
  | non => cases h; rw [r.nonv]; exact ⟨.base .non, by decide⟩
  | bl b => cases h; rw [r.blv]; exact ⟨.base (.bl _), by decide⟩
  | int b => cases h; rw [r.intv]; exact ⟨.base (.int _), by decide⟩
  | str b => cases h; rw [r.strv]; exact ⟨.base (.str _), by decide⟩
  | tup b =>
    cases h
    obtain ⟨a, ws, rfl, q, l⟩ := r.tupv
    refine ⟨?_, by decide⟩
    rcases q with (q | ⟨o, q⟩) | ⟨o, its, n, q, c, _⟩
    · exact .base (.tup q)
    · exact .fTuple q
    · exact .kTuple q c
  | rl b =>
    cases h
    obtain ⟨a, ws, rfl, q, l⟩ := r.rlv
    refine ⟨?_, by decide⟩
    rcases q with ⟨o, q⟩ | ⟨o, its, n, q, c, _⟩
    · exact .base (.frz q)
    · exact .kList q c
  | wl b =>
    cases h
    cases r with
    | wl w l =>
      obtain ⟨its, n, q, _⟩ := w
      exact ⟨.kList q rfl, by decide⟩
  | ref a =>
    have h : (if (oLst (G a)).isSome then some "list" else if (oDct (G a)).isSome then some "dict" else none) = some t := h
    rw [r.refv]
    split at h
    · rename_i q
      cases h
      obtain ⟨xs, e⟩ := Option.isSome_iff_exists.mp q
      obtain ⟨ws, e1, _⟩ := A a _ (oLst_some e)
      exact ⟨.base (.lst e1), by decide⟩
    · split at h
      · rename_i q
        cases h
        obtain ⟨xs, e⟩ := Option.isSome_iff_exists.mp q
        obtain ⟨ws, e1, _⟩ := A a _ (oDct_some e)
        exact ⟨.base (.dK e1), by decide⟩
      · cases h
  | gl x => cases h
theorem kit_all {K : PySem.W.Frag} : ∀ t ∈ ["NoneType", "bool", "int", "str", "tuple", "list", "dict"], ∀ n ∈ ["bool", "int", "str", "tuple", "list"], PySem.W.kitOne K (.type t) (.type n) = some (isT [n] t) := by
  have h : ∀ t ∈ ["NoneType", "bool", "int", "str", "tuple", "list", "dict"], ∀ n ∈ ["bool", "int", "str", "tuple", "list"], kitB t n = some (isT [n] t) := by decide +kernel
  exact fun t ht n hn => kit_ty (h t ht n hn)
theorem m_isi {n : String} (hi : X.mg ("isinstance" : Str) = none) (hm : X.mg (n : Str) = none) (hv : bootBuiltins (n : Str) = some (.type n)) (hn : n ∈ ["bool", "int", "str", "tuple", "list"]) (he : ME X W e te) {p2 : Pos}
    (hg : Gl X ("isinstance" : Str) := by rfl) (hg2 : Gl X (n : Str) := by rfl) (hnn : ((n : Str)) ≠ "__name__" := by decide) (hdd : (((n : Str)) == ("__debug__" : Str)) = false := by decide)
    (hst : starEach [e, .Name (n : Str) p2] X.env = (false, eval e X.env) :: starEach [.Name (n : Str) p2] X.env := by rfl) : ME X W (.Call (.Name ("isinstance" : Str) p) [e, .Name (n : Str) p2] [] pos) (dIsi [n] te) := by
  have a2 : PA X [.Name (n : Str) p2] (tCons (tC (.ty n)) tNil) := pa_cons (pe_bltn (v := .ty n) hg2 hm hv rfl hnn hdd) pa_nil
  refine PE.imp (pe_callB call_isi hg hi (by decide +kernel) (pa_cons he a2 hst) (by decide) (by decide) hst rfl) fun σ H Q ⟨τ, G, Xd, Qd, hσ, hA, h, hQ, hX⟩ => ?_
  refine ⟨τ, G, Xd, _, hσ, hA, h, fun x G1 v H1 e1 r1 a1 h1 => ?_, hX⟩
  obtain ⟨t, ht, q⟩ := onSome_of h1
  obtain ⟨ty, mem⟩ := tyx_of a1 r1 ht
  exact ⟨v, .ty n, .type t, .type n, _, rfl, .ty n, ty, kit_all t mem n hn, hQ _ _ _ _ e1 (.bl _) a1 q⟩
/-- isinstance(x, (T, U)) -/
theorem m_isi2 {n m : String} (hi : X.mg ("isinstance" : Str) = none) (hm : X.mg (n : Str) = none) (hv : bootBuiltins (n : Str) = some (.type n)) (hm2 : X.mg (m : Str) = none) (hv2 : bootBuiltins (m : Str) = some (.type m)) (hn : n ∈ ["bool", "int", "str", "tuple", "list"]) (hn2 : m ∈ ["bool", "int", "str", "tuple", "list"]) (he : ME X W e te) {p2 p3 p4 : Pos} {k : Nat}
    (hg : Gl X ("isinstance" : Str) := by rfl) (hg2 : Gl X (n : Str) := by rfl) (hg3 : Gl X (m : Str) := by rfl) (hnn : ((n : Str)) ≠ "__name__" := by decide) (hdd : (((n : Str)) == ("__debug__" : Str)) = false := by decide) (hnn2 : ((m : Str)) ≠ "__name__" := by decide) (hdd2 : (((m : Str)) == ("__debug__" : Str)) = false := by decide)
    (hst : starEach [e, .Tuple [.Name (n : Str) p2, .Name (m : Str) p3] k p4] X.env = (false, eval e X.env) :: starEach [.Tuple [.Name (n : Str) p2, .Name (m : Str) p3] k p4] X.env := by rfl) :
    ME X W (.Call (.Name ("isinstance" : Str) p) [e, .Tuple [.Name (n : Str) p2, .Name (m : Str) p3] k p4] [] pos) (dIsi [n, m] te) := by
  have a2 : PA X [.Tuple [.Name (n : Str) p2, .Name (m : Str) p3] k p4] (tCons (tTup (tCons (tC (.ty n)) (tCons (tC (.ty m)) tNil))) tNil) :=
    pa_cons (pe_tup (pa_cons (pe_bltn (v := .ty n) hg2 hm hv rfl hnn hdd) (pa_cons (pe_bltn (v := .ty m) hg3 hm2 hv2 rfl hnn2 hdd2) pa_nil))) pa_nil
  refine PE.imp (pe_callB call_isiT hg hi (by decide +kernel) (pa_cons he a2 hst) (by decide) (by decide) hst rfl) fun σ H Q ⟨τ, G, Xd, Qd, hσ, hA, h, hQ, hX⟩ => ?_
  refine ⟨τ, G, Xd, _, hσ, hA, h, fun x G1 v H1 e1 r1 a1 h1 => ?_, hX⟩
  obtain ⟨t, ht, q⟩ := onSome_of h1
  obtain ⟨ty, mem⟩ := tyx_of a1 r1 ht
  refine ⟨(by show 2 ≤ sizeLine; rw [sizeLine_eq]; decide), fun tp htp => ?_⟩
  obtain ⟨ty2, _⟩ := tyx_of (a1.keep (ho := .tup [.ty n, .ty m]) htp) (r1.ext (.new htp)) ht
  refine ⟨v, tp, [.ty n, .ty m], .type t, [.type n, .type m], isT [n, m] t, rfl, upd_same, .cons (.ty n) (.cons (.ty m) .nil), ty2, ?_, hQ _ _ _ _ (e1.trans (.new htp)) (.bl _) (a1.keep htp) q⟩
  have k1 := kit_all (K := X.K) t mem n hn
  have k2 := kit_all (K := X.K) t mem m hn2
  have ha : isT [n, m] t = (isT [n] t || isT [m] t) := by
    unfold isT
    simp only [List.contains_cons, List.contains_nil, Bool.or_false]
    cases t == n <;> cases t == m <;> cases t == "bool" <;> cases ("int" == n) <;> cases ("int" == m) <;> rfl
  rw [ha]
  refine kitAny_cons k1 (fun z => ?_) (fun z => by rw [z]; rfl)
  refine kitAny_cons k2 (fun z2 => by rw [z, z2]; rfl) (fun z2 => by rw [z2, Bool.or_true])
end
end L3

namespace L3
open PySem PySem.Spec PyProof.Rows L2

/-! ### methods of lists -/
abbrev RM := D → List D → DH → DQ → Prop
def liftM (K : PySem.W.Frag) (mg : Str → Option Value) (r : RM) : V → List V → Hp → VK → Prop := fun x vs H Q =>
  ∃ d ds G Qd, Rep K mg H x d ∧ RepL K mg H vs ds ∧ Abs K mg G H ∧ r d ds G Qd ∧ ∀ d' G' v H', Ext H H' → Rep K mg H' v d' → Abs K mg G' H' → Qd d' G' → Q v H'
/-- a method of a built-in type: ty says that it is of the type -/
def dBM (ty : D → DH → Prop) (r : RM) (to : TED) (t : TAD) : TED := fun τ G X Q => to τ G X fun x G1 => ty x G1 ∧ t τ G1 X fun ds G2 => r x ds G2 Q
def isL (x : D) (G : DH) : Prop := ∃ xs, lstOf G x = some xs
def rAppD : RM := fun x ds G Q => match ds with
  | [y] => onSome (mutOf G x) fun xs => xs.length < 16777216 ∧ ∀ a, x = .ref a → Q .non (up G a (.lst (xs ++ [y])))
  | _ => False
def rPop0D : RM := fun x ds G Q => match ds with
  | [.int i] => onSome (mutOf G x) fun xs => i = 0 ∧ match xs with
    | y :: ys => ∀ a, x = .ref a → Q y (up G a (.lst ys))
    | [] => False
  | _ => False
def rClearD : RM := fun x ds G Q => match ds with
  | [] => onSome (mutOf G x) fun xs => ∀ a, x = .ref a → Q .non (up G a (.lst []))
  | _ => False
def rReverseD : RM := fun x ds G Q => match ds with
  | [] => onSome (mutOf G x) fun xs => ∀ a, x = .ref a → Q .non (up G a (.lst xs.reverse))
  | _ => False
def rInsertD : RM := fun x ds G Q => match ds with
  | [.int i, y] => onSome (mutOf G x) fun xs => (xs.length < 16777216 ∧ 0 ≤ i ∧ i < 2 ^ 63) ∧ ∀ a, x = .ref a → Q .non (up G a (.lst (xs.take i.toNat ++ [y] ++ xs.drop i.toNat)))
  | _ => False
section
variable {X : Cx} {W : WX} {e o : Expr} {es : List Expr} {to te : TED} {t : TAD} {pos p apos cpos : Pos} {T : String} {name : Str} {id : String} {r : RM}
theorem big_lt {n : Nat} (h : n < 16777216) : n < sizeLine := by rw [sizeLine_eq]; exact h
theorem mm_append : MtR X "list.append" (liftM X.K X.mg rAppD) := by
  intro pins s σ H x xs v us Q I rx rv h
  obtain ⟨d, ds, G, Qd, r1, r2, A, h, hQ⟩ := h
  match ds, h with
  | [y], h =>
    obtain ⟨w, rfl, ry⟩ := r2.one
    obtain ⟨zs, e, hz, h⟩ := onSome_of h
    obtain ⟨a, ws, rfl, rfl, e1, e2, l⟩ := mut_at A r1 e
    refine mt_append pins s σ H _ _ v us Q I rx rv ⟨a, ws, w, rfl, rfl, e2, by rw [l.length]; exact big_lt hz, ?_⟩
    exact hQ _ _ _ _ (.lst e2) .non (A.setL e2 (l.snoc ry)) (h a rfl)
theorem mm_pop0 : MtR X "list.pop" (liftM X.K X.mg rPop0D) := by
  intro pins s σ H x xs v us Q I rx rv h
  obtain ⟨d, ds, G, Qd, r1, r2, A, h, hQ⟩ := h
  match ds, h with
  | [.int i], h =>
    obtain ⟨w, rfl, ry⟩ := r2.one
    obtain ⟨zs, e, rfl, h2⟩ := onSome_of h
    clear h
    obtain ⟨a, ws, rfl, rfl, e1, e2, l⟩ := mut_at A r1 e
    match zs, h2 with
    | z :: zs, h =>
      cases l with
      | cons l1 l2 =>
        rename_i w0 ws
        refine mt_popAt pins s σ H _ _ v us Q I rx rv ⟨a, _, 0, 0, w0, rfl, by rw [ry.intv], e2, by decide, by decide, ?_, rfl, ?_⟩
        · simp [seqIndex?]
        · exact hQ _ _ _ _ (.lst e2) (l1.ext (.lst e2)) (A.setL e2 l2) (h a rfl)
theorem mm_clear : MtR X "list.clear" (liftM X.K X.mg rClearD) := by
  intro pins s σ H x xs v us Q I rx rv h
  obtain ⟨d, ds, G, Qd, r1, r2, A, h, hQ⟩ := h
  match ds, h with
  | [], h =>
    cases r2
    obtain ⟨zs, e, h⟩ := onSome_of h
    obtain ⟨a, ws, rfl, rfl, e1, e2, l⟩ := mut_at A r1 e
    exact mt_clear pins s σ H _ _ v us Q I rx rv ⟨a, ws, rfl, rfl, e2, hQ _ _ _ _ (.lst e2) .non (A.setL e2 .nil) (h a rfl)⟩
theorem mm_reverse : MtR X "list.reverse" (liftM X.K X.mg rReverseD) := by
  intro pins s σ H x xs v us Q I rx rv h
  obtain ⟨d, ds, G, Qd, r1, r2, A, h, hQ⟩ := h
  match ds, h with
  | [], h =>
    cases r2
    obtain ⟨zs, e, h⟩ := onSome_of h
    obtain ⟨a, ws, rfl, rfl, e1, e2, l⟩ := mut_at A r1 e
    exact mt_reverse pins s σ H _ _ v us Q I rx rv ⟨a, ws, rfl, rfl, e2, hQ _ _ _ _ (.lst e2) .non (A.setL e2 l.reverse) (h a rfl)⟩
theorem mm_insert : MtR X "list.insert" (liftM X.K X.mg rInsertD) := by
  intro pins s σ H x xs v us Q I rx rv h
  obtain ⟨d, ds, G, Qd, r1, r2, A, h, hQ⟩ := h
  match ds, h with
  | [.int i, y], h =>
    obtain ⟨w, w', rfl, ra, ry⟩ := r2.two
    obtain ⟨zs, e, ⟨h1, h2, h3⟩, h⟩ := onSome_of h
    obtain ⟨a, ws, rfl, rfl, e1, e2, l⟩ := mut_at A r1 e
    refine mt_insert pins s σ H _ _ v us Q I rx rv ⟨a, ws, i, w', rfl, by rw [ra.intv], e2, by rw [l.length]; exact big_lt h1, h2, h3, ?_⟩
    exact hQ _ _ _ _ (.lst e2) .non (A.setL e2 (((l.take _).append (.cons ry .nil)).append (l.drop _))) (h a rfl)
/-- a method of lists -/
theorem m_lm (pa : PlainAttrs "list") (slot : Slot "list" name id) (hty : typeOf (.builtin id) = pure (.type "method_descriptor")) (hm : MtR X id (liftM X.K X.mg r)) (ho : ME X W o to) (ha : MA X W (e :: es) t)
    (hbase : attributeBase o name X.env (eval o X.env) = eval o X.env := by rfl)
    (hfew : ((backTo cpos (starEach (e :: es) X.env)).all (fun x => !x.1) && (backToKw cpos (keywordEach [] X.env)).all (fun x => x.1.isSome)
      && decide ((e :: es).length + ([] : List Keyword).length + (if ([] : List Keyword).isEmpty then 0 else 1) < 30)) = true := by rfl)
    (hline : (apos.endLine == cpos.line) = true := by rfl) (hs : starEach (e :: es) X.env = (false, eval e X.env) :: starEach es X.env := by rfl) (hplain : (backTo cpos (starEach es X.env)).any (·.1) = false := by rfl) :
    ME X W (.Call (.Attribute o name apos) (e :: es) [] cpos) (dBM isL r to t) :=
  PE.imp (pe_bm pa slot hty hm ho ha hbase hfew hline hs hplain) fun σ H Q ⟨τ, G, Xd, Qd, hσ, hA, h, hQ, hX⟩ =>
    ⟨τ, G, Xd, _, hσ, hA, h, fun x G1 v H1 e1 r1 a1 h1 => by
      obtain ⟨⟨zs, hz⟩, h2⟩ := h1
      obtain ⟨a, ws, rfl, sq, _⟩ := lst_at a1 r1 hz
      refine ⟨.inl ⟨rfl, _, sq⟩, τ, G1, Xd, _, hσ.ext e1, a1, h2, fun ds G2 vs H2 e2 r2 a2 h3 => ?_, hX.ext e1⟩
      exact ⟨x, ds, G2, Qd, r1.ext e2, r2, a2, h3, fun d' G' v' H' e' => hQ d' G' v' H' ((e1.trans e2).trans e')⟩, hX⟩
theorem m_lm0 (pa : PlainAttrs "list") (slot : Slot "list" name id) (hty : typeOf (.builtin id) = pure (.type "method_descriptor")) (hm : MtR X id (liftM X.K X.mg r)) (ho : ME X W o to)
    (hbase : attributeBase o name X.env (eval o X.env) = eval o X.env := by rfl) (hline : (apos.endLine == cpos.line) = true := by rfl) :
    ME X W (.Call (.Attribute o name apos) [] [] cpos) (dBM isL r to dNil) :=
  PE.imp (pe_bm0 pa slot hty hm ho hbase hline) fun σ H Q ⟨τ, G, Xd, Qd, hσ, hA, h, hQ, hX⟩ =>
    ⟨τ, G, Xd, _, hσ, hA, h, fun x G1 v H1 e1 r1 a1 h1 => by
      obtain ⟨⟨zs, hz⟩, h2⟩ := h1
      obtain ⟨a, ws, rfl, sq, _⟩ := lst_at a1 r1 hz
      exact ⟨.inl ⟨rfl, _, sq⟩, x, [], G1, Qd, r1, .nil, a1, h2, fun d' G' v' H' e' => hQ d' G' v' H' (e1.trans e')⟩, hX⟩
end

/-! ### targets -/
abbrev TGD := D → DSt → DH → DX → (DSt → DH → Prop) → Prop
abbrev TGsD := List D → DSt → DH → DX → (DSt → DH → Prop) → Prop
def XOkS (K : PySem.W.Frag) (mg : Str → Option Value) (W : WX) (Xd : DX) (H : Hp) : Prop := ∀ σ', XOk K mg W Xd σ' H
theorem XOkS.ext {K : PySem.W.Frag} {mg : Str → Option Value} {W : WX} {Xd : DX} {H H' : Hp} (h : XOkS K mg W Xd H) (e : Ext H H') : XOkS K mg W Xd H' := fun σ' => (h σ').ext e
def liftG (K : PySem.W.Frag) (mg : Str → Option Value) (W : WX) (td : TGD) : TG := fun v σ H Q =>
  ∃ d τ G Xd Qd, Rep K mg H v d ∧ StRep K mg H σ τ ∧ Abs K mg G H ∧ td d τ G Xd Qd ∧ (∀ τ' G' σ' H', Ext H H' → StRep K mg H' σ' τ' → Abs K mg G' H' → Qd τ' G' → Q σ' H') ∧ XOkS K mg W Xd H
def liftGs (K : PySem.W.Frag) (mg : Str → Option Value) (W : WX) (td : TGsD) : TGs := fun vs σ H Q =>
  ∃ ds τ G Xd Qd, RepL K mg H vs ds ∧ StRep K mg H σ τ ∧ Abs K mg G H ∧ td ds τ G Xd Qd ∧ (∀ τ' G' σ' H', Ext H H' → StRep K mg H' σ' τ' → Abs K mg G' H' → Qd τ' G' → Q σ' H') ∧ XOkS K mg W Xd H
abbrev MG (X : Cx) (W : WX) (e : Expr) (td : TGD) : Prop := PG X e (liftG X.K X.mg W td)
abbrev MGs (X : Cx) (W : WX) (e : List Expr) (td : TGsD) : Prop := PGs X e (liftGs X.K X.mg W td)
theorem PG.imp {X : Cx} {e : Expr} {t t' : TG} (h : PG X e t) (k : ∀ v σ H Q, t' v σ H Q → t v σ H Q) : PG X e t' := ⟨fun pins s σ H v u Q I r q => h.run pins s σ H v u Q I r (k _ _ _ _ q)⟩
theorem PGs.imp {X : Cx} {e : List Expr} {t t' : TGs} (h : PGs X e t) (k : ∀ v σ H Q, t' v σ H Q → t v σ H Q) : PGs X e t' := ⟨fun pins s σ H v u Q I r q => h.run pins s σ H v u Q I r (k _ _ _ _ q)⟩
/-- the slots, worked out -/
def forceS : DSt → (DSt → Prop) → Prop
  | [], Q => Q []
  | a :: l, Q => forceS l fun l' => Q (a :: l')
theorem forceS_eq : ∀ {τ : DSt} {Q : DSt → Prop}, forceS τ Q = Q τ
  | [], _ => rfl
  | _ :: l, _ => forceS_eq (τ := l)
theorem forceS_of {τ : DSt} {Q : DSt → Prop} (h : forceS τ Q) : Q τ := forceS_eq.mp h
def gSlot (i : Nat) : TGD := fun v τ G _ Q => forceS (τ.set i (some v)) fun τ' => Q τ' G
def gsNil : TGsD := fun vs τ G _ Q => match vs with | [] => Q τ G | _ => False
def gsCons (t : TGD) (u : TGsD) : TGsD := fun vs τ G X Q => match vs with | v :: r => t v τ G X fun τ' G' => u r τ' G' X Q | _ => False
/-- unpacked: a tuple; a list -/
def gTupD (n : Nat) (t : TGsD) : TGD := fun v τ G X Q => match v with | .tup xs => xs.length = n ∧ t xs τ G X Q | _ => False
def gLstD (n : Nat) (t : TGsD) : TGD := fun v τ G X Q => onSome (lstOf G v) fun xs => xs.length = n ∧ t xs τ G X Q
def gFld (c : String) (to : TED) (f : String) : TGD := fun v τ G X Q => to τ G X fun x G1 => match x with
  | .ref a => onSome (oIns (G1 a)) fun p => (p.1 = c ∧ p.2.length < 40) ∧ Q τ (up G1 a (.ins c (putD f v p.2)))
  | _ => False
def gSubL (to ti : TED) : TGD := fun v τ G X Q => to τ G X fun x G1 => ti τ G1 X fun y G2 => asI y fun i => match x with
  | .ref a => onSome (oLst (G2 a)) fun xs => onSome (ixN xs.length i) fun j => Q τ (up G2 a (.lst (xs.set j v)))
  | _ => False
section
variable {X : Cx} {W : WX} {e o i : Expr} {es : List Expr} {to ti te : TED} {t : TGD} {u : TGsD} {pos p : Pos}
theorem mg_name {j : Nat} {x : Str} (hN : X.N.Nodup) (hi : X.N[j]? = some x := by rfl) (hx : Loc X.env.scope x := by first | exact Or.inl rfl | exact Or.inr rfl) (hf : X.fn x = true ∨ X.env.scope.names.lookup x = some .local := by first | exact .inl rfl | exact .inr rfl | assumption) : MG X W (.Name x pos) (gSlot j) :=
  PG.imp (pg_name hN hi hx hf) fun v σ H Q ⟨d, τ, G, Xd, Qd, hr, hσ, hA, h, hQ, hX⟩ => hQ _ _ _ _ (.refl _) (hσ.set hr j) hA (forceS_of (Q := fun τ' => Qd τ' G) h)
theorem mgs_nil : MGs X W [] gsNil := PGs.imp pgs_nil fun vs σ H Q ⟨ds, τ, G, Xd, Qd, hr, hσ, hA, h, hQ, hX⟩ => by
  cases ds with
  | nil => cases hr; exact ⟨rfl, hQ _ _ _ _ (.refl _) hσ hA h⟩
  | cons _ _ => exact (show False from h).elim
theorem mgs_cons (h1 : MG X W e t) (h2 : MGs X W es u) (hs : (assignEach (e :: es) X.env).map (·.2) = assign e X.env :: (assignEach es X.env).map (·.2) := by rfl) : MGs X W (e :: es) (gsCons t u) :=
  PGs.imp (pgs_cons h1 h2 hs) fun vs σ H Q ⟨ds, τ, G, Xd, Qd, hr, hσ, hA, h, hQ, hX⟩ => by
    cases ds with
    | nil => exact (show False from h).elim
    | cons d ds =>
      cases hr with
      | cons r1 r2 =>
        refine ⟨_, _, rfl, d, τ, G, Xd, _, r1, hσ, hA, h, fun τ' G' σ' H' e1 s1 a1 h1 => ?_, hX⟩
        exact ⟨ds, τ', G', Xd, Qd, r2.ext e1, s1, a1, h1, fun τ2 G2 σ2 H2 e2 => hQ τ2 G2 σ2 H2 (e1.trans e2), hX.ext e1⟩
theorem mg_tup {k n : Nat} (hc : X.calm = true) (h : MGs X W es u) (hn : (assignEach es X.env).length = n := by rfl) (hst : (assignEach es X.env).findIdx? (·.1) = none := by rfl) : MG X W (.Tuple es k pos) (gTupD n u) :=
  PG.imp (pg_tup hc h hn hst) fun v σ H Q ⟨d, τ, G, Xd, Qd, hr, hσ, hA, h, hQ, hX⟩ => by
    cases d <;> try exact (show False from h).elim
    obtain ⟨a, xs, rfl, q, l⟩ := hr.tupv
    exact ⟨a, xs, rfl, q, l.length.trans h.1, _, τ, G, Xd, Qd, l, hσ, hA, h.2, hQ, hX⟩
theorem mg_lst {k n : Nat} (hc : X.calm = true) (h : MGs X W es u) (hn : (assignEach es X.env).length = n := by rfl) (hst : (assignEach es X.env).findIdx? (·.1) = none := by rfl) : MG X W (.Tuple es k pos) (gLstD n u) :=
  PG.imp (pg_unl hc h hn hst) fun v σ H Q ⟨d, τ, G, Xd, Qd, hr, hσ, hA, h, hQ, hX⟩ => by
    obtain ⟨xs, e1, h⟩ := onSome_of h
    obtain ⟨a, ws, rfl, sq, l⟩ := lst_at hA hr e1
    exact ⟨a, ws, rfl, sq, l.length.trans h.1, _, τ, G, Xd, Qd, l, hσ, hA, h.2, hQ, hX⟩
theorem FldAll.put {c f : String} {v : D} {fs : List (String × D)} (F : FldAll c fs) (h : fldOk c f = true) : FldAll c (putD f v fs) := fun g u q => by
  rw [lookup_putD] at q
  split at q
  · rename_i z; rw [z]; exact h
  · exact F g u q
theorem set_fld {c f : String} {K : PySem.W.Frag} {mg : Str → Option Value} {H : Hp} {G : DH} {a C dx : Addr} {vs : List (Str × V)} {fs : List (String × D)} {v : V} {d : D} (A : Abs K mg G H) (hC : mg (c : Str) = some (.ref C)) (eH : H a = some (.ins C dx vs)) (fr : FRep K mg H vs fs) (fo : FldAll c fs)
    (hl : fs.length < 40) (ok : fldOk c f = true) (r : Rep K mg H v d) : Abs K mg (up G a (.ins c (putD f d fs))) (upd H a (.ins C dx (putF (f : Str) v vs))) :=
  A.upd (.ins eH) (show ObjRep K mg _ a (.ins c (putD f d fs)) from ⟨C, dx, _, hC, upd_same, FRep.put (r.ext (.ins eH)) (fr.ext (.ins eH)), fo.put ok, by have := length_putD f d fs; omega⟩)
/-- o.f = .. as one of several targets, or alone -/
theorem mg_fld {c f : String} (T : FldTxt X.K X.mg) (ok : fldOk c f = true) (ho : ME X W o to) : MG X W (.Attribute o (f : Str) pos) (gFld c to f) := by
  refine ⟨fun pins s σ H v u Q I r ⟨d, τ, G, Xd, Qd, hr, hσ, hA, h, hQ, hX⟩ => ?_⟩
  rw [PySem.assign_Attribute]
  refine wpAny_bind (wpAny_holding (thn (ho.run pins s σ H (fun x H1 => ∃ dx G1, Ext H H1 ∧ Rep X.K X.mg H1 x dx ∧ Abs X.K X.mg G1 H1 ∧ _) I ⟨τ, G, Xd, _, hσ, hA, h, fun x G1 v' H1 e1 r1 a1 h1 => ⟨x, G1, e1, r1, a1, h1⟩, hX σ⟩) fun ov s1 ⟨x, H1, I1, rx, xd, G1, e1, r1, a1, h1⟩ => ?_))
  cases xd <;> try exact (show False from h1).elim
  obtain ⟨⟨c', fs⟩, e2, ⟨hc, hl⟩, q⟩ := onSome_of h1
  simp only at hc hl q
  subst hc
  obtain ⟨C, dx, vs, hC, eH, fr, fo, _⟩ := a1 _ _ (oIns_some e2)
  obtain ⟨cl, na⟩ := T c' f C hC ok
  have e3 := r1.refv
  subst e3
  cases rx
  refine wpAny_bind (wpAny_standAt (wpAny_bind (wpAny_holding (setattr_ok I1 eH cl na (by rw [fr.length]; omega) r fun s2 I2 => ?_))))
  refine wpAny_release ⟨σ, _, I2, ?_⟩
  exact hQ _ _ _ _ (e1.trans (.ins eH)) (hσ.ext (e1.trans (.ins eH))) (set_fld a1 hC eH fr fo hl ok (hr.ext e1)) q
theorem mg_sub (ho : ME X W o to) (hi : ME X W i ti)
    (ha : ∀ v, assign (.Subscript o i pos) X.env v = (do
      let ov ← holding [v] (eval o X.env)
      let iv ← holding [v, ov] (eval i X.env)
      standAt pos
      holding [v, ov, iv] (setItem ov iv v)
      release [v, ov, iv] []) := by intro _; rfl) : MG X W (.Subscript o i pos) (gSubL to ti) :=
  PG.imp (pg_sub ho hi set_list ha) fun v σ H Q ⟨d, τ, G, Xd, Qd, hr, hσ, hA, h, hQ, hX⟩ => by
    refine ⟨τ, G, Xd, _, hσ, hA, h, fun x G1 xv H1 e1 r1 a1 h1 => ?_, hX σ⟩
    refine ⟨τ, G1, Xd, _, hσ.ext e1, a1, h1, fun y G2 yv H2 e2 r2 a2 h2 => ?_, (hX σ).ext e1⟩
    obtain ⟨k, rfl, h3⟩ := asI_of h2
    cases x <;> try exact (show False from h3).elim
    obtain ⟨xs, ex, h4⟩ := onSome_of h3
    obtain ⟨j, ej, h5⟩ := onSome_of h4
    obtain ⟨zs, ez, l⟩ := a2 _ _ (oLst_some ex)
    refine ⟨_, zs, k, j, r1.refv, r2.intv, ez, by rw [l.length]; exact ej, ?_⟩
    exact hQ _ _ _ _ ((e1.trans e2).trans (.lst ez)) (hσ.ext ((e1.trans e2).trans (.lst ez))) (a2.setL ez (l.set (hr.ext (e1.trans e2)) j)) h5

/-! ### statements -/
def sNx : TSD := fun D_ τ G => D_.nx τ G
def sSeq (t u : TSD) : TSD := fun D_ τ G => match D_ with | ⟨nx, rt, xx, bk, ct⟩ => t ⟨fun τ' G' => u ⟨nx, rt, xx, bk, ct⟩ τ' G', rt, xx, bk, ct⟩ τ G
def sAsg (te : TED) (g : TGD) : TSD := fun D_ τ G => te τ G D_.xx fun x G1 => g x τ G1 D_.xx D_.nx
def sDo (te : TED) : TSD := fun D_ τ G => te τ G D_.xx fun _ G1 => D_.nx τ G1
def sRet (te : TED) : TSD := fun D_ τ G => te τ G D_.xx D_.rt
def sRetN : TSD := fun D_ _ G => D_.rt .non G
def sIf (c : TTD) (t u : TSD) : TSD := fun D_ τ G => c τ G D_.xx fun k G1 => ifB k (t D_ τ G1) (u D_ τ G1)
def sBrk : TSD := fun D_ τ G => D_.bk τ G
def sCnt : TSD := fun D_ τ G => D_.ct τ G
variable {st : Stmt} {sts : List Stmt} {sa sb : TSD}
theorem ms_nil : MSs X W [] sNx := PSs.imp pss_nil fun D_ σ H ⟨τ, G, Dd, hσ, hA, h, hE⟩ => hE.nx _ _ _ _ (.refl _) hσ hA h
theorem ms_one (h1 : MS X W st sa) : MSs X W [st] sa := pss_one h1
theorem ms_cons (h1 : MS X W st sa) (h2 : MSs X W sts sb) : MSs X W (st :: sts) (sSeq sa sb) := PSs.imp (pss_cons h1 h2) fun D_ σ H ⟨τ, G, Dd, hσ, hA, h, hE⟩ =>
  ⟨τ, G, _, hσ, hA, h, ⟨fun τ' G' σ' H' e s a q => ⟨τ', G', Dd, s, a, q, hE.ext e⟩, hE.rt, hE.bk, hE.ct, hE.xx⟩⟩
theorem ms_pass : MS X W (.Pass pos) sNx := PS.imp ps_pass fun D_ σ H ⟨τ, G, Dd, hσ, hA, h, hE⟩ => hE.nx _ _ _ _ (.refl _) hσ hA h
theorem ms_brk : MS X W (.Break pos) sBrk := PS.imp ps_break fun D_ σ H ⟨τ, G, Dd, hσ, hA, h, hE⟩ => hE.bk _ _ _ _ (.refl _) hσ hA h
theorem ms_cnt : MS X W (.Continue pos) sCnt := PS.imp ps_continue fun D_ σ H ⟨τ, G, Dd, hσ, hA, h, hE⟩ => hE.ct _ _ _ _ (.refl _) hσ hA h
theorem ms_do (he : ME X W e te) (hs : swapsWith e none pos.line X.env = pure false := by rfl) : MS X W (.Expr e pos) (sDo te) := PS.imp (ps_expr he hs) fun D_ σ H ⟨τ, G, Dd, hσ, hA, h, hE⟩ =>
  ⟨τ, G, Dd.xx, _, hσ, hA, h, fun x G1 v H1 e1 r1 a1 h1 => hE.nx _ _ _ _ e1 (hσ.ext e1) a1 h1, hE.xx σ⟩
theorem ms_ret (he : ME X W e te) : MS X W (.Return (some e) pos) (sRet te) := PS.imp (ps_ret he) fun D_ σ H ⟨τ, G, Dd, hσ, hA, h, hE⟩ =>
  ⟨τ, G, Dd.xx, _, hσ, hA, h, fun x G1 v H1 e1 r1 a1 h1 => hE.rt _ _ _ _ e1 r1 a1 h1, hE.xx σ⟩
theorem ms_retN : MS X W (.Return none pos) sRetN := PS.imp ps_retN fun D_ σ H ⟨τ, G, Dd, hσ, hA, h, hE⟩ => hE.rt _ _ _ _ (.refl _) .non hA h
theorem ms_if {c : Expr} {a b : List Stmt} {tc : TTD} (hc : MT X W c tc) (ha : MSs X W a sa) (hb : MSs X W b sb) : MS X W (.If c a b pos) (sIf tc sa sb) := PS.imp (ps_if hc ha hb) fun D_ σ H ⟨τ, G, Dd, hσ, hA, h, hE⟩ =>
  ⟨τ, G, Dd.xx, _, hσ, hA, h, fun k G1 H1 e1 a1 h1 => by
    cases k with
    | true => rw [ifB_true] at h1; exact ⟨τ, G1, Dd, hσ.ext e1, a1, h1, hE.ext e1⟩
    | false => rw [ifB_false] at h1; exact ⟨τ, G1, Dd, hσ.ext e1, a1, h1, hE.ext e1⟩, hE.xx σ⟩
theorem lift_asg {D_ : Ends} {σ : L2.St} {H : Hp} (h : liftS X.K X.mg W (sAsg te t) D_ σ H) : tAsg (liftE X.K X.mg W te) (liftG X.K X.mg W t) D_ σ H := by
  obtain ⟨τ, G, Dd, hσ, hA, h, hE⟩ := h
  refine ⟨τ, G, Dd.xx, _, hσ, hA, h, fun x G1 v H1 e1 r1 a1 h1 => ?_, hE.xx σ⟩
  exact ⟨x, τ, G1, Dd.xx, Dd.nx, r1, hσ.ext e1, a1, h1, fun τ' G' σ' H' e2 => hE.nx _ _ _ _ (e1.trans e2), (fun σ' => (hE.xx σ').ext e1)⟩
/-- target = value -/
theorem ms_asg {tg : Expr} (he : ME X W e te) (hg : MG X W tg t) (hs : swapsWithSole [tg] e pos.line X.env = pure false := by rfl) (hw : swappedStores [tg] e X.env = pure none := by rfl)
    (h1 : (assignEach [tg] X.env).map (·.2) = [assign tg X.env] := by rfl) : MS X W (.Assign [tg] e pos) (sAsg te t) := PS.imp (ps_asg he hg hs hw h1) fun _ _ _ h => lift_asg h
end
end L3

namespace L3
open PySem PySem.Spec PyProof.Rows L2

/-! ### what a loop walks -/
structure DIt where
  items : List D
  ok : DH → Prop
abbrev TID := DSt → DH → DX → (DIt → DH → Prop) → Prop
def ItRel (K : PySem.W.Frag) (mg : Str → Option Value) (H0 : Hp) (J : It) (I : DIt) : Prop := ∀ G H, Ext H0 H → Abs K mg G H → I.ok G →
  (∀ i, i < I.items.length → J.go i H ∧ ∀ x H', J.yld i H x H' → ∃ d, I.items[i]? = some d ∧ Ext H H' ∧ Rep K mg H' x d ∧ Abs K mg G H') ∧ J.stop I.items.length H
def liftI (K : PySem.W.Frag) (mg : Str → Option Value) (W : WX) (td : TID) : TI := fun σ H R =>
  ∃ τ G Xd Rd, StRep K mg H σ τ ∧ Abs K mg G H ∧ td τ G Xd Rd ∧ (∀ J I G' H', Ext H H' → Abs K mg G' H' → ItRel K mg H' J I → Rd I G' → R J H') ∧ XOk K mg W Xd σ H
abbrev MI (X : Cx) (W : WX) (tg e : Expr) (td : TID) : Prop := PI X tg e (liftI X.K X.mg W td)
theorem PI.imp {X : Cx} {tg e : Expr} {t t' : TI} (h : PI X tg e t) (k : ∀ σ H Q, t' σ H Q → t σ H Q) : PI X tg e t' := ⟨fun pins s σ H Q I q => h.run pins s σ H Q I (k _ _ _ q)⟩
def isTupB : D → Bool
  | .tup _ => true
  | _ => false
/-- for x in a tuple -/
def iTupD (te : TED) : TID := fun τ G X R => te τ G X fun x G1 => match x with | .tup xs => R ⟨xs, fun _ => True⟩ G1 | _ => False
/-- for x in a list -/
def iLstD (te : TED) : TID := fun τ G X R => te τ G X fun x G1 => onSome (lstOf G1 x) fun xs => R ⟨xs, fun G' => lstOf G' x = some xs⟩ G1
def rangeD (lo : Int) (n : Nat) : List D := (List.range n).map fun (i : Nat) => .int (lo + (i : Int))
def inR (i : Int) : Prop := -(2 ^ 62) ≤ i ∧ i < 2 ^ 62
def iRngD1 (t : TED) : TID := fun τ G X R => t τ G X fun x G1 => asI x fun j => inR j ∧ R ⟨rangeD 0 j.toNat, fun _ => True⟩ G1
def iRngD2 (t u : TED) : TID := fun τ G X R => t τ G X fun x G1 => u τ G1 X fun y G2 => asI x fun i => asI y fun j => (inR i ∧ inR j) ∧ R ⟨rangeD i (j - i).toNat, fun _ => True⟩ G2
def enumD : Nat → List D → List D
  | _, [] => []
  | i, d :: ds => .tup [.int (i : Int), d] :: enumD (i + 1) ds
def iEnumL (te : TED) : TID := fun τ G X R => te τ G X fun x G1 => onSome (lstOf G1 x) fun xs => R ⟨enumD 0 xs, fun G' => lstOf G' x = some xs⟩ G1
theorem enumD_length : ∀ (i : Nat) (ds : List D), (enumD i ds).length = ds.length
  | _, [] => rfl
  | i, d :: ds => congrArg (· + 1) (enumD_length (i + 1) ds)
theorem enumD_get : ∀ (k : Nat) (ds : List D) (i : Nat) (d : D), ds[i]? = some d → (enumD k ds)[i]? = some (.tup [.int ((k + i : Nat) : Int), d])
  | k, [], i, d, h => by simp at h
  | k, x :: ds, 0, d, h => by simp at h; subst h; rfl
  | k, x :: ds, i + 1, d, h => by
    have := enumD_get (k + 1) ds i d (by simpa using h)
    have e : k + 1 + i = k + (i + 1) := by omega
    rw [e] at this
    simpa [enumD] using this
theorem rangeD_get (lo : Int) (n i : Nat) (h : i < n) : (rangeD lo n)[i]? = some (.int (lo + (i : Int))) := by
  unfold rangeD
  rw [List.getElem?_map, List.getElem?_range h]
  rfl
theorem rangeD_length (lo : Int) (n : Nat) : (rangeD lo n).length = n := by unfold rangeD; simp
section
variable {X : Cx} {W : WX} {e a b tg : Expr} {te ta tb : TED} {pos p tpos : Pos}
theorem get_some {α : Type} {xs : List α} {i : Nat} (h : i < xs.length) : ∃ x, xs[i]? = some x := ⟨_, List.getElem?_eq_getElem h⟩
theorem mi_lst (he : ME X W e te) : MI X W tg e (iLstD te) := PI.imp (pi_list he) fun σ H R ⟨τ, G, Xd, Rd, hσ, hA, h, hR, hX⟩ =>
  ⟨τ, G, Xd, _, hσ, hA, h, fun x G1 v H1 e1 r1 a1 h1 => by
    obtain ⟨xs, ex, q⟩ := onSome_of h1
    obtain ⟨a, ws, rfl, sq, l⟩ := lst_at a1 r1 ex
    refine ⟨a, rfl, ⟨ws, sq⟩, hR _ _ _ _ e1 a1 (fun G2 H2 e2 a2 ok => ?_) q⟩
    obtain ⟨a', ws', ea, sq', l'⟩ := lst_at a2 (r1.ext e2) ok
    cases ea
    refine ⟨fun i hi => ?_, ws', sq', by rw [l'.length]; exact Nat.le_refl _⟩
    obtain ⟨d, hd⟩ := get_some hi
    obtain ⟨w, hw, rw'⟩ := l'.get hd
    refine ⟨⟨ws', w, sq', hw⟩, fun y H' hy => ?_⟩
    obtain ⟨rfl, hy⟩ := hy
    have := hy ws' sq'
    rw [hw] at this
    cases this
    exact ⟨d, hd, .refl _, rw', a2⟩, hX⟩
theorem mi_tup (he : ME X W e te) : MI X W tg e (iTupD te) := PI.imp (pi_tup he) fun σ H R ⟨τ, G, Xd, Rd, hσ, hA, h, hR, hX⟩ =>
  ⟨τ, G, Xd, _, hσ, hA, h, fun x G1 v H1 e1 r1 a1 h1 => by
    cases x <;> try exact (show False from h1).elim
    obtain ⟨a, ws, rfl, sq, l⟩ := r1.tupv
    refine ⟨a, rfl, ⟨ws, sq⟩, hR _ _ _ _ e1 a1 (fun G2 H2 e2 a2 _ => ?_) h1⟩
    have sq' := sqT_ext e2 sq
    have l' := l.ext e2
    refine ⟨fun i hi => ?_, ws, sq', by rw [l'.length]; exact Nat.le_refl _⟩
    obtain ⟨d, hd⟩ := get_some hi
    obtain ⟨w, hw, rw'⟩ := l'.get hd
    refine ⟨⟨ws, w, sq', hw⟩, fun y H' hy => ?_⟩
    obtain ⟨rfl, hy⟩ := hy
    have := hy ws sq'
    rw [hw] at this
    cases this
    exact ⟨d, hd, .refl _, rw', a2⟩, hX⟩
theorem rng_rel {K : PySem.W.Frag} {mg : Str → Option Value} {H : Hp} (lo : Int) (n : Nat) : ItRel K mg H (Itr lo n) ⟨rangeD lo n, fun _ => True⟩ := fun G2 H2 e2 a2 _ => by
  refine ⟨fun i hi => ?_, ?_⟩
  · have hi' : i < n := by rw [rangeD_length] at hi; exact hi
    refine ⟨hi', fun y H' hy => ?_⟩
    obtain ⟨rfl, rfl⟩ := hy
    exact ⟨_, rangeD_get lo n i hi', .refl _, .int _, a2⟩
  · show n ≤ (rangeD lo n).length
    rw [rangeD_length]
    exact Nat.le_refl _
theorem mi_rng1 (hm : X.mg ("range" : Str) = none) (ha : ME X W a ta) (hg : Gl X ("range" : Str) := by rfl) (hs : starEach [a] X.env = [(false, eval a X.env)] := by rfl) : MI X W tg (.Call (.Name ("range" : Str) p) [a] [] pos) (iRngD1 ta) :=
  PI.imp (pi_range1 hg hm (pa_cons ha pa_nil hs) hs) fun σ H R ⟨τ, G, Xd, Rd, hσ, hA, h, hR, hX⟩ =>
    ⟨τ, G, Xd, _, hσ, hA, h, fun x G1 v H1 e1 r1 a1 h1 => by
      obtain ⟨j, rfl, hj, q⟩ := asI_of h1
      exact ⟨j, by rw [r1.intv], hj.1, hj.2, hR _ _ _ _ e1 a1 (rng_rel 0 _) q⟩, hX⟩
theorem mi_rng2 (hm : X.mg ("range" : Str) = none) (ha : ME X W a ta) (hb : ME X W b tb) (hg : Gl X ("range" : Str) := by rfl) (hs : starEach [a, b] X.env = [(false, eval a X.env), (false, eval b X.env)] := by rfl) (hs2 : starEach [b] X.env = [(false, eval b X.env)] := by rfl)
    (hs3 : starEach [a, b] X.env = (false, eval a X.env) :: starEach [b] X.env := by rfl) : MI X W tg (.Call (.Name ("range" : Str) p) [a, b] [] pos) (iRngD2 ta tb) :=
  PI.imp (pi_range2 hg hm (pa_cons ha (pa_cons hb pa_nil hs2) hs3) hs hs2) fun σ H R ⟨τ, G, Xd, Rd, hσ, hA, h, hR, hX⟩ =>
    ⟨τ, G, Xd, _, hσ, hA, h, fun x G1 v H1 e1 r1 a1 h1 => ⟨τ, G1, Xd, _, hσ.ext e1, a1, h1, fun y G2 w H2 e2 r2 a2 h2 => by
      obtain ⟨i, rfl, h3⟩ := asI_of h2
      obtain ⟨j, rfl, ⟨⟨i1, i2⟩, j1, j2⟩, q⟩ := asI_of h3
      exact ⟨i, j, by rw [r1.intv, r2.intv], ⟨i1, i2, j1, j2⟩, hR _ _ _ _ (e1.trans e2) a2 (rng_rel i _) q⟩, hX.ext e1⟩, hX⟩
theorem mi_enum {elts : List Expr} {kk : Nat} (hm : X.mg ("enumerate" : Str) = none) (ha : ME X W a ta) (hg : Gl X ("enumerate" : Str) := by rfl) (hs : starEach [a] X.env = [(false, eval a X.env)] := by rfl) : MI X W (.Tuple elts kk tpos) (.Call (.Name ("enumerate" : Str) p) [a] [] pos) (iEnumL ta) :=
  PI.imp (pi_enum hg hm (pa_cons ha pa_nil hs) hs) fun σ H R ⟨τ, G, Xd, Rd, hσ, hA, h, hR, hX⟩ =>
    ⟨τ, G, Xd, _, hσ, hA, h, fun x G1 v H1 e1 r1 a1 h1 => by
      obtain ⟨xs, ex, q⟩ := onSome_of h1
      obtain ⟨a, ws, rfl, sq, l⟩ := lst_at a1 r1 ex
      refine ⟨a, ws, rfl, sq, hR _ _ _ _ e1 a1 (fun G2 H2 e2 a2 ok => ?_) q⟩
      obtain ⟨a', ws', ea, sq', l'⟩ := lst_at a2 (r1.ext e2) ok
      cases ea
      refine ⟨fun i hi => ?_, ws', sq', by rw [l'.length, enumD_length]; exact Nat.le_refl _⟩
      have hi' : i < xs.length := by
        have z : i < (enumD 0 xs).length := hi
        rw [enumD_length] at z; exact z
      obtain ⟨d, hd⟩ := get_some hi'
      obtain ⟨w, hw, rw'⟩ := l'.get hd
      refine ⟨⟨ws', w, sq', hw⟩, fun y H' hy => ?_⟩
      obtain ⟨T, z, rfl, hT, rfl, hz⟩ := hy
      have := hz ws' sq'
      rw [hw] at this
      cases this
      have hg := enumD_get 0 xs i d hd
      rw [Nat.zero_add] at hg
      exact ⟨_, hg, .new hT, .tup (.of upd_same) ((RepL.cons (.int _) (.cons rw' .nil)).ext (.new hT)), a2.keep hT⟩, hX⟩
end

/-! ### for, while -/
def forRun (I : DIt) (g : TGD) (tb : TSD) (D_ : DEnds) : List D → DSt → DH → Prop
  | [], τ, G => I.ok G ∧ D_.nx τ G
  | d :: ds, τ, G => I.ok G ∧ g d τ G D_.xx fun τ' G' => tb { nx := forRun I g tb D_ ds, rt := D_.rt, xx := D_.xx, bk := D_.nx, ct := forRun I g tb D_ ds } τ' G'
def sFor (wi : TID) (g : TGD) (tb : TSD) : TSD := fun D_ τ G => match D_ with | ⟨nx, rt, xx, bk, ct⟩ => wi τ G xx fun I G1 => forRun I g tb ⟨nx, rt, xx, bk, ct⟩ I.items τ G1
theorem forRun_ok {I : DIt} {g : TGD} {tb : TSD} {D_ : DEnds} {ds : List D} {τ : DSt} {G : DH} (h : forRun I g tb D_ ds τ G) : I.ok G := by
  cases ds <;> exact h.1
def sWhile (c : TTD) (tb : TSD) : TSD := fun D_ τ G => ∃ P : Nat → DSt → DH → Prop, (∃ m, P m τ G) ∧ ∀ m τ G, P m τ G →
  c τ G D_.xx fun b G1 => ifB b (tb { nx := fun τ' G' => ∃ m', m' < m ∧ P m' τ' G', rt := D_.rt, xx := D_.xx, bk := D_.nx, ct := fun τ' G' => ∃ m', m' < m ∧ P m' τ' G' } τ G1) (D_.nx τ G1)
section
variable {X : Cx} {W : WX} {tg iter c : Expr} {body : List Stmt} {wi : TID} {g : TGD} {tb : TSD} {tc : TTD} {pos : Pos}
theorem ms_for (hp : PassesOwn (model X.prog X.w) X.A X.env X.xe) (hc : X.calm = true) (hi : MI X W tg iter wi) (hg : MG X W tg g) (hb : MSs X W body tb) (hs : ∀ x, foldedSetIterable iter X.env x = pure x := by intro _; rfl) : MS X W (.For tg iter body [] pos) (sFor wi g tb) :=
  PS.imp (ps_for hp hc hi hg hb hs) fun D_ σ H ⟨τ, G, Dd, hσ, hA, h, hE⟩ => by
    refine ⟨τ, G, Dd.xx, _, hσ, hA, h, fun J I G1 H1 e1 a1 rel h1 => ?_, hE.xx σ⟩
    refine ⟨fun i m σ' H' => m = I.items.length - i ∧ i ≤ I.items.length ∧ Ext H1 H' ∧ ∃ τ' G', StRep X.K X.mg H' σ' τ' ∧ Abs X.K X.mg G' H' ∧ forRun I g tb Dd (I.items.drop i) τ' G', ⟨_, rfl, Nat.zero_le _, .refl _, τ, G1, hσ.ext e1, a1, h1⟩, ?_⟩
    rintro i m σ' H' ⟨rfl, hi, e2, τ', G', s2, a2, h2⟩
    obtain ⟨hgo, hst⟩ := rel G' H' e2 a2 (forRun_ok h2)
    have e02 := e1.trans e2
    by_cases hlt : i < I.items.length
    · obtain ⟨g1, g2⟩ := hgo i hlt
      refine .inr ⟨g1, fun σ3 H3 => Ext H1 H3 ∧ ∃ τ3 G3, StRep X.K X.mg H3 σ3 τ3 ∧ Abs X.K X.mg G3 H3 ∧ forRun I g tb Dd (I.items.drop (i + 1)) τ3 G3, fun σ3 H3 q => ⟨_, by omega, rfl, hlt, q⟩, fun x H3 hy => ?_⟩
      obtain ⟨d, hd, e3, r3, a3⟩ := g2 x H3 hy
      have hdrop : I.items.drop i = d :: I.items.drop (i + 1) := by
        obtain ⟨hlt2, hd2⟩ := List.getElem?_eq_some_iff.mp hd
        rw [← hd2]
        exact List.drop_eq_getElem_cons hlt2
      rw [hdrop] at h2
      obtain ⟨_, h3⟩ := h2
      refine ⟨d, τ', G', Dd.xx, _, r3, s2.ext e3, a3, h3, fun τ4 G4 σ4 H4 e4 s4 a4 h4 => ?_, fun σ5 => ((hE.xx σ5).ext e02).ext e3⟩
      have e04 := (e02.trans e3).trans e4
      refine ⟨τ4, G4, _, s4, a4, h4, ⟨fun τ5 G5 σ5 H5 e5 s5 a5 q5 => ⟨(e2.trans e3).trans (e4.trans e5), τ5, G5, s5, a5, q5⟩, fun d5 G5 v5 H5 e5 => hE.rt d5 G5 v5 H5 (e04.trans e5), fun τ5 G5 σ5 H5 e5 => hE.nx τ5 G5 σ5 H5 (e04.trans e5),
        fun τ5 G5 σ5 H5 e5 s5 a5 q5 => ⟨(e2.trans e3).trans (e4.trans e5), τ5, G5, s5, a5, q5⟩, fun σ5 => (hE.xx σ5).ext e04⟩⟩
    · have e : i = I.items.length := by omega
      subst e
      rw [List.drop_length] at h2
      exact .inl ⟨hst, hE.nx _ _ _ _ e02 s2 a2 h2.2⟩
theorem ms_while (hp : PassesOwn (model X.prog X.w) X.A X.env X.xe) (hc : MT X W c tc) (hb : MSs X W body tb) : MS X W (.While c body [] pos) (sWhile tc tb) :=
  PS.imp (ps_while hp hc hb) fun D_ σ H ⟨τ, G, Dd, hσ, hA, h, hE⟩ => by
    obtain ⟨P, ⟨m0, p0⟩, turn⟩ := h
    refine ⟨fun m σ' H' => Ext H H' ∧ ∃ τ' G', StRep X.K X.mg H' σ' τ' ∧ Abs X.K X.mg G' H' ∧ P m τ' G', ⟨m0, .refl _, τ, G, hσ, hA, p0⟩, ?_⟩
    rintro m σ' H' ⟨e1, τ', G', s1, a1, p1⟩
    refine ⟨τ', G', Dd.xx, _, s1, a1, turn m τ' G' p1, fun b G2 H2 e2 a2 h2 => ?_, (hE.xx σ').ext e1⟩
    have e02 := e1.trans e2
    cases b with
    | true =>
      rw [ifB_true] at h2
      refine ⟨fun σ3 H3 => ∃ m', m' < m ∧ Ext H H3 ∧ ∃ τ3 G3, StRep X.K X.mg H3 σ3 τ3 ∧ Abs X.K X.mg G3 H3 ∧ P m' τ3 G3, fun σ3 H3 q => q, ?_⟩
      have nx : ∀ τ5 G5 σ5 H5, Ext H2 H5 → StRep X.K X.mg H5 σ5 τ5 → Abs X.K X.mg G5 H5 → (∃ m', m' < m ∧ P m' τ5 G5) → ∃ m', m' < m ∧ Ext H H5 ∧ ∃ τ3 G3, StRep X.K X.mg H5 σ5 τ3 ∧ Abs X.K X.mg G3 H5 ∧ P m' τ3 G3 :=
        fun τ5 G5 σ5 H5 e5 s5 a5 ⟨m', hm, q5⟩ => ⟨m', hm, e02.trans e5, τ5, G5, s5, a5, q5⟩
      exact ⟨τ', G2, _, s1.ext e2, a2, h2, ⟨nx, fun d5 G5 v5 H5 e5 => hE.rt d5 G5 v5 H5 (e02.trans e5), fun τ5 G5 σ5 H5 e5 => hE.nx τ5 G5 σ5 H5 (e02.trans e5), nx, fun σ5 => (hE.xx σ5).ext e02⟩⟩
    | false => rw [ifB_false] at h2; exact hE.nx _ _ _ _ e02 (s1.ext e2) a2 h2
end
end L3

namespace L3
open PySem PySem.Spec PyProof.Rows L2

/-! ### comprehensions -/
inductive CT where
  | one (i : Nat) | tup (is : List Nat)
def CT.slots : CT → List Nat
  | .one i => [i]
  | .tup is => is
def gNs : List Nat → TGs
  | [] => gNil
  | i :: is => gCons (gName i) (gNs is)
def ctV (K : PySem.W.Frag) : CT → TG
  | .one i => gName i
  | .tup is => gTup K is.length (gNs is)
def setMany (τ : DSt) : List Nat → List D → DSt
  | i :: is, d :: ds => setMany (τ.set i (some d)) is ds
  | _, _ => τ
def ctD : CT → D → DSt → (DSt → Prop) → Prop
  | .one i, v, τ, Q => forceS (τ.set i (some v)) Q
  | .tup is, v, τ, Q => match v with
    | .tup xs => xs.length = is.length ∧ forceS (setMany τ is xs) Q
    | _ => False
theorem wipe_set {σ : L2.St} {i : Nat} {v : Option V} : ∀ {vs : List Nat}, i ∈ vs → wipe (σ.set i v) vs = wipe σ vs
  | [], h => by cases h
  | w :: vs, h => by
    unfold wipe
    by_cases e : i ∈ vs
    · rw [wipe_set e]
    · have e2 : i = w := by
        cases h with
        | head => rfl
        | tail _ q => exact absurd q e
      subst e2
      have : ∀ ws : List Nat, (wipe (σ.set i v) ws).set i none = (wipe σ ws).set i none := by
        intro ws
        induction ws with
        | nil => simp [wipe]
        | cons u us ih =>
          by_cases q : u = i
          · subst q; unfold wipe; rw [List.set_set, List.set_set]; exact ih
          · unfold wipe; rw [List.set_comm _ _ q, List.set_comm _ _ q, ih]
      exact this vs
theorem gNs_ok {vs : List Nat} {Q : L2.St → Hp → Prop} : ∀ {is : List Nat} {xs : List V} {σ : L2.St} {H : Hp}, (∀ i ∈ is, i ∈ vs) → xs.length = is.length → (∀ σ', wipe σ' vs = wipe σ vs → (∀ {K mg τ ds}, StRep K mg H σ τ → RepL K mg H xs ds → StRep K mg H σ' (setMany τ is ds)) → Q σ' H) → gNs is xs σ H Q
  | [], [], σ, H, _, _, h => ⟨rfl, h σ rfl fun s r => by cases r; exact s⟩
  | i :: is, x :: xs, σ, H, hm, hl, h => by
    refine ⟨x, xs, rfl, gNs_ok (fun j hj => hm j (List.mem_cons_of_mem _ hj)) (by simpa using hl) fun σ' w' k => h σ' (w'.trans (wipe_set (hm i List.mem_cons_self))) fun s r => ?_⟩
    cases r with
    | cons r1 r2 => exact k (s.set r1 i) r2
  | [], _ :: _, _, _, _, hl, _ => by simp at hl
  | _ :: _, [], _, _, _, hl, _ => by simp at hl
def wipeD (τ : DSt) : List Nat → DSt
  | [] => τ
  | v :: vs => (wipeD τ vs).set v none
theorem StRep.setN {K : PySem.W.Frag} {mg : Str → Option Value} {H : Hp} : ∀ {σ : L2.St} {τ : DSt} (i : Nat), StRep K mg H σ τ → StRep K mg H (σ.set i Option.none) (τ.set i Option.none)
  | _, _, _, .nil => .nil
  | _, _, 0, .none b => .none b
  | _, _, 0, .some _ b => .none b
  | _, _, i + 1, .none b => .none (StRep.setN i b)
  | _, _, i + 1, .some a b => .some a (StRep.setN i b)
theorem StRep.wipe {K : PySem.W.Frag} {mg : Str → Option Value} {H : Hp} {σ : L2.St} {τ : DSt} (s : StRep K mg H σ τ) : ∀ vs : List Nat, StRep K mg H (L2.wipe σ vs) (wipeD τ vs)
  | [] => s
  | v :: vs => StRep.setN v (StRep.wipe s vs)
def noX : DX := fun _ _ _ => False
def compRun (I : DIt) (ct : CT) (tt : TTD) (te : TED) (τ : DSt) (p : Addr) (Q : DH → Prop) : List D → DH → Prop
  | [], G => I.ok G ∧ Q G
  | d :: ds, G => I.ok G ∧ ctD ct d τ fun τ2 => tt τ2 G noX fun b G3 => ifB b (te τ2 G3 noX fun y G4 => onSome (oLst (G4 p)) fun acc => acc.length < 16777216 ∧ compRun I ct tt te τ p Q ds (up G4 p (.lst (acc ++ [y])))) (compRun I ct tt te τ p Q ds G3)
theorem compRun_ok {I : DIt} {ct : CT} {tt : TTD} {te : TED} {τ : DSt} {p : Addr} {Q : DH → Prop} {ds : List D} {G : DH} (h : compRun I ct tt te τ p Q ds G) : I.ok G := by
  cases ds <;> exact h.1
def dComp (wi : TID) (ct : CT) (tt : TTD) (te : TED) (vs : List Nat) : TED := fun τ G X Q => wi τ G X fun I G1 => ∀ p, G1 p = none → forceS (wipeD τ vs) fun τ' => compRun I ct tt te τ' p (fun G2 => Q (.ref p) G2) I.items (up G1 p (.lst []))
def dYes : TTD := fun _ G _ Q => Q true G
abbrev WF : WX := fun _ _ _ _ => False
abbrev MTs (X : Cx) (W : WX) (es : List Expr) (td : TTD) : Prop := PTs X es (liftT X.K X.mg W td)
section
variable {X : Cx} {W : WX} {e elt tg iter c : Expr} {ifs : List Expr} {wi : TID} {ct : CT} {tt : TTD} {te : TED} {pos : Pos} {scope : Scope} {own : List (Str × Nat)}
theorem mts_nil : MTs X W [] dYes := ⟨fun pins s σ H Q I ⟨τ, G, Xd, Qd, hσ, hA, h, hQ, hX⟩ => pts_nil.run pins s σ H Q I (hQ _ _ _ (.refl _) hA h)⟩
theorem mts_one (h : MT X W c tt) : MTs X W [c] tt := pts_one h
/-- the readings' side: from dComp to HandS's -/
theorem lift_comp {K : PySem.W.Frag} {mg : Str → Option Value} {σ : L2.St} {H : Hp} {Q : VK} {vs : List Nat} (hvs : ∀ i ∈ ct.slots, i ∈ vs) (h : liftE K mg W (dComp wi ct tt te vs) σ H Q) :
    tLc (liftI K mg W wi) (ctV K ct) (liftT K mg WF tt) (liftE K mg WF te) vs σ H Q := by
  obtain ⟨τ, G, Xd, Qd, hσ, hA, h, hQ, hX⟩ := h
  refine ⟨τ, G, Xd, _, hσ, hA, h, fun J I G1 H1 e1 a1 rel h1 => fun D_ hD => ?_, hX⟩
  have r1 := h1 D_ (a1.none hD)
  replace r1 := forceS_of r1
  have eD : Ext H1 (upd H1 D_ (.lst [])) := .new hD
  refine ⟨fun i m H' => m = I.items.length - i ∧ i ≤ I.items.length ∧ Ext (upd H1 D_ (.lst [])) H' ∧ ∃ G', Abs K mg G' H' ∧ compRun I ct tt te (wipeD τ vs) D_ (fun G2 => Qd (.ref D_) G2) (I.items.drop i) G',
    ⟨_, rfl, Nat.zero_le _, .refl _, _, a1.newL hD .nil, r1⟩, ?_⟩
  rintro i m H' ⟨rfl, hi, e2, G', a2, h2⟩
  have e12 := eD.trans e2
  have e02 := e1.trans e12
  obtain ⟨hgo, hst⟩ := rel G' H' e12 a2 (compRun_ok h2)
  by_cases hlt : i < I.items.length
  · obtain ⟨g1, g2⟩ := hgo i hlt
    refine .inr ⟨g1, fun H3 => Ext (upd H1 D_ (.lst [])) H3 ∧ ∃ G3, Abs K mg G3 H3 ∧ compRun I ct tt te (wipeD τ vs) D_ (fun G2 => Qd (.ref D_) G2) (I.items.drop (i + 1)) G3, fun H3 q => ⟨_, by omega, rfl, hlt, q⟩, fun x H3 hy => ?_⟩
    obtain ⟨d, hd, e3, r3, a3⟩ := g2 x H3 hy
    have hdrop : I.items.drop i = d :: I.items.drop (i + 1) := by
      obtain ⟨hlt2, hd2⟩ := List.getElem?_eq_some_iff.mp hd
      rw [← hd2]
      exact List.drop_eq_getElem_cons hlt2
    rw [hdrop] at h2
    obtain ⟨_, h3⟩ := h2
    have e03 := e02.trans e3
    have sw : StRep K mg H3 (wipe σ vs) (wipeD τ vs) := (hσ.ext e03).wipe vs
    -- behind the target
    have go : ∀ σ2 τ2, wipe σ2 vs = wipe (wipe σ vs) vs → StRep K mg H3 σ2 τ2 → (tt τ2 G' noX fun b G3 => ifB b (te τ2 G3 noX fun y G4 => onSome (oLst (G4 D_)) fun acc => acc.length < 16777216 ∧ compRun I ct tt te (wipeD τ vs) D_ (fun G2 => Qd (.ref D_) G2) (I.items.drop (i + 1)) (up G4 D_ (.lst (acc ++ [y])))) (compRun I ct tt te (wipeD τ vs) D_ (fun G2 => Qd (.ref D_) G2) (I.items.drop (i + 1)) G3)) →
        wipe σ2 vs = wipe σ vs ∧ liftT K mg WF tt σ2 H3 fun b H3 => if b = true then liftE K mg WF te σ2 H3 fun y H4 => ∃ acc, H4 D_ = some (.lst acc) ∧ acc.length < sizeLine ∧ (Ext (upd H1 D_ (.lst [])) (upd H4 D_ (.lst (acc ++ [y]))) ∧ ∃ G3, Abs K mg G3 (upd H4 D_ (.lst (acc ++ [y]))) ∧ compRun I ct tt te (wipeD τ vs) D_ (fun G2 => Qd (.ref D_) G2) (I.items.drop (i + 1)) G3)
          else (Ext (upd H1 D_ (.lst [])) H3 ∧ ∃ G3, Abs K mg G3 H3 ∧ compRun I ct tt te (wipeD τ vs) D_ (fun G2 => Qd (.ref D_) G2) (I.items.drop (i + 1)) G3) := by
      intro σ2 τ2 hw s2 h4
      have ww : wipe (wipe σ vs) vs = wipe σ vs := by
        have : ∀ us : List Nat, (∀ u ∈ us, u ∈ vs) → wipe (wipe σ us) vs = wipe σ vs := by
          intro us
          induction us with
          | nil => intro _; rfl
          | cons u us ih => intro hu; show wipe ((wipe σ us).set u none) vs = _; rw [wipe_set (hu u List.mem_cons_self)]; exact ih fun q hq => hu q (List.mem_cons_of_mem _ hq)
        exact this vs fun u hu => hu
      refine ⟨hw.trans ww, τ2, G', noX, _, s2, a3, h4, fun b G4 H4 e4 a4 h5 => ?_, fun c d G5 cls dd H5 _ _ _ z => z.elim⟩
      cases b with
      | true =>
        rw [ifB_true] at h5; rw [if_pos rfl]
        refine ⟨τ2, G4, noX, _, s2.ext e4, a4, h5, fun y G5 yv H5 e5 r5 a5 h6 => ?_, fun c d G6 cls dd H6 _ _ _ z => z.elim⟩
        obtain ⟨acc, ea, hz, q⟩ := onSome_of h6
        obtain ⟨ws, ew, l⟩ := a5 _ _ (oLst_some ea)
        exact ⟨ws, ew, by rw [l.length]; exact big_lt hz, ((e2.trans e3).trans (e4.trans e5)).trans (.lst ew), _, a5.setL ew (l.snoc r5), q⟩
      | false =>
        rw [ifB_false] at h5; rw [if_neg Bool.false_ne_true]
        exact ⟨(e2.trans e3).trans e4, G4, a4, h5⟩
    cases ct with
    | one j =>
      exact go _ _ (wipe_set (hvs j List.mem_cons_self)) (sw.set r3 j) (forceS_of h3)
    | tup is =>
      cases d <;> try exact (show False from h3).elim
      obtain ⟨hl, h4⟩ := h3
      replace h4 := forceS_of h4
      obtain ⟨a, xs, rfl, sq, l⟩ := r3.tupv
      refine ⟨a, xs, rfl, sq, l.length.trans hl, gNs_ok (vs := vs) hvs (l.length.trans hl) fun σ' w' k => ?_⟩
      exact go _ _ w' (k sw l) h4
  · have e : i = I.items.length := by omega
    subst e
    rw [List.drop_length] at h2
    exact .inl ⟨hst, hQ _ _ _ _ e02 (.ref D_) a2 h2.2⟩
theorem m_comp (hc : X.calm = true) (hN : X.N.Nodup) (hi : MI X W tg iter wi) (ok : BlkOk X.N X.env.scope scope own)
    (hg : ∀ (s : Shared) (H : Hp) (C : Addr) (cl : List (Str × Addr)) (fp : List Addr), PG (X.blk s H scope (compEnvC scope cl C X.env) fp) tg (ctV X.K ct))
    (ht : ∀ (s : Shared) (H : Hp) (C : Addr) (cl : List (Str × Addr)) (fp : List Addr), MTs (X.blk s H scope (compEnvC scope cl C X.env) fp) WF ifs tt)
    (he : ∀ (s : Shared) (H : Hp) (C : Addr) (cl : List (Str × Addr)) (fp : List Addr), ME (X.blk s H scope (compEnvC scope cl C X.env) fp) WF elt te)
    (hvs : ∀ i ∈ ct.slots, i ∈ own.map (·.2) := by decide) (hs : ∀ x, foldedSetIterable iter X.env x = pure x := by intro _; rfl) : ME X W (.ListComp elt [⟨tg, iter, ifs, 0⟩] scope pos) (dComp wi ct tt te (own.map (·.2))) :=
  PE.imp (pe_lc hc hN hi ok hg ht he hs) fun _ _ _ h => lift_comp hvs h
/-- name = [..] on one line, the name a local -/
theorem ms_setComp {j : Nat} {y : Str} {py spos : Pos} (hc : X.calm = true) (hN : X.N.Nodup) (hy : X.N[j]? = some y) (hyl : X.env.scope.names.lookup y = some .local)
    (hsw : swapsWith (.ListComp elt [⟨tg, iter, ifs, 0⟩] scope pos) (some (.Name y py)) spos.line X.env = pure true) (hi : MI X W tg iter wi) (ok : BlkOk X.N X.env.scope scope own)
    (hg : ∀ (s : Shared) (H : Hp) (C : Addr) (cl : List (Str × Addr)) (fp : List Addr), PG (X.blk s H scope (compEnvC scope cl C X.env) fp) tg (ctV X.K ct))
    (ht : ∀ (s : Shared) (H : Hp) (C : Addr) (cl : List (Str × Addr)) (fp : List Addr), MTs (X.blk s H scope (compEnvC scope cl C X.env) fp) WF ifs tt)
    (he : ∀ (s : Shared) (H : Hp) (C : Addr) (cl : List (Str × Addr)) (fp : List Addr), ME (X.blk s H scope (compEnvC scope cl C X.env) fp) WF elt te)
    (hvs : ∀ i ∈ ct.slots, i ∈ own.map (·.2) := by decide) (hs : ∀ x, foldedSetIterable iter X.env x = pure x := by intro _; rfl) :
    MS X W (.Assign [.Name y py] (.ListComp elt [⟨tg, iter, ifs, 0⟩] scope pos) spos) (sAsg (dComp wi ct tt te (own.map (·.2))) (gSlot j)) :=
  PS.imp (ps_setLc hc hN hy hyl hsw hi ok hg ht he hs) fun D_ σ H ⟨τ, G, Dd, hσ, hA, h, hE⟩ => by
    have q : liftE X.K X.mg W (dComp wi ct tt te (own.map (·.2))) σ H (fun x H1 => gName j x σ H1 D_.nx) :=
      ⟨τ, G, Dd.xx, _, hσ, hA, h, fun d G1 v H1 e1 r1 a1 q1 => hE.nx _ _ _ _ e1 ((hσ.ext e1).set r1 j) a1 (forceS_of (Q := fun τ' => Dd.nx τ' G1) q1), hE.xx σ⟩
    exact lift_comp hvs q
theorem pgs_ns {x : Str} {es : List Expr} {i : Nat} {is : List Nat} (h1 : PG X e (gName i)) (h2 : PGs X es (gNs is)) (hs : (assignEach (e :: es) X.env).map (·.2) = assign e X.env :: (assignEach es X.env).map (·.2) := by rfl) : PGs X (e :: es) (gNs (i :: is)) := pgs_cons h1 h2 hs
end

/-! ### a, b = x, y with local names -/
def sPar (i j : Nat) (ta : TAD) : TSD := fun D_ τ G => ta τ G D_.xx fun vs G1 => match vs with | [v, w] => forceS ((τ.set i (some v)).set j (some w)) fun τ' => D_.nx τ' G1 | _ => False
def sPar3 (i j l : Nat) (ta : TAD) : TSD := fun D_ τ G => ta τ G D_.xx fun vs G1 => match vs with | [u, v, w] => forceS (((τ.set i (some u)).set j (some v)).set l (some w)) fun τ' => D_.nx τ' G1 | _ => False
theorem ms_par {X : Cx} {W : WX} {i j : Nat} {x y : Str} {a b : Expr} {ta : TAD} {px py pt pos : Pos} {kt k2 pt2} (hc : X.calm = true) (hN : X.N.Nodup) (hi : X.N[i]? = some x) (hj : X.N[j]? = some y) (hij : i ≠ j)
    (hx : X.env.scope.names.lookup x = some .local) (hy : X.env.scope.names.lookup y = some .local) (ha : MA X W [a, b] ta)
    (hw : swappedStores [.Tuple [.Name x px, .Name y py] kt pt] (.Tuple [a, b] k2 pt2) X.env = pure (some [x, y]))
    (hs : swapsWithSole [.Tuple [.Name x px, .Name y py] kt pt] (.Tuple [a, b] k2 pt2) pos.line X.env = pure false := by rfl) :
    MS X W (.Assign [.Tuple [.Name x px, .Name y py] kt pt] (.Tuple [a, b] k2 pt2) pos) (sPar i j ta) :=
  PS.imp (ps_par hc hN hi hj hij hx hy ha hw hs) fun D_ σ H ⟨τ, G, Dd, hσ, hA, h, hE⟩ =>
    ⟨τ, G, Dd.xx, _, hσ, hA, h, fun ds G1 vs H1 e1 r1 a1 h1 => by
      match ds, h1 with
      | [v, w], h1 =>
        obtain ⟨v', w', rfl, ra, rb⟩ := r1.two
        exact ⟨v', w', rfl, hE.nx _ _ _ _ e1 (((hσ.ext e1).set ra i).set rb j) a1 (forceS_of (Q := fun τ' => Dd.nx τ' G1) h1)⟩, hE.xx σ⟩
end L3

namespace L3
open PySem PySem.Spec PyProof.Rows L2

/-! ### enumerate over a tuple -/
theorem meets_enumerate_newT {v : Value} {o : Obj} {H : Heap → Prop} (B : Begins v o H) :
    Meets (Builtin.«enumerate.__new__» ⟨[.type "enumerate", v], []⟩) (fun _ R s => H s.heap ∧
      R (.ok (.ret (.ref (s.heap.push o).objs.size))) { s with heap := (s.heap.push o).push { cls := .type "enumerate", data := .fields #[.none, .bool false, .ref s.heap.objs.size, rawInt 0, .none, .none] } }) :=
  .of_wp fun prog w A R s h => by
    obtain ⟨hp, g, d, tk, os⟩ := s; obtain ⟨h1, h⟩ := h
    have hsub := sub_enumerate
    have q1 : ∀ {A' : Around} {E : Value → Shared → Prop} {Q : Value → Shared → Prop}, Q (.ref hp.objs.size) ⟨hp.push o, g, d, tk, os⟩ → wpAny (model prog w) A' (pyIter v) Q E ⟨hp, g, d, tk, os⟩ :=
      fun q => B.iter prog w _ _ ⟨hp, g, d, tk, os⟩ _ h1 q
    wp_walk using q1
    refine wpAny_stack_any fun st => wpAny_pure ?_
    split
    · rename_i c _ _ _ _ _
      cases (c == Value.type "enumerate")
      · wp_walk using q1
        exact ⟨_, rfl, h⟩
      · wp_walk using q1
        exact ⟨_, rfl, h⟩
    · wp_walk using q1
      exact ⟨_, rfl, h⟩
theorem call_enumerate_B {prog : Program} {w : World} {A : Around} {E : Value → Shared → Prop} {s : Shared} {v : Value} {o : Obj} {H : Heap → Prop} {Q : Value → Shared → Prop} (B : Begins v o H) (h1 : H s.heap)
    (h : ∀ h', IsEnum h' (s.heap.objs.size + 1) s.heap.objs.size 0 .none → h'.get? s.heap.objs.size = some o → h'.objs.size = s.heap.objs.size + 2 →
      (∀ b o, s.heap.get? b = some o → h'.get? b = some o) → Q (.ref (s.heap.objs.size + 1)) { s with heap := h' }) :
    wpAny (model prog w) A (call (.type "enumerate") [v]) Q E s := by
  refine callType_new F.called_enumerate (by decide) (F.typeCall_enumerate_1 _) (F.newCall_enumerate_1 _) (fun obj => F.args_object_init_2 obj _) F.entry_enumerate_new
    (meets_enumerate_newT B) ⟨h1, ?_⟩
  have hz : (s.heap.push o).objs.size = s.heap.objs.size + 1 := Heap.size_push ..
  show _ ∧ _
  rw [hz]
  have he : IsEnum ((s.heap.push o).push { cls := .type "enumerate", data := .fields #[.none, .bool false, .ref s.heap.objs.size, rawInt 0, .none, .none] }) (s.heap.objs.size + 1) s.heap.objs.size 0 .none := by
    have := Heap.get?_push_size (s.heap.push o) (o := { cls := .type "enumerate", data := .fields #[.none, .bool false, .ref s.heap.objs.size, rawInt 0, .none, .none] }) rfl
    rw [hz] at this; exact this
  refine ⟨⟨_, he, rfl⟩, h _ he (Heap.get?_push_of_some _ (Heap.get?_push_size _ B.free)) (by rw [Heap.size_push, hz]) fun b o x => Heap.get?_push_of_some _ (Heap.get?_push_of_some _ x)⟩
/-- the tuple at a, each item in a new pair -/
def IteT (K : PySem.W.Frag) (a : Addr) : It :=
  ⟨fun i H => ∃ (xs : List V) (x : V), SqT K H a xs ∧ xs[i]? = some x, fun i H v H' => ∃ T x, v = .ref T ∧ H T = none ∧ H' = upd H T (.tup [.int (i : Nat), x]) ∧ ∀ xs, SqT K H a xs → xs[i]? = some x, fun i H => ∃ xs : List V, SqT K H a xs ∧ xs.length ≤ i⟩
theorem isTup_of {h : Heap} {a : Addr} {items : Array Value} (t : IsTup h a items) : h.IsTuple a items := by
  obtain ⟨o, ho, hc, n, hd⟩ := t
  exact ⟨o, ho, hc, n, hd⟩
theorem turn_enumT {P : Program} {w : World} {K : PySem.W.Frag} {elts : List Expr} {kk : Nat} {tpos : Pos} (a e it : Addr) :
    Turn P w K (.Tuple elts kk tpos) (IteT K a) [e, it] e (fun i h => (∃ old, IsEnum h e it ((i : Nat) : Int) old) ∧ h.IsTupleIter it a i ∧ e ≠ it ∧ (∀ xs, h.IsTuple a xs → True) ∧ a ≠ it ∧ a ≠ e) where
  mem := by simp
  obj := fun i h st b hb => by
    obtain ⟨⟨old, he⟩, ⟨o, ho, hc, hd⟩, _⟩ := st
    have e' : b = e ∨ b = it := by simpa using hb
    rcases e' with z | z
    · rw [z]; exact ⟨_, he, fun v q => nomatch q⟩
    · rw [z]; exact ⟨o, ho, fun v q => by rw [hd] at q; cases q⟩
  keep := fun i h h' st k => let ⟨⟨old, he⟩, hi, hne, _, n1, n2⟩ := st; ⟨⟨old, k e (by simp) _ he⟩, hi.at fun o q => k it (by simp) o q, hne, fun _ _ => trivial, n1, n2⟩
  item := by
    intro X hP hw hK hc i pins s σ H E I hf st hg
    subst hP hw hK
    obtain ⟨⟨old, he⟩, hit, hne, _, n1, n2⟩ := st
    obtain ⟨xs, x, hq, hx⟩ := hg
    obtain ⟨its, rv, p, hz⟩ := I.tuple hq
    obtain ⟨u, hu, ru⟩ := rv.get hx
    have hel : e < s.heap.objs.size := Heap.lt_size he
    have hil : it < s.heap.objs.size := by obtain ⟨_, q, _⟩ := hit; exact Heap.lt_size q
    have hlt : i < its.toArray.size := by
      have := (List.getElem?_eq_some_iff.mp hu).1
      simpa using this
    refine wpAny_pyNext_enum_itemD (Draws.tuple (A := X.A.in1) (I.ok.hd hc) it a n1 its.toArray) he ⟨hit, isTup_of p⟩ hlt hne (by simp [hne, Ne.symm n2]) fun x' h' tk hx' ho hst' hT hsz hk => ?_
    have ex : x' = u := by
      have q : its.toArray[i]? = some x' := hx'
      have q2 : its.toArray[i]? = some u := by simpa using hu
      rw [q2] at q; cases q; rfl
    subst ex
    have hit' := hst'.1
    refine ⟨_, rfl, wpAny_letOwnedTupleGo_enum (s := { s with heap := h', toks := tk + 1 }) ho fun h'' he' sb => ?_⟩
    have hT2 : h''.get? s.heap.objs.size = some { cls := .type "tuple", data := .seq #[.int i tk, x'] } := (sb.2 _ (Nat.ne_of_gt hel)).trans hT
    have new : ObjOk X.prog X.w (upd H s.heap.objs.size (.tup [.int (i : Nat), x])) h'' s.heap.objs.size (.tup [.int (i : Nat), x]) :=
      ⟨by show 2 ≤ sizeLine; decide, [.int i tk, x'], .cons ⟨_, rfl⟩ (.cons ru .nil), ⟨_, hT2, rfl, _, rfl⟩⟩
    have I1 : Inv X pins σ (upd H s.heap.objs.size (.tup [.int (i : Nat), x])) { s with heap := h'', toks := tk + 1 } :=
      I.turnedNew (ch := [e, it]) (fun b ob hb q => (sb.2 b (fun z => hb (by simp [z]))).trans (hk b ob (fun z => hb (by simp [z])) (fun z => hb (by simp [z])) q)) hf (Nat.le_refl _) new
    refine ⟨.ref s.heap.objs.size, _, I1, rfl, ⟨_, x, rfl, I.hok.fresh (Nat.le_refl _), rfl, fun ys hy => by rw [I.tuple_inj hy hq]; exact hx⟩, ⟨⟨x', ?_⟩, hit'.at fun o q => (sb.2 it (Ne.symm hne)).trans q, hne, fun _ _ => trivial, n1, n2⟩, fun b hb => ?_⟩
    · have e1 : ((i + 1 : Nat) : Int) = (i : Int) + 1 := by omega
      rw [e1]; exact he'
    · have hb' : b < s.heap.objs.size := by
        have e' : b = e ∨ b = it := by simpa using hb
        rcases e' with z | z
        · rw [z]; exact hel
        · rw [z]; exact hil
      rw [upd_ne (Nat.ne_of_lt hb')]
      exact (hf b hb).1
  done := by
    intro X hP hw hK hc i pins s σ H E I hf st hg
    subst hP hw hK
    obtain ⟨⟨old, he⟩, hit, hne, _, n1, n2⟩ := st
    obtain ⟨xs, hq, hx⟩ := hg
    obtain ⟨its, rv, p, hz⟩ := I.tuple hq
    obtain ⟨f0, f1, f2, f3, f4, f5⟩ := hf it (by simp)
    have hl := rv.length
    by_cases hlt : i < its.toArray.size
    · simp at hlt; omega
    · by_cases heq : i = its.toArray.size
      · subst heq
        exact wpAny_pyNext_enum_endD (Draws.tuple (A := X.A.in1) (I.ok.hd hc) it a n1 its.toArray) he ⟨hit, isTup_of p⟩ fun h' eb => ⟨rfl, I.turned (t' := s.toks) (fun b o hb q => eb b o hb q) f0 f1 f3 f4 f5⟩
      · refine wpAny_pyNext_enum_endD (n := i) (fp := [it, a]) (P := fun _ _ => False) (St := fun j h => j = i ∧ h.IsTupleIter it a i ∧ h.IsTuple a its.toArray) ⟨fun j h st => let ⟨_, ⟨o, ho, _⟩, _⟩ := st; ⟨o, ho⟩, fun j h h' st hk => ⟨st.1, st.2.1.at fun o e => hk it (by simp) o e, st.2.2.at fun o e => hk a (by simp) o e⟩,
          fun j s Q E hj st hQ => absurd st.1 (by omega), fun s Q E st hE => wpAny_nextOf_tuple_end (A := X.A.in1) (I.ok.hd hc) st.2.1 st.2.2 (by simp at hlt ⊢; omega) hE⟩ he ⟨rfl, hit, isTup_of p⟩ fun h' eb => ⟨rfl, I.turned (t' := s.toks) (fun b o hb q => eb b o hb q) f0 f1 f3 f4 f5⟩
  self := fun A i s Q E st h => let ⟨⟨_, he⟩, _⟩ := st; wpAny_pyIter_enum he h
def iEnumV (K : PySem.W.Frag) (ta : TA) : TI := fun σ H R => ta σ H fun vs H1 => ∃ a xs, vs = [.ref a] ∧ SqT K H1 a xs ∧ R (IteT K a) H1
theorem pi_enumT {X : Cx} {e : Expr} {ta : TA} {p pos tpos : Pos} {elts : List Expr} {kk : Nat} (hg : Gl X "enumerate") (hm : X.mg "enumerate" = none) (ha : PA X [e] ta) (hs : starEach [e] X.env = [(false, eval e X.env)] := by rfl) :
    PI X (.Tuple elts kk tpos) (.Call (.Name "enumerate" p) [e] [] pos) (iEnumV X.K ta) := by
  refine ⟨fun pins s σ H R I h => ?_⟩
  refine Call_ (ld_blt I hg hm boot_enumerate (PyProof.Rows.callWith_type1 (thn (ha.run pos pins s σ H _ I h) fun us s1 ⟨vs, H1, I1, r1, q1⟩ => ?_) hs rfl))
  obtain ⟨a, xs, ex, hq, q⟩ := q1
  subst ex
  cases r1 with
  | cons r rr =>
    cases rr
    cases r
    obtain ⟨its, rv, p', hz⟩ := I1.tuple hq
    have hla : a < s1.heap.objs.size := p'.lt
    refine call_enumerate_B (begins_tuple a its.toArray) (isTup_of p') fun h' he hit hsz hk => wpAny_pyIter_enum he ?_
    have I2 : Inv X pins σ H1 { s1 with heap := h' } := I1.kept (t' := s1.toks) hk
    refine ⟨s1.heap.objs.size + 1, [s1.heap.objs.size + 1, s1.heap.objs.size], _, _, H1, rfl, I2, turn_enumT a (s1.heap.objs.size + 1) s1.heap.objs.size, ⟨⟨.none, he⟩, ⟨_, hit, rfl, rfl⟩, Nat.succ_ne_self _, fun _ _ => trivial, Nat.ne_of_lt hla, Nat.ne_of_lt (Nat.lt_succ_of_lt hla)⟩, fun b hb => ?_, q⟩
    have e' : b = s1.heap.objs.size + 1 ∨ b = s1.heap.objs.size := by simpa using hb
    have hle : s1.heap.objs.size ≤ b := by
      rcases e' with z | z
      · rw [z]; exact Nat.le_add_right _ _
      · rw [z]; exact Nat.le_refl _
    exact I1.fpOk hle (I1.hok.fresh hle)
def iEnumTD (te : TED) : TID := fun τ G X R => te τ G X fun x G1 => match x with | .tup xs => R ⟨enumD 0 xs, fun _ => True⟩ G1 | _ => False
section
variable {X : Cx} {W : WX} {e a b tg : Expr} {te ta tb : TED} {pos p tpos : Pos}
theorem mi_enumT {elts : List Expr} {kk : Nat} (hm : X.mg ("enumerate" : Str) = none) (ha : ME X W a ta) (hg : Gl X ("enumerate" : Str) := by rfl) (hs : starEach [a] X.env = [(false, eval a X.env)] := by rfl) : MI X W (.Tuple elts kk tpos) (.Call (.Name ("enumerate" : Str) p) [a] [] pos) (iEnumTD ta) :=
  PI.imp (pi_enumT hg hm (pa_cons ha pa_nil hs) hs) fun σ H R ⟨τ, G, Xd, Rd, hσ, hA, h, hR, hX⟩ =>
    ⟨τ, G, Xd, _, hσ, hA, h, fun x G1 v H1 e1 r1 a1 h1 => by
      cases x <;> try exact (show False from h1).elim
      rename_i xs
      obtain ⟨a, ws, rfl, sq, l⟩ := r1.tupv
      refine ⟨a, ws, rfl, sq, hR _ _ _ _ e1 a1 (fun G2 H2 e2 a2 ok => ?_) h1⟩
      have sq' := sqT_ext e2 sq
      have l' := l.ext e2
      refine ⟨fun i hi => ?_, ws, sq', by rw [l'.length, enumD_length]; exact Nat.le_refl _⟩
      have hi' : i < xs.length := by
        have z : i < (enumD 0 xs).length := hi
        rw [enumD_length] at z; exact z
      obtain ⟨d, hd⟩ := get_some hi'
      obtain ⟨w, hw, rw'⟩ := l'.get hd
      refine ⟨⟨ws, w, sq', hw⟩, fun y H' hy => ?_⟩
      obtain ⟨T, z, rfl, hT, rfl, hz⟩ := hy
      have := hz ws sq'
      rw [hw] at this
      cases this
      have hg := enumD_get 0 xs i d hd
      rw [Nat.zero_add] at hg
      exact ⟨_, hg, .new hT, .tup (.of upd_same) ((RepL.cons (.int _) (.cons rw' .nil)).ext (.new hT)), a2.keep hT⟩, hX⟩

/-! ### in -/
def flatD : D → Bool
  | .non => true | .bl _ => true | .int _ => true | .str _ => true
  | _ => false
def eqF : D → D → Bool
  | .non, .non => true
  | .bl a, .bl b => a == b
  | .bl a, .int b => (if a then 1 else 0) == b
  | .int a, .bl b => a == (if b then 1 else 0)
  | .int a, .int b => a == b
  | .str a, .str b => a == b
  | _, _ => false
theorem Rep.flat {K : PySem.W.Frag} {mg : Str → Option Value} {H : Hp} {v : V} {d : D} (r : Rep K mg H v d) (f : flatD d = true) : flatV v = true := by
  cases r <;> first | rfl | cases f
theorem Rep.eqF {K : PySem.W.Frag} {mg : Str → Option Value} {H : Hp} {v w : V} {d e : D} (r : Rep K mg H v d) (q : Rep K mg H w e) (f : flatD d = true) (g : flatD e = true) : eqV v w = L3.eqF d e := by
  cases r <;> first | cases f | skip
  all_goals (cases q <;> first | rfl | cases g)
theorem RepL.inV {K : PySem.W.Frag} {mg : Str → Option Value} {H : Hp} {v : V} {d : D} (r : Rep K mg H v d) (f : flatD d = true) : ∀ {ws : List V} {ds : List D}, RepL K mg H ws ds → ds.all flatD = true → ws.all flatV = true ∧ inV v ws = ds.any fun y => L3.eqF y d
  | _, _, .nil, _ => ⟨rfl, rfl⟩
  | _, _, .cons a b, g => by
    simp only [List.all_cons, Bool.and_eq_true] at g
    obtain ⟨h1, h2⟩ := RepL.inV r f b g.2
    refine ⟨by simp only [List.all_cons, Bool.and_eq_true]; exact ⟨a.flat g.1, h1⟩, ?_⟩
    show (eqV _ v || L2.inV v _) = (L3.eqF _ d || _)
    rw [a.eqF r g.1 f, h2]
def rInQ (neg : Bool) : DR2 := fun x y G Q => match x, y with
  | .str a, .str b => Q (.bl (if neg then !(!(Builtin.Str.occurrences b a 0 b.length 1).isEmpty) else !(Builtin.Str.occurrences b a 0 b.length 1).isEmpty)) G
  | x, y => onSome (seqOf G y) fun ds => (flatD x = true ∧ ds.all flatD = true) ∧ Q (.bl (if neg then !(ds.any fun z => eqF z x) else ds.any fun z => eqF z x)) G
theorem seq_at {K : PySem.W.Frag} {mg : Str → Option Value} {H : Hp} {G : DH} {v : V} {d : D} {ds : List D} (A : Abs K mg G H) (r : Rep K mg H v d) (h : seqOf G d = some ds) : ∃ a xs, v = .ref a ∧ (SqL K H a xs ∨ SqT K H a xs) ∧ RepL K mg H xs ds := by
  by_cases ht : ∃ ys, d = .tup ys
  · obtain ⟨ys, rfl⟩ := ht
    cases h
    obtain ⟨a, ws, rfl, t, l⟩ := r.tupv
    exact ⟨a, ws, rfl, .inr t, l⟩
  · have e' : lstOf G d = some ds := by cases d <;> first | exact h | exact absurd ⟨_, rfl⟩ ht
    obtain ⟨a, ws, rfl, sq, l⟩ := lst_at A r e'
    exact ⟨a, ws, rfl, .inl sq, l⟩
theorem mo_in_gen {op : CmpOp} {neg : Bool} (h1 : OpR X (compareOp op) (rIn X.K neg)) (h2 : OpR X (compareOp op) (fun x y H Q => ∃ i j, x = .str i ∧ y = .str j ∧ Q (.bl (if neg then !(!(Builtin.Str.occurrences j i 0 j.length 1).isEmpty) else !(Builtin.Str.occurrences j i 0 j.length 1).isEmpty)) H)) : OpR X (compareOp op) (liftR2 X.K X.mg (rInQ neg)) := by
  intro pins s σ H x y v u Q I rx ry h
  obtain ⟨d, e, G, Qd, r1, r2, A, h, hQ⟩ := h
  have gen : (onSome (seqOf G e) fun ds => (flatD d = true ∧ ds.all flatD = true) ∧ Qd (.bl (if neg then !(ds.any fun z => eqF z d) else ds.any fun z => eqF z d)) G) → wpAny (model X.prog X.w) X.A (compareOp op v u) (EP X pins σ Q) X.xe s := fun h => by
    obtain ⟨ds, e1, ⟨f1, f2⟩, q⟩ := onSome_of h
    obtain ⟨a, ws, rfl, sq, l⟩ := seq_at A r2 e1
    obtain ⟨g1, g2⟩ := l.inV r1 f1 f2
    refine h1 pins s σ H x _ v u Q I rx ry ⟨a, ws, rfl, sq, r1.flat f1, g1, ?_⟩
    rw [g2]
    exact hQ _ _ _ _ (.refl _) (.bl _) A q
  cases d <;> cases e <;> try exact gen h
  exact h2 pins s σ H x y v u Q I rx ry ⟨_, _, r1.strv, r2.strv, hQ _ _ _ _ (.refl _) (.bl _) A h⟩
def rInD2 : DR2 := rInQ false
def rNinD : DR2 := rInQ true
theorem mo_in : OpR X (compareOp .In) (liftR2 X.K X.mg rInD2) := mo_in_gen op_in_seq op_in_str
theorem mo_nin : OpR X (compareOp .NotIn) (liftR2 X.K X.mg rNinD) := mo_in_gen op_notIn_seq op_notIn_str

/-! ### dicts of the top, keyed by texts -/
/-- the module's name x holds a dict of the top, of these pairs -/
structure KD (w : World) (K : PySem.W.Frag) (mg : Str → Option Value) (x : Str) (kvs : List (Str × D)) : Prop where
  ok : ∃ a es n, mg x = some (.ref a) ∧ KDict K w a es n ∧ ∀ z, match kvs.lookup z with
    | none => PySem.W.nsIn K a z = some none
    | some d => ∃ u v, PySem.W.nsIn K a z = some (some u) ∧ RelV v u ∧ ∀ H, Rep K mg H v d
def asS (x : D) (Q : Str → Prop) : Prop := match x with | .str i => Q i | _ => False
theorem asS_of {x : D} {Q : Str → Prop} (h : asS x Q) : ∃ i, x = .str i ∧ Q i := by
  cases x <;> first | exact ⟨_, rfl, h⟩ | exact h.elim
def dKIn (neg : Bool) (kvs : List (Str × D)) (ta : TED) : TED := fun τ G X Q => ta τ G X fun x G1 => asS x fun z => Q (.bl (if neg then !(kvs.lookup z).isSome else (kvs.lookup z).isSome)) G1
def dKIx (kvs : List (Str × D)) (ta : TED) : TED := fun τ G X Q => ta τ G X fun x G1 => asS x fun z => onSome (kvs.lookup z) fun d => Q d G1
theorem m_kin {x : Str} {kvs : List (Str × D)} (T : KD X.w X.K X.mg x kvs) (ha : ME X W a ta) (hg : Gl X x := by rfl) (hdb : (x == ("__debug__" : Str)) = false := by decide) : ME X W (.Compare a [.In] [.Name x p] pos) (dKIn false kvs ta) := by
  obtain ⟨d, es, n, hm, hd, hl⟩ := T.ok
  refine PE.imp (pe_cmpR (op_in_kd hd) ha (pe_glob (v := .ref d) hg hm rfl hdb) rfl) fun σ H Q ⟨τ, G, Xd, Qd, hσ, hA, h, hQ, hX⟩ => ⟨τ, G, Xd, _, hσ, hA, h, fun x G1 v H1 e1 r1 a1 h1 => ?_, hX⟩
  obtain ⟨z, rfl, q⟩ := asS_of h1
  have hz := hl z
  have e1' := r1.strv
  subst e1'
  cases e : kvs.lookup z with
  | none =>
    rw [e] at hz q
    exact ⟨z, none, rfl, rfl, hz, hQ _ _ _ _ e1 (.bl _) a1 q⟩
  | some d' =>
    rw [e] at hz q
    obtain ⟨u, v, h1, h2, h3⟩ := hz
    exact ⟨z, some u, rfl, rfl, h1, hQ _ _ _ _ e1 (.bl _) a1 q⟩
theorem m_knin {x : Str} {kvs : List (Str × D)} (T : KD X.w X.K X.mg x kvs) (ha : ME X W a ta) (hg : Gl X x := by rfl) (hdb : (x == ("__debug__" : Str)) = false := by decide) : ME X W (.Compare a [.NotIn] [.Name x p] pos) (dKIn true kvs ta) := by
  obtain ⟨d, es, n, hm, hd, hl⟩ := T.ok
  refine PE.imp (pe_cmpR (op_notIn_kd hd) ha (pe_glob (v := .ref d) hg hm rfl hdb) rfl) fun σ H Q ⟨τ, G, Xd, Qd, hσ, hA, h, hQ, hX⟩ => ⟨τ, G, Xd, _, hσ, hA, h, fun x G1 v H1 e1 r1 a1 h1 => ?_, hX⟩
  obtain ⟨z, rfl, q⟩ := asS_of h1
  have hz := hl z
  have e1' := r1.strv
  subst e1'
  cases e : kvs.lookup z with
  | none =>
    rw [e] at hz q
    exact ⟨z, none, rfl, rfl, hz, hQ _ _ _ _ e1 (.bl _) a1 q⟩
  | some d' =>
    rw [e] at hz q
    obtain ⟨u, v, h1, h2, h3⟩ := hz
    exact ⟨z, some u, rfl, rfl, h1, hQ _ _ _ _ e1 (.bl _) a1 q⟩
theorem m_kix {x : Str} {kvs : List (Str × D)} (T : KD X.w X.K X.mg x kvs) (ha : ME X W a ta) (hs : PlainIx a := by exact fun _ _ => rfl) (hg : Gl X x := by rfl) (hdb : (x == ("__debug__" : Str)) = false := by decide) : ME X W (.Subscript (.Name x p) a pos) (dKIx kvs ta) := by
  obtain ⟨d, es, n, hm, hd, hl⟩ := T.ok
  refine PE.imp (pe_ix ix_kdict (pe_glob (v := .ref d) hg hm rfl hdb) ha hs) fun σ H Q ⟨τ, G, Xd, Qd, hσ, hA, h, hQ, hX⟩ => ⟨τ, G, Xd, _, hσ, hA, h, fun x G1 v H1 e1 r1 a1 h1 => ?_, hX⟩
  obtain ⟨z, rfl, q⟩ := asS_of h1
  obtain ⟨d', e, q⟩ := onSome_of q
  have hz := hl z
  rw [e] at hz
  obtain ⟨u, v, h1, h2, h3⟩ := hz
  exact ⟨d, z, v, rfl, r1.strv, ⟨es, n, u, hd.at_, hd.lit, h1, h2⟩, hQ _ _ _ _ e1 (h3 _) a1 q⟩

/-! ### raise X('..') -/
def sRaise (c : String) : TSD := fun D_ _ G => D_.xx c .non G
structure RsD (K : PySem.W.Frag) (mg : Str → Option Value) (c : Str) : Prop where
  ok : ∃ C, mg c = some (.ref C) ∧ PySem.W.excIn K C [.type "ValueError", .type "Exception", .type "BaseException", .type "object"] "ValueError.__new__" = true ∧ PySem.W.keepIn K (.ref C) = true ∧ PySem.W.subIn K (.ref C) (.type "BaseException") = some true ∧ PySem.W.typeIn K (.ref C) = some (.type "type")
theorem ms_raise {c : String} {m : Str} {j : Nat} {p2 p3 : Pos} (R : RsD X.K X.mg (c : Str)) (hc : X.calm = true) (tk : Takes X W) (hg : Gl X (c : Str) := by rfl) (hdb : (((c : Str)) == ("__debug__" : Str)) = false := by decide) :
    MS X W (.Raise (some (.Call (.Name (c : Str) p) [.Constant (.str m) j p2] [] pos)) none p3) (sRaise c) := by
  obtain ⟨C, hm, x1, x2, x3, x4⟩ := R.ok
  exact PS.imp (ps_raise hc tk (pmk_own PySem.F.excBase_ValueError x1 hm x2 (raises_own x3 x4) hg hdb)) fun D_ σ H ⟨τ, G, Dd, hσ, hA, h, hE⟩ =>
    hE.xx σ c .non G _ none H (.refl _) hA ⟨C, hm, rfl, .inl ⟨rfl, rfl⟩⟩ h
end

/-! ### a def -/
def startD (n : Nat) (ds : List D) : DSt := ds.map some ++ List.replicate (n - ds.length) none
/-- the ends of a body -/
def ends (Q : DQ) (X : DX) : DEnds := { nx := fun _ G => Q .non G, rt := Q, xx := X }
theorem fn_ok {P : Program} {w : World} {K : PySem.W.Frag} {mg : Str → Option Value} {base : Heap} {x qual : Str} {st : Stmt} {f : Addr} {fd : FuncData} {N ps : List Str} {k : Nat} {sp : DSp} (F : Fun K x qual st f fd) (S : FnScope N ps (defScope st)) (t : TSD)
    (len : ∀ ds G Q X, sp ds G Q X → ds.length = ps.length) (walk : ∀ ds G Q X, sp ds G Q X → t (ends Q X) (startD N.length ds) G)
    (der : ∀ (cdv : Value) (A : Around) (outer : List Env) (s : Shared) (H : Hp) (E : XK), Room k (A.deeper (envOfC qual (defScope st) s.heap.objs.size f cdv)) →
      MSs (cxOf (L2.CX P w) P w K mg base N qual (defScope st) f cdv A outer s H E) (fun cls d _ H => E cls d H) (defBody st) t) : FnOk P w K mg base (L2.CX P w) (k + 1) f fd ps (liftSp K mg sp) := by
  refine F.okX S (fun vs H Q E ⟨ds, G, Qd, Xd, r, A, h, _⟩ => r.length.trans (len _ _ _ _ h)) fun cdv A outer s H vs Q E hr h => ⟨_, der cdv A outer s H E hr, ?_⟩
  obtain ⟨ds, G, Qd, Xd, r, Ab, h, hQ, hX⟩ := h
  have hl : vs.length = ds.length := r.length
  refine ⟨startD N.length ds, G, ends Qd Xd, ?_, Ab, walk ds G Qd Xd h, ⟨fun τ' G' σ' H' e s a q => hQ _ _ _ _ e .non a q, fun d G' v H' e r a q => hQ _ _ _ _ e r a q, fun _ _ _ _ _ _ _ z => z.elim, fun _ _ _ _ _ _ _ z => z.elim, fun σ' c d G' cls dd H' e a x q => hX c d G' cls dd H' e a x q⟩⟩
  show StRep K mg H (L2.start N vs) (startD N.length ds)
  unfold L2.start startD
  rw [hl]
  exact StRep.start _ r
end L3

namespace L3
open PySem PySem.Spec PyProof.Rows L2
def dNeg (te : TED) : TED := fun τ G X Q => te τ G X fun x G1 => asI x fun i => Q (.int (-i)) G1
section
variable {X : Cx} {W : WX} {e : Expr} {te : TED} {pos : Pos}
theorem m_neg (he : ME X W e te) : ME X W (.UnaryOp .USub e pos) (dNeg te) := PE.imp (pe_un un_neg he) fun σ H Q ⟨τ, G, Xd, Qd, hσ, hA, h, hQ, hX⟩ =>
  ⟨τ, G, Xd, _, hσ, hA, h, fun x G1 v H1 e1 r1 a1 h1 => by
    obtain ⟨i, rfl, q⟩ := asI_of h1
    exact ⟨i, r1.intv, hQ _ _ _ _ e1 (.int _) a1 q⟩, hX⟩
theorem m_gl' {x : String} (hm : ∃ f, X.mg (x : Str) = some (.ref f)) (hg : Gl X (x : Str) := by rfl) (hd : (((x : Str)) == ("__debug__" : Str)) = false := by decide) : ME X W (.Name (x : Str) pos) (dC (.gl x)) :=
  let ⟨_, h⟩ := hm; m_gl h hg hd

theorem huR {k : Nat} {A : Around} (h : Room k A) : A.units + 65 < cLine := by have := h.un; omega
/-! tests by comparisons of other kinds -/
variable {a b c : Expr} {ta tb tc : TED} {p : Pos}
theorem m_tisN {j p2} (ha : ME X W a ta) : MT X W (.Compare a [.Is] [.Constant .none j p2] pos) (dT (dIsN false ta)) :=
  PT.imp (pt_cmpR op_isN ha pe_non (nomark _)) fun σ H Q ⟨τ, G, Xd, Qd, hσ, hA, h, hQ, hX⟩ =>
    ⟨τ, G, Xd, _, hσ, hA, h, fun d G1 v H1 e r A h => ⟨rfl, _, rfl, by rw [r.isN]; exact hQ _ _ _ e A h⟩, hX⟩
theorem m_tnotN {j p2} (ha : ME X W a ta) : MT X W (.Compare a [.IsNot] [.Constant .none j p2] pos) (dT (dIsN true ta)) :=
  PT.imp (pt_cmpR op_notN ha pe_non (nomark _)) fun σ H Q ⟨τ, G, Xd, Qd, hσ, hA, h, hQ, hX⟩ =>
    ⟨τ, G, Xd, _, hσ, hA, h, fun d G1 v H1 e r A h => ⟨rfl, _, rfl, by rw [r.isN]; exact hQ _ _ _ e A h⟩, hX⟩
theorem kd_fin {K : PySem.W.Frag} {w : World} {x : Str} {z : Str} {kvs : List (Str × D)} {d : Addr} (hz : match kvs.lookup z with
    | none => PySem.W.nsIn K d z = some none
    | some e => ∃ u v, PySem.W.nsIn K d z = some (some u) ∧ RelV v u ∧ ∀ H, Rep K mg H v e) : ∃ r : Option Value, PySem.W.nsIn K d z = some r ∧ r.isSome = (kvs.lookup z).isSome := by
  cases e : kvs.lookup z with
  | none => rw [e] at hz; exact ⟨none, hz, rfl⟩
  | some d' => rw [e] at hz; obtain ⟨u, v, h1, _⟩ := hz; exact ⟨some u, h1, rfl⟩
theorem m_tkin {x : Str} {kvs : List (Str × D)} (T : KD X.w X.K X.mg x kvs) (ha : ME X W a ta) (hg : Gl X x := by rfl) (hdb : (x == ("__debug__" : Str)) = false := by decide) : MT X W (.Compare a [.In] [.Name x p] pos) (dT (dKIn false kvs ta)) := by
  obtain ⟨d, es, n, hm, hd, hl⟩ := T.ok
  refine PT.imp (pt_cmpR (op_in_kd hd) ha (pe_glob (v := .ref d) hg hm rfl hdb) rfl) fun σ H Q ⟨τ, G, Xd, Qd, hσ, hA, h, hQ, hX⟩ => ⟨τ, G, Xd, _, hσ, hA, h, fun x G1 v H1 e1 r1 a1 h1 => ?_, hX⟩
  obtain ⟨z, rfl, q⟩ := asS_of h1
  obtain ⟨r, hr, hs⟩ := kd_fin (w := X.w) (x := default) (hl z)
  have e1' := r1.strv
  subst e1'
  exact ⟨z, r, rfl, rfl, hr, _, rfl, by rw [hs]; exact hQ _ _ _ e1 a1 q⟩
theorem m_tknin {x : Str} {kvs : List (Str × D)} (T : KD X.w X.K X.mg x kvs) (ha : ME X W a ta) (hg : Gl X x := by rfl) (hdb : (x == ("__debug__" : Str)) = false := by decide) : MT X W (.Compare a [.NotIn] [.Name x p] pos) (dT (dKIn true kvs ta)) := by
  obtain ⟨d, es, n, hm, hd, hl⟩ := T.ok
  refine PT.imp (pt_cmpR (op_notIn_kd hd) ha (pe_glob (v := .ref d) hg hm rfl hdb) rfl) fun σ H Q ⟨τ, G, Xd, Qd, hσ, hA, h, hQ, hX⟩ => ⟨τ, G, Xd, _, hσ, hA, h, fun x G1 v H1 e1 r1 a1 h1 => ?_, hX⟩
  obtain ⟨z, rfl, q⟩ := asS_of h1
  obtain ⟨r, hr, hs⟩ := kd_fin (w := X.w) (x := default) (hl z)
  have e1' := r1.strv
  subst e1'
  exact ⟨z, r, rfl, rfl, hr, _, rfl, by rw [hs]; exact hQ _ _ _ e1 a1 q⟩
theorem m_tchain {op op' : CmpOp} {r r' : DR2} (ho : OpR X (compareOp op) (liftR2 X.K X.mg r)) (ho' : OpR X (compareOp op') (liftR2 X.K X.mg r')) (ha : ME X W a ta) (hb : ME X W b tb) (hc : ME X W c tc)
    (hm : lastMarks [op, op'] [b, c] = false := by rfl) : MT X W (.Compare a [op, op'] [b, c] pos) (dT (dChain r r' ta tb tc)) :=
  PT.imp (pt_chain ho ho' ha hb hc hm) fun σ H Q ⟨τ, G, Xd, Qd, hσ, hA, h, hQ, hX⟩ => by
    refine ⟨τ, G, Xd, _, hσ, hA, h, fun x G1 v H1 e1 r1 a1 h1 => ?_, hX⟩
    refine ⟨τ, G1, Xd, _, hσ.ext e1, a1, h1, fun y G2 u H2 e2 r2 a2 h2 => ?_, hX.ext e1⟩
    refine ⟨x, y, G2, _, r1.ext e2, r2, a2, h2, fun z G3 w H3 e3 r3 a3 h3 => ?_⟩
    obtain ⟨k, rfl, h4⟩ := asB_of h3
    refine ⟨k, r3.blv, ?_⟩
    have e13 := (e1.trans e2).trans e3
    clear h3
    cases k with
    | true =>
      rw [ifB_true] at h4; rw [if_pos rfl]
      refine ⟨τ, G3, Xd, _, hσ.ext e13, a3, h4, fun q G5 w5 H5 e5 r5 a5 h5 => ?_, hX.ext e13⟩
      refine ⟨y, q, G5, _, (r2.ext e3).ext e5, r5, a5, h5, fun d' G' v' H' e' r' a' q' => ?_⟩
      obtain ⟨k', rfl, q2⟩ := asB_of q'
      exact ⟨k', r'.blv, hQ _ _ _ ((e13.trans e5).trans e') a' q2⟩
    | false =>
      rw [ifB_false] at h4; rw [if_neg Bool.false_ne_true]
      exact ⟨false, rfl, hQ _ _ _ e13 a3 h4⟩
end
end L3

namespace L3
open PySem PySem.Spec PyProof.Rows L2

/-- all that stood stands as it did -/
def Sub (G G' : DH) : Prop := ∀ a o, G a = some o → G' a = some o
theorem Sub.refl (G : DH) : Sub G G := fun _ _ h => h
theorem Sub.trans {G G1 G2 : DH} (h : Sub G G1) (k : Sub G1 G2) : Sub G G2 := fun a o e => k a o (h a o e)
theorem Sub.new {G : DH} {p : Addr} {o : DO} (h : G p = none) : Sub G (up G p o) := fun a u e => by rw [up_ne (D.ne_of e h)]; exact e
theorem Sub.tr {G G1 : DH} {p : Addr} {o : DO} (h : Sub G G1) (hp : G1 p = none) : Sub G (up G1 p o) := h.trans (.new hp)
theorem Sub.none {G G' : DH} {p : Addr} (h : Sub G G') (hp : G' p = Option.none) : G p = Option.none := by
  cases e : G p with
  | none => rfl
  | some o => rw [h p o e] at hp; cases hp
/-- what was new in between may be changed -/
theorem Sub.put {G G' : DH} {p : Addr} {o : DO} (h : Sub G G') (hp : G p = Option.none) : Sub G (up G' p o) := fun a u e => by rw [up_ne (D.ne_of e hp)]; exact h a u e
theorem ctD_and {ct : CT} {d : D} {τ : DSt} {A B : DSt → Prop} (a : ctD ct d τ A) (b : ctD ct d τ B) : ctD ct d τ fun τ' => A τ' ∧ B τ' := by
  cases ct with
  | one i => simp only [ctD, forceS_eq] at a b ⊢; exact ⟨a, b⟩
  | tup is => cases d <;> first | exact a.elim | (simp only [ctD, forceS_eq] at a b ⊢; exact ⟨a.1, a.2, b.2⟩)
theorem ctD_imp {ct : CT} {d : D} {τ : DSt} {A B : DSt → Prop} (a : ctD ct d τ A) (h : ∀ τ', A τ' → B τ') : ctD ct d τ B := by
  cases ct with
  | one i => simp only [ctD, forceS_eq] at a ⊢; exact h _ a
  | tup is => cases d <;> first | exact a.elim | (simp only [ctD, forceS_eq] at a ⊢; exact ⟨a.1, h _ a.2⟩)
/-- a comprehension whose tests and items leave what stood: the list of all that pass -/
theorem compRun_sub {I : DIt} {ct : CT} {tt : TTD} {te : TED} {τ : DSt} {p : Addr} {Q : DH → Prop} {G1 : DH} (hp : G1 p = none) (hok : ∀ G', Sub G1 G' → I.ok G') (f : D → Bool) (v : D → D) :
    ∀ (ds : List D) (G : DH) (acc : List D), Sub G1 G → G p = some (.lst acc) → acc.length + ds.length < 16777216 →
      (∀ d ∈ ds, ∀ G', Sub G1 G' → ctD ct d τ fun τ2 => ∀ k : Bool → DH → Prop, (∀ G2, Sub G' G2 → k (f d) G2) → tt τ2 G' noX k) →
      (∀ d ∈ ds, f d = true → ∀ G', Sub G1 G' → ctD ct d τ fun τ2 => ∀ k : D → DH → Prop, (∀ G2, Sub G' G2 → k (v d) G2) → te τ2 G' noX k) →
      (∀ G', Sub G1 G' → G' p = some (.lst (acc ++ (ds.filter f).map v)) → Q G') → compRun I ct tt te τ p Q ds G
  | [], G, acc, s, hG, _, _, _, hQ => ⟨hok G s, hQ G s (by simpa using hG)⟩
  | d :: ds, G, acc, s, hG, hl, ht, he, hQ => by
    refine ⟨hok G s, ?_⟩
    have a := ht d List.mem_cons_self G s
    cases hf : f d with
    | true =>
      have b : ∀ G', Sub G1 G' → ctD ct d τ fun τ2 => ∀ k : D → DH → Prop, (∀ G2, Sub G' G2 → k (v d) G2) → te τ2 G' noX k := he d List.mem_cons_self hf
      -- the same slots at each heap
      have b2 : ctD ct d τ fun τ2 => ∀ G', Sub G1 G' → ∀ k : D → DH → Prop, (∀ G2, Sub G' G2 → k (v d) G2) → te τ2 G' noX k := by
        cases ct with
        | one i => simp only [ctD, forceS_eq] at b ⊢; exact fun G' s' => b G' s'
        | tup is =>
          have b0 := b G s
          cases d <;> first | exact b0.elim | (simp only [ctD, forceS_eq] at b b0 ⊢; exact ⟨b0.1, fun G' s' => (b G' s').2⟩)
      refine ctD_imp (ctD_and a b2) fun τ2 ⟨a, b⟩ => a _ fun G2 s2 => ?_
      rw [hf, ifB_true]
      refine b G2 (s.trans s2) _ fun G3 s3 => ?_
      have e : G3 p = some (.lst acc) := s3 _ _ (s2 _ _ hG)
      refine onSome_i (show oLst (G3 p) = some acc by rw [e]; rfl) ⟨by simp at hl; omega, compRun_sub hp hok f v ds _ (acc ++ [v d]) (((s.trans s2).trans s3).put hp) up_same (by simp at hl ⊢; omega) (fun d' h => ht d' (List.mem_cons_of_mem _ h)) (fun d' h => he d' (List.mem_cons_of_mem _ h)) fun G' s' e' => hQ G' s' ?_⟩
      rw [e', List.filter_cons_of_pos hf]
      simp
    | false =>
      refine ctD_imp a fun τ2 a => a _ fun G2 s2 => ?_
      rw [hf, ifB_false]
      refine compRun_sub hp hok f v ds _ acc (s.trans s2) (s2 _ _ hG) (by simp at hl ⊢; omega) (fun d' h => ht d' (List.mem_cons_of_mem _ h)) (fun d' h => he d' (List.mem_cons_of_mem _ h)) fun G' s' e' => hQ G' s' ?_
      rw [e', List.filter_cons_of_neg (by rw [hf]; decide)]
theorem forRun_ind {I : DIt} {g : TGD} {tb : TSD} {D_ : DEnds} (P : List D → DSt → DH → Prop) (nil : ∀ τ G, P [] τ G → I.ok G ∧ D_.nx τ G)
    (cons : ∀ d r, (∀ τ G, P r τ G → forRun I g tb D_ r τ G) → ∀ τ G, P (d :: r) τ G → I.ok G ∧ g d τ G D_.xx fun τ' G' => tb { nx := forRun I g tb D_ r, rt := D_.rt, xx := D_.xx, bk := D_.nx, ct := forRun I g tb D_ r } τ' G') :
    ∀ ds τ G, P ds τ G → forRun I g tb D_ ds τ G
  | [], τ, G, h => nil τ G h
  | d :: r, τ, G, h => cons d r (fun τ' G' h' => forRun_ind P nil cons r τ' G' h') τ G h

theorem dComp_sub {I : DIt} {ct : CT} {tt : TTD} {te : TED} {τ0 : DSt} {Q : DH → Prop} {G : DH} {p : Addr} (hp : G p = none) (hok : ∀ G', Sub G G' → I.ok G') (f : D → Bool) (v : D → D) (hl : I.items.length < 16777216)
    (ht : ∀ d ∈ I.items, ∀ G', Sub G G' → ctD ct d τ0 fun τ2 => ∀ k : Bool → DH → Prop, (∀ G2, Sub G' G2 → k (f d) G2) → tt τ2 G' noX k)
    (he : ∀ d ∈ I.items, f d = true → ∀ G', Sub G G' → ctD ct d τ0 fun τ2 => ∀ k : D → DH → Prop, (∀ G2, Sub G' G2 → k (v d) G2) → te τ2 G' noX k)
    (hQ : ∀ G', Sub G G' → G' p = some (.lst ((I.items.filter f).map v)) → Q G') :
    compRun I ct tt te τ0 p Q I.items (up G p (.lst [])) :=
  compRun_sub hp hok f v I.items _ [] (.new hp) up_same (by simpa using hl) ht he fun G' s' e' => hQ G' s' e'
theorem allPy_some {f : D → Option PyData} : ∀ {ys : List D}, (∀ d ∈ ys, (f d).isSome = true) → ∃ ps, allPy f ys = some ps ∧ ps.length = ys.length
  | [], _ => ⟨[], rfl, rfl⟩
  | d :: ys, h => by
    obtain ⟨p, hp⟩ := Option.isSome_iff_exists.mp (h d List.mem_cons_self)
    obtain ⟨ps, h1, h2⟩ := allPy_some fun e he => h e (List.mem_cons_of_mem _ he)
    exact ⟨p :: ps, by simp [allPy, hp, h1], by simp [h2]⟩
/-- xs == [], xs != [] -/
theorem eqQ_nil {neg : Bool} {G : DH} {p q : Addr} {ys : List D} {Q : DQ} (hp : G p = some (.lst ys)) (hq : G q = some (.lst [])) (hy : ∀ d ∈ ys, (toPy G 5 d).isSome = true) (h : Q (.bl (if neg then !ys.isEmpty else ys.isEmpty)) G) : eqQ neg (.ref p) (.ref q) G Q := by
  obtain ⟨ps, h1, h2⟩ := allPy_some hy
  have e1 : toPy G 6 (.ref p) = some (.list ps) := by simp [toPy, hp, oLst, h1]
  have e2 : toPy G 6 (.ref q) = some (.list []) := by simp [toPy, hq, oLst, allPy]
  show onSome (toPy G 6 (.ref p)) fun p => onSome (toPy G 6 (.ref q)) fun q => Q (.bl (if neg then !PyData.eqv p q else PyData.eqv p q)) G
  refine onSome_i e1 (onSome_i e2 ?_)
  have e3 : PyData.eqv (.list ps) (.list []) = ys.isEmpty := by
    cases ys <;> cases ps <;> first | rfl | simp at h2
  show Q (.bl (if neg then !PyData.eqv (.list ps) (.list []) else PyData.eqv (.list ps) (.list []))) G
  rw [e3]
  exact h
theorem rEq_ii {i j : Int} {G : DH} {Q : DQ} : rEqD (.int i) (.int j) G Q = Q (.bl (decide (i = j))) G := by unfold rEqD; rfl
theorem rEq_ss {i j : Str} {G : DH} {Q : DQ} : rEqD (.str i) (.str j) G Q = Q (.bl (decide (i = j))) G := by unfold rEqD; rfl
theorem rEq_bb {i j : Bool} {G : DH} {Q : DQ} : rEqD (.bl i) (.bl j) G Q = Q (.bl (decide (i = j))) G := by unfold rEqD; rfl
theorem rNe_ii {i j : Int} {G : DH} {Q : DQ} : rNeD (.int i) (.int j) G Q = Q (.bl (!decide (i = j))) G := by unfold rNeD; rfl
theorem rNe_ss {i j : Str} {G : DH} {Q : DQ} : rNeD (.str i) (.str j) G Q = Q (.bl (!decide (i = j))) G := by unfold rNeD; rfl
theorem rNe_bb {i j : Bool} {G : DH} {Q : DQ} : rNeD (.bl i) (.bl j) G Q = Q (.bl (!decide (i = j))) G := by unfold rNeD; rfl
/-- xs != [] in the form that the walk leaves -/
theorem rNe_nil {G : DH} {p q : Addr} {ys : List D} {Q : DQ} (hp : G p = some (.lst ys)) (hq : G q = some (.lst [])) (hy : ∀ d ∈ ys, (toPy G 5 d).isSome = true) (h : Q (.bl (!ys.isEmpty)) G) : rNeD (.ref p) (.ref q) G Q := by unfold rNeD; exact eqQ_nil (neg := true) hp hq hy h
theorem rEq_nil {G : DH} {p q : Addr} {ys : List D} {Q : DQ} (hp : G p = some (.lst ys)) (hq : G q = some (.lst [])) (hy : ∀ d ∈ ys, (toPy G 5 d).isSome = true) (h : Q (.bl ys.isEmpty) G) : rEqD (.ref p) (.ref q) G Q := by unfold rEqD; exact eqQ_nil (neg := false) hp hq hy h
theorem atI0 {α : Type} {a0 : α} {xs : List α} : atI (a0 :: xs) 0 = some a0 := atI_nat (j := 0) rfl
theorem atI1 {α : Type} {a0 a1 : α} {xs : List α} : atI (a0 :: a1 :: xs) 1 = some a1 := atI_nat (j := 1) rfl
theorem atI2 {α : Type} {a0 a1 a2 : α} {xs : List α} : atI (a0 :: a1 :: a2 :: xs) 2 = some a2 := atI_nat (j := 2) rfl
theorem atI3 {α : Type} {a0 a1 a2 a3 : α} {xs : List α} : atI (a0 :: a1 :: a2 :: a3 :: xs) 3 = some a3 := atI_nat (j := 3) rfl
theorem atI4 {α : Type} {a0 a1 a2 a3 a4 : α} {xs : List α} : atI (a0 :: a1 :: a2 :: a3 :: a4 :: xs) 4 = some a4 := atI_nat (j := 4) rfl
theorem atI5 {α : Type} {a0 a1 a2 a3 a4 a5 : α} {xs : List α} : atI (a0 :: a1 :: a2 :: a3 :: a4 :: a5 :: xs) 5 = some a5 := atI_nat (j := 5) rfl
theorem atI6 {α : Type} {a0 a1 a2 a3 a4 a5 a6 : α} {xs : List α} : atI (a0 :: a1 :: a2 :: a3 :: a4 :: a5 :: a6 :: xs) 6 = some a6 := atI_nat (j := 6) rfl
theorem atI7 {α : Type} {a0 a1 a2 a3 a4 a5 a6 a7 : α} {xs : List α} : atI (a0 :: a1 :: a2 :: a3 :: a4 :: a5 :: a6 :: a7 :: xs) 7 = some a7 := atI_nat (j := 7) rfl
theorem atI8 {α : Type} {a0 a1 a2 a3 a4 a5 a6 a7 a8 : α} {xs : List α} : atI (a0 :: a1 :: a2 :: a3 :: a4 :: a5 :: a6 :: a7 :: a8 :: xs) 8 = some a8 := atI_nat (j := 8) rfl
theorem atI9 {α : Type} {a0 a1 a2 a3 a4 a5 a6 a7 a8 a9 : α} {xs : List α} : atI (a0 :: a1 :: a2 :: a3 :: a4 :: a5 :: a6 :: a7 :: a8 :: a9 :: xs) 9 = some a9 := atI_nat (j := 9) rfl
theorem atI10 {α : Type} {a0 a1 a2 a3 a4 a5 a6 a7 a8 a9 a10 : α} {xs : List α} : atI (a0 :: a1 :: a2 :: a3 :: a4 :: a5 :: a6 :: a7 :: a8 :: a9 :: a10 :: xs) 10 = some a10 := atI_nat (j := 10) rfl
theorem atI11 {α : Type} {a0 a1 a2 a3 a4 a5 a6 a7 a8 a9 a10 a11 : α} {xs : List α} : atI (a0 :: a1 :: a2 :: a3 :: a4 :: a5 :: a6 :: a7 :: a8 :: a9 :: a10 :: a11 :: xs) 11 = some a11 := atI_nat (j := 11) rfl
theorem ixN_lt {n j : Nat} (h : j < n) : ixN n (j : Int) = some j := by
  unfold ixN
  rw [if_pos (by omega), if_pos (by omega)]
  simp
theorem ixN_1_0 : ixN 1 0 = some 0 := rfl
theorem ixN_2_0 : ixN 2 0 = some 0 := rfl
theorem ixN_2_1 : ixN 2 1 = some 1 := rfl
theorem ixN_3_0 : ixN 3 0 = some 0 := rfl
theorem ixN_3_1 : ixN 3 1 = some 1 := rfl
theorem ixN_3_2 : ixN 3 2 = some 2 := rfl
theorem ixN_4_0 : ixN 4 0 = some 0 := rfl
theorem ixN_4_1 : ixN 4 1 = some 1 := rfl
theorem ixN_4_2 : ixN 4 2 = some 2 := rfl
theorem ixN_4_3 : ixN 4 3 = some 3 := rfl
theorem oLst_lst {xs : List D} : oLst (some (.lst xs)) = some xs := rfl
theorem oIns_ins {c : String} {fs : List (String × D)} : oIns (some (.ins c fs)) = some (c, fs) := rfl
theorem oDct_dct {kvs : List (Key × D)} : oDct (some (.dct kvs)) = some kvs := rfl
theorem toPy_flat {G : DH} {d : D} (h : match d with | .non => True | .bl _ => True | .int _ => True | _ => False) : (toPy G 5 d).isSome = true := by
  cases d <;> first | rfl | exact h.elim
end L3

namespace L3
open PySem PySem.Spec PyProof.Rows L2

/-! ### reading the heap -/
section
variable {G : DH} {a : Addr} {xs : List D} {c : String} {fs : List (String × D)} {kvs : List (Key × D)}
theorem hp_lst (h : G a = some (.lst xs)) : oLst (G a) = some xs := by rw [h]; rfl
theorem hp_ins (h : G a = some (.ins c fs)) : oIns (G a) = some (c, fs) := by rw [h]; rfl
theorem hp_dct (h : G a = some (.dct kvs)) : oDct (G a) = some kvs := by rw [h]; rfl
theorem hp_lstOf (h : G a = some (.lst xs)) : lstOf G (.ref a) = some xs := hp_lst h
theorem hp_mutOf (h : G a = some (.lst xs)) : mutOf G (.ref a) = some xs := hp_lst h
theorem hp_seqOf (h : G a = some (.lst xs)) : seqOf G (.ref a) = some xs := hp_lst h
theorem hp_len (h : G a = some (.lst xs)) : lenD G (.ref a) = some xs.length := by simp [lenD, oLst, h]
theorem hp_lenD (h : G a = some (.dct kvs)) : lenD G (.ref a) = some kvs.length := by simp [lenD, oLst, oDct, h]
theorem hp_tyL (h : G a = some (.lst xs)) : tyOf G (.ref a) = some "list" := by simp [tyOf, oLst, h]
theorem hp_tyD (h : G a = some (.dct kvs)) : tyOf G (.ref a) = some "dict" := by simp [tyOf, oLst, oDct, h]
theorem hp_recv (h : G a = some (.ins c fs)) : recv G (.ref a) = some c := by simp [recv, clsOf, h]
theorem hp_fld {f : String} {v : D} (h : G a = some (.ins c fs)) (hf : fs.lookup f = some v) : fldV G (.ref a) f = some v := by unfold fldV; simp only [h]; exact hf
theorem up_at {b : Addr} {o : DO} {x : Option DO} (h : b ≠ a) (e : G b = x) : up G a o b = x := (up_ne h).trans e
theorem up_none {p : Addr} {o : DO} (h : up G a o p = none) : a ≠ p ∧ G p = none := by
  by_cases e : p = a
  · subst e; rw [up_same] at h; cases h
  · rw [up_ne e] at h; exact ⟨fun q => e q.symm, h⟩
end
theorem rangeD_mem {lo : Int} {n : Nat} {d : D} (h : d ∈ rangeD lo n) : ∃ i : Nat, i < n ∧ d = .int (lo + (i : Int)) := by
  unfold rangeD at h
  obtain ⟨i, hi, e⟩ := List.mem_map.mp h
  exact ⟨i, List.mem_range.mp hi, e.symm⟩
/-! ### a promise, held shut while one walks -/
inductive Ir (sp : DSp) (ds : List D) (G : DH) (Q : DQ) (X : DX) : Prop where
  | mk (h : sp ds G Q X) : Ir sp ds G Q X
theorem Ir_i {sp : DSp} {ds : List D} {G : DH} {Q : DQ} {X : DX} (h : sp ds G Q X) : Ir sp ds G Q X := .mk h
theorem Ir_e {sp : DSp} {ds : List D} {G : DH} {Q : DQ} {X : DX} (h : Ir sp ds G Q X) : sp ds G Q X := by cases h; assumption
/-! ### equality, rule by rule -/
section
variable {G : DH} {Q : DQ}
theorem rEq_iq {i j : Int} (h : Q (.bl (decide (i = j))) G) : rEqD (.int i) (.int j) G Q := by rw [rEq_ii]; exact h
theorem rEq_sq {i j : Str} (h : Q (.bl (decide (i = j))) G) : rEqD (.str i) (.str j) G Q := by rw [rEq_ss]; exact h
theorem rEq_bq {i j : Bool} (h : Q (.bl (decide (i = j))) G) : rEqD (.bl i) (.bl j) G Q := by rw [rEq_bb]; exact h
theorem rNe_iq {i j : Int} (h : Q (.bl (!decide (i = j))) G) : rNeD (.int i) (.int j) G Q := by rw [rNe_ii]; exact h
theorem rNe_sq {i j : Str} (h : Q (.bl (!decide (i = j))) G) : rNeD (.str i) (.str j) G Q := by rw [rNe_ss]; exact h
theorem rNe_bq {i j : Bool} (h : Q (.bl (!decide (i = j))) G) : rNeD (.bl i) (.bl j) G Q := by rw [rNe_bb]; exact h
/-- by the plain data of both -/
theorem rEq_py {x y : D} {p q : PyData} (hx : toPy G 6 x = some p) (hy : toPy G 6 y = some q) (hf : (match x, y with | .int _, .int _ => false | .str _, .str _ => false | .bl _, .bl _ => false | _, _ => true) = true) (h : Q (.bl (PyData.eqv p q)) G) : rEqD x y G Q := by
  unfold rEqD
  have h' : onSome (toPy G 6 x) fun p => onSome (toPy G 6 y) fun q => Q (.bl (if false = true then !PyData.eqv p q else PyData.eqv p q)) G := onSome_i hx (onSome_i hy h)
  cases x <;> cases y <;> first | exact h' | cases hf
theorem rNe_py {x y : D} {p q : PyData} (hx : toPy G 6 x = some p) (hy : toPy G 6 y = some q) (hf : (match x, y with | .int _, .int _ => false | .str _, .str _ => false | .bl _, .bl _ => false | _, _ => true) = true) (h : Q (.bl (!PyData.eqv p q)) G) : rNeD x y G Q := by
  unfold rNeD
  have h' : onSome (toPy G 6 x) fun p => onSome (toPy G 6 y) fun q => Q (.bl (if true = true then !PyData.eqv p q else PyData.eqv p q)) G := onSome_i hx (onSome_i hy h)
  cases x <;> cases y <;> first | exact h' | cases hf
theorem toPy_tup {xs : List D} {ps : List PyData} (h : allPy (toPy G 5) xs = some ps) : toPy G 6 (.tup xs) = some (.tuple ps) := by simp only [toPy, h, Option.map_some]
theorem rEq_tt {xs ys : List D} {ps qs : List PyData} (hx : allPy (toPy G 5) xs = some ps) (hy : allPy (toPy G 5) ys = some qs) (h : Q (.bl (PyData.eqv (.tuple ps) (.tuple qs))) G) : rEqD (.tup xs) (.tup ys) G Q := rEq_py (toPy_tup hx) (toPy_tup hy) rfl h
theorem rNe_tt {xs ys : List D} {ps qs : List PyData} (hx : allPy (toPy G 5) xs = some ps) (hy : allPy (toPy G 5) ys = some qs) (h : Q (.bl (!PyData.eqv (.tuple ps) (.tuple qs))) G) : rNeD (.tup xs) (.tup ys) G Q := rNe_py (toPy_tup hx) (toPy_tup hy) rfl h
theorem rEq_ti {xs : List D} {ps : List PyData} {i : Int} (hx : allPy (toPy G 5) xs = some ps) (h : Q (.bl false) G) : rEqD (.tup xs) (.int i) G Q := rEq_py (toPy_tup hx) rfl rfl h
theorem rNe_ti {xs : List D} {ps : List PyData} {i : Int} (hx : allPy (toPy G 5) xs = some ps) (h : Q (.bl true) G) : rNeD (.tup xs) (.int i) G Q := rNe_py (toPy_tup hx) rfl rfl h
theorem eqv_bls : ∀ (a b : List Bool), PyData.eqv (.list (a.map PyData.bool)) (.list (b.map PyData.bool)) = decide (a = b) := by
  intro a
  induction a with
  | nil => intro b; cases b <;> rfl
  | cons x xs ih =>
    intro b
    cases b with
    | nil => rfl
    | cons y ys =>
      have h := ih ys
      show (PyData.eqv (.bool x) (.bool y) && PyData.eqv (.list (xs.map PyData.bool)) (.list (ys.map PyData.bool))) = _
      rw [h]
      have e : PyData.eqv (.bool x) (.bool y) = decide (x = y) := by cases x <;> cases y <;> rfl
      rw [e]
      simp
theorem allPy_bls : ∀ a : List Bool, allPy (toPy G 5) (a.map D.bl) = some (a.map PyData.bool)
  | [] => rfl
  | b :: bs => by rw [List.map_cons, allPy, allPy_bls bs]; rfl
theorem rEq_bls {p q : Addr} {a b : List Bool} (hp : G p = some (.lst (a.map D.bl))) (hq : G q = some (.lst (b.map D.bl))) (h : Q (.bl (decide (a = b))) G) : rEqD (.ref p) (.ref q) G Q := by
  have e1 : ∀ {r : Addr} {c : List Bool}, G r = some (.lst (c.map D.bl)) → toPy G 6 (.ref r) = some (.list (c.map PyData.bool)) := fun h => by
    simp only [toPy, h, oLst, Option.bind_some, allPy_bls, Option.map_some]
  refine rEq_py (e1 hp) (e1 hq) rfl ?_
  rw [eqv_bls]
  exact h
end
/-! ### how to walk -/
theorem up_none_i {G : DH} {a p : Addr} {o : DO} {P : Prop} (h : a ≠ p → G p = none → P) : up G a o p = none → P := fun e => h (up_none e).1 (up_none e).2
theorem ref_i {a : Addr} {Q : Addr → Prop} (h : Q a) : ∀ b, D.ref a = .ref b → Q b := fun _ e => by cases e; exact h
theorem Sub.at {G G' : DH} {a : Addr} {o : DO} (h : Sub G G') (e : G a = some o) : G' a = some o := h a o e
theorem ifB_not {k : Bool} {A B : Prop} (h : ifB k B A) : ifB (!k) A B := by
  cases k with
  | true => rw [ifB_true] at h; exact ifB_f rfl h
  | false => rw [ifB_false] at h; exact ifB_t rfl h
theorem ifB_if {inst : Decidable (false = true)} {k x : Bool} {A B : Prop} (h : ifB k A B) : ifB (@ite Bool (false = true) inst x k) A B := by rw [if_neg Bool.false_ne_true]; exact h
theorem ifB_if1 {inst : Decidable (true = true)} {k x : Bool} {A B : Prop} (h : ifB k A B) : ifB (@ite Bool (true = true) inst k x) A B := by rw [if_pos rfl]; exact h
end L3

namespace L3
open PySem PySem.Spec PyProof.Rows L2

/-! ### values of the top, looked at -/
/-- a written value stands for d (lists as wl) -/
def isVB (K : PySem.W.Frag) : Nat → Value → D → Bool
  | _, .none, .non => true
  | _, .bool b, .bl c => b == c
  | _, .int i _, .int j => decide (i = j)
  | _, .str x _, .str y => decide (x = y)
  | n + 1, .ref a, .tup ds => match K.lookup a with
    | some ⟨.type c, _, .seq its _, _⟩ => decide (c = "tuple") && (decide (its.size ≤ sizeLine) && (its.toList.length == ds.length && (its.toList.zip ds).all fun p => isVB K n p.1 p.2))
    | _ => false
  | n + 1, .ref a, .wl ds => match K.lookup a with
    | some ⟨.type c, none, .seq its _, sl⟩ => decide (c = "list") && (decide (sl = #[]) && (decide (its.size ≤ sizeLine) && (its.toList.length == ds.length && (its.toList.zip ds).all fun p => isVB K n p.1 p.2)))
    | _ => false
  | _, _, _ => false
theorem isVB_all {K : PySem.W.Frag} {mg : Str → Option Value} {f : Value → D → Bool} (hf : ∀ u d, f u d = true → ∃ v, RelV v u ∧ ∀ H, Rep K mg H v d) : ∀ (us : List Value) (ds : List D), us.length = ds.length → ((us.zip ds).all fun p => f p.1 p.2) = true → ∃ vs, Vals vs us ∧ ∀ H, RepL K mg H vs ds
  | [], [], _, _ => ⟨[], .nil, fun _ => .nil⟩
  | u :: us, d :: ds, hl, h => by
    simp only [List.zip_cons_cons, List.all_cons, Bool.and_eq_true] at h
    obtain ⟨v, r, p⟩ := hf u d h.1
    obtain ⟨vs, rs, ps⟩ := isVB_all hf us ds (by simpa using hl) h.2
    exact ⟨v :: vs, .cons r rs, fun H => .cons (p H) (ps H)⟩
  | [], _ :: _, hl, _ => by simp at hl
  | _ :: _, [], hl, _ => by simp at hl
theorem isVB_ok {K : PySem.W.Frag} {mg : Str → Option Value} : ∀ (n : Nat) (u : Value) (d : D), isVB K n u d = true → ∃ v, RelV v u ∧ ∀ H, Rep K mg H v d := by
  intro n
  induction n with
  | zero =>
    intro u d h
    cases u <;> cases d <;> first | (simp [isVB] at h; done) | skip
    · exact ⟨.non, rfl, fun _ => .non⟩
    · simp only [isVB, beq_iff_eq] at h; subst h; exact ⟨.bl _, rfl, fun _ => .bl _⟩
    · simp only [isVB, decide_eq_true_eq] at h; subst h; exact ⟨.int _, ⟨_, rfl⟩, fun _ => .int _⟩
    · simp only [isVB, decide_eq_true_eq] at h; subst h; exact ⟨.str _, ⟨_, rfl⟩, fun _ => .str _⟩
  | succ n ih =>
    intro u d h
    cases u <;> cases d <;> first | (simp [isVB] at h; done) | skip
    · exact ⟨.non, rfl, fun _ => .non⟩
    · simp only [isVB, beq_iff_eq] at h; subst h; exact ⟨.bl _, rfl, fun _ => .bl _⟩
    · simp only [isVB, decide_eq_true_eq] at h; subst h; exact ⟨.int _, ⟨_, rfl⟩, fun _ => .int _⟩
    · simp only [isVB, decide_eq_true_eq] at h; subst h; exact ⟨.str _, ⟨_, rfl⟩, fun _ => .str _⟩
    · rename_i a ds
      simp only [isVB] at h
      split at h
      · rename_i c od its m sl e
        simp only [Bool.and_eq_true, decide_eq_true_eq, beq_iff_eq] at h
        obtain ⟨h1, h2, h3, h4⟩ := h
        obtain ⟨vs, r, p⟩ := isVB_all (mg := mg) ih its.toList ds h3 h4
        subst h1
        exact ⟨.ref a, rfl, fun H => .tup (.inr ⟨_, its, m, e, rfl, rfl, h2, r⟩) (p H)⟩
      · cases h
    · rename_i a ds
      simp only [isVB] at h
      split at h
      · rename_i c its m sl e
        simp only [Bool.and_eq_true, decide_eq_true_eq, beq_iff_eq] at h
        obtain ⟨h1, h0, h2, h3, h4⟩ := h
        obtain ⟨vs, r, p⟩ := isVB_all (mg := mg) ih its.toList ds h3 h4
        subst h1 h0
        exact ⟨.ref a, rfl, fun H => .wl ⟨its, m, e, h2, r⟩ (p H)⟩
      · cases h
/-- the module's name x stands for d -/
def konB (K : PySem.W.Frag) (x : Str) (d : D) : Bool := match PySem.W.nsIn K mainGlobals x with
  | some (some u) => isVB K 6 u d
  | _ => false
theorem konB_ok {K : PySem.W.Frag} {h : Heap} {mg : Str → Option Value} (X : K.In h) (G : h.Ns mainGlobals mg) {x : Str} {d : D} (c : konB K x d = true) : Kon K mg x d := by
  unfold konB at c
  split at c
  · rename_i u e
    obtain ⟨v, r, p⟩ := isVB_ok (mg := mg) 6 u d c
    exact ⟨v, u, PySem.W.mg_of X G e, r, p⟩
  · cases c
/-! ### dicts of the top keyed by texts -/
def kvB (K : PySem.W.Frag) : List DictEntry → List (Str × D) → Bool
  | [], [] => true
  | e :: es, p :: r => (match e.key with | .str y _ => decide (y = p.1) | _ => false) && (isVB K 6 e.val p.2 && kvB K es r)
  | _, _ => false
theorem kvB_find {K : PySem.W.Frag} (z : Str) : ∀ (es : List DictEntry) (kvs : List (Str × D)), kvB K es kvs = true → es.any (·.refKey) = false ∧ match kvs.lookup z with
    | none => es.find? (·.key.isStr z) = none
    | some d => ∃ e, es.find? (·.key.isStr z) = some e ∧ isVB K 6 e.val d = true
  | [], [], _ => ⟨rfl, rfl⟩
  | [], _ :: _, h => by cases h
  | _ :: _, [], h => by cases h
  | e :: es, p :: r, h => by
    obtain ⟨k1, d1⟩ := p
    simp only [kvB, Bool.and_eq_true] at h
    obtain ⟨h1, h2, h3⟩ := h
    obtain ⟨i1, i2⟩ := kvB_find z es r h3
    cases ek : e.key with
    | str y t =>
      rw [ek] at h1
      have hy : y = k1 := of_decide_eq_true h1
      subst hy
      have hs : e.key.isStr z = (z == y) := by
        rw [ek, PySem.W.isStr_of]
        show (y == z) = (z == y)
        rw [Bool.eq_iff_iff, beq_iff_eq, beq_iff_eq]
        exact eq_comm
      have hk : e.refKey = false := by simp [DictEntry.refKey, ek]
      refine ⟨by rw [List.any_cons, hk, i1]; rfl, ?_⟩
      simp only [List.lookup, List.find?_cons, hs]
      cases q : z == y with
      | true => exact ⟨e, rfl, h2⟩
      | false => exact i2
    | _ => rw [ek] at h1; cases h1
def kdB (K : PySem.W.Frag) (x : Str) (kvs : List (Str × D)) : Bool := He.eqO (PySem.W.nsIn K mainGlobals x) (some (some (.ref (He.ga K x)))) && match K.lookup (He.ga K x) with
  | some ⟨_, _, .dict es _, _⟩ => kvB K es.toList kvs
  | _ => false
theorem kdB_ok {w : World} {K : PySem.W.Frag} {h : Heap} {mg : Str → Option Value} (X : K.In h) (G : h.Ns mainGlobals mg) {x : Str} {kvs : List (Str × D)} {es : Array DictEntry} {n : Nat} (c : kdB K x kvs = true) (T : KDict K w (He.ga K x) es n) : KD w K mg x kvs := by
  unfold kdB at c
  obtain ⟨c1, c2⟩ := He.ba c
  rw [T.at_] at c2
  refine ⟨He.ga K x, es, n, PySem.W.mg_of X G (He.eqO_ok c1), T, fun z => ?_⟩
  obtain ⟨h1, h2⟩ := kvB_find z es.toList kvs c2
  have hn : PySem.W.nsIn K (He.ga K x) z = match es.toList.find? (·.key.isStr z) with
      | some e => some (some e.val)
      | none => if es.toList.any (·.refKey) then none else some none := by
    simp only [PySem.W.nsIn, T.at_]
    cases List.find? (fun x => x.key.isStr z) es.toList <;> rfl
  cases q : kvs.lookup z with
  | none =>
    rw [q] at h2
    have h2' : es.toList.find? (·.key.isStr z) = none := h2
    show PySem.W.nsIn K (He.ga K x) z = some none
    rw [hn, h2', h1]
    rfl
  | some d =>
    rw [q] at h2
    obtain ⟨e, h3, h4⟩ := h2
    obtain ⟨v, r, p⟩ := isVB_ok (mg := mg) 6 e.val d h4
    refine ⟨e.val, v, ?_, r, p⟩
    rw [hn, h3]
/-! ### the end of a law -/
theorem FnD.mono {P : Program} {w : World} {K : PySem.W.Frag} {mg : Str → Option Value} {base : Heap} {j k : Nat} {x : Str} {sp : DSp} (F : FnD P w K mg base j x sp) (h : j ≤ k) : FnD P w K mg base k x sp := by
  obtain ⟨f, fd, ps, a, b, c, d⟩ := F.ok
  exact ⟨f, fd, ps, a, b, c, d.mono h⟩
theorem repL_ints {K : PySem.W.Frag} {mg : Str → Option Value} {H : Hp} : ∀ ns : List Int, RepL K mg H (ns.map V.int) (ns.map D.int)
  | [] => .nil
  | n :: ns => .cons (.int n) (repL_ints ns)
theorem sp_end {K : PySem.W.Frag} {mg : Str → Option Value} {H : Hp} {a : Addr} {ns : List Int} {sp : DSp} (hO : Only H) (hS : SqL K H a (ns.map V.int)) (h : sp [.rl (ns.map D.int)] (fun _ => none) (fun d _ => d = .bl true) (fun _ _ _ => False)) :
    liftSp K mg sp [.ref a] H (fun v _ => v = .bl true) fun _ _ _ => False := by
  have r : RdL K H a (ns.map V.int) := by
    rcases hS with hR | hR
    · rcases hR with e | e
      · rcases hO a with z | ⟨o, xs, z⟩
        · rw [z] at e; cases e
        · rw [z] at e; cases e
      · exact .inl e
    · exact .inr hR
  have A : Abs K mg (fun _ => none) H := by
    intro p o z
    cases z
  refine ⟨[.rl (ns.map D.int)], fun _ => none, (fun d _ => d = .bl true), (fun _ _ _ => False), .cons (.rl r (repL_ints ns)) .nil, A, h, ?_, ?_⟩
  · intro d G' v H' _ rr _ q
    have q' : d = .bl true := q
    subst q'
    exact rr.blv
  · intro c d G' cls dd H' _ _ _ z
    exact z.elim
theorem rsd_of {K : PySem.W.Frag} {h : Heap} {mg : Str → Option Value} (X : K.In h) (G : h.Ns mainGlobals mg) {x : Str} (g : (He.Fa.glo x).ok K = true) (c : (He.Fa.exc x).ok K = true) : RsD K mg x := by
  obtain ⟨h1, h2, h3, h4⟩ := He.exc_ok c
  exact ⟨_, He.glo_ok X G g, h1, h2, h3, h4⟩
/-- walk_ofE where what a call may let out hangs on the world -/
theorem walk_ofW {l : PySem.W.OpenLaw} {n k : Nat} {q : Program} {loose : List Str} {XP : (Str → Option Value) → Heap → Prop} {YP : World → Heap → Prop} {d : DefRec} {x : Str}
    (hn : l.most = some n) (hn2 : n ≤ sizeLine) (hdf : d.params.defaults = []) (hr : Room k callerA)
    (F : ∀ (w : World) (mg : Str → Option Value) (fa : Addr) (h : Heap), YP w h → h.Ns mainGlobals mg → mg d.name = some (.ref fa) →
      ∃ (K : PySem.W.Frag) (fd : FuncData) (sp : Sp), K.In h ∧ (∀ (s : Shared) (u : Value), BindsTo s fd ⟨[u], []⟩ [(x, u)]) ∧
        (∀ (H : Hp) (a : Addr) (ns : List Int), ns.length ≤ n → Only H → SqL K H a (ns.map V.int) → sp [.ref a] H (fun v _ => v = .bl true) fun _ _ _ => False) ∧
        ∀ base : Heap, K.In base → base.Ns mainGlobals mg → FnOk l.prog w K mg base (L2.CX l.prog w) k fa fd [x] sp) :
    PySem.W.WalkO q loose XP YP l.row.toRowW d [] (fun f vs => PySem.call f vs) := by
  refine Att.attach_call hn hdf fun w s₀ s₁ mg mb fa o pm cd doc a vs ns G Y ho hd hcd hmg hobj hints hlen hg => ?_
  obtain ⟨K, fd, sp, KX, hb, hsp, hF⟩ := F w mg fa _ Y G.T.g hmg
  refine law_call KX G.T.g G.T.b G.T.builtins G.T.nolimit hg hobj hints (Nat.le_trans hlen hn2) hr hF hb (fun H hO hS => hsp H a ns hlen hO hS) fun H e s' => ?_
  rintro ⟨a, B, H', cls, d, _, _, _, _, _, _, _, z⟩
  exact z
theorem nofn {P : Program} {w : World} {K : PySem.W.Frag} {mg : Str → Option Value} {base : Heap} {k : Nat} {f : Addr} {fd : FuncData} {ps : List Str} {sp : DSp} (hz : ∀ ds G Q X, ¬ sp ds G Q X) : FnOk P w K mg base (L2.CX P w) k f fd ps (liftSp K mg sp) :=
  ⟨fun vs H Q E ⟨ds, G, Qd, Xd, _, _, h, _⟩ => (hz _ _ _ _ h).elim, fun A outer s H args us vs Q E _ _ _ _ ⟨ds, G, Qd, Xd, _, _, h, _⟩ => (hz _ _ _ _ h).elim⟩
end L3

namespace L3
open PySem PySem.Spec PyProof.Rows L2
local macro_rules | `(tactic| walk_at "at") => `(tactic| ((repeat (first | with_reducible exact up_same | (with_reducible apply up_at; focus (first | with_reducible assumption | (with_reducible refine Ne.symm ?_; with_reducible assumption) | (with_reducible refine D.ne_of (by (repeat (first | with_reducible assumption | (with_reducible refine Sub.at (by with_reducible assumption) ?_)))) (by with_reducible assumption)) | (with_reducible refine Ne.symm (D.ne_of (by (repeat (first | with_reducible assumption | (with_reducible refine Sub.at (by with_reducible assumption) ?_)))) (by with_reducible assumption))))) | with_reducible assumption | (with_reducible apply Sub.at; focus with_reducible assumption))); done))
local macro_rules | `(tactic| walk_at "hp") => `(tactic| ((with_reducible first | apply hp_seqOf | apply hp_lst | apply hp_ins | apply hp_dct | apply hp_lstOf | apply hp_mutOf | apply hp_len | apply hp_recv | apply hp_lenD | apply hp_tyL | apply hp_tyD); ((repeat (first | with_reducible exact up_same | (with_reducible apply up_at; focus (first | with_reducible assumption | (with_reducible refine Ne.symm ?_; with_reducible assumption) | (with_reducible refine D.ne_of (by (repeat (first | with_reducible assumption | (with_reducible refine Sub.at (by with_reducible assumption) ?_)))) (by with_reducible assumption)) | (with_reducible refine Ne.symm (D.ne_of (by (repeat (first | with_reducible assumption | (with_reducible refine Sub.at (by with_reducible assumption) ?_)))) (by with_reducible assumption))))) | with_reducible assumption | (with_reducible apply Sub.at; focus with_reducible assumption))); done)))
local macro_rules | `(tactic| walk_at "ne") => `(tactic| (first | with_reducible assumption | (with_reducible refine Ne.symm ?_; with_reducible assumption) | (with_reducible refine D.ne_of (by (repeat (first | with_reducible assumption | (with_reducible refine Sub.at (by with_reducible assumption) ?_)))) (by with_reducible assumption)) | (with_reducible refine Ne.symm (D.ne_of (by (repeat (first | with_reducible assumption | (with_reducible refine Sub.at (by with_reducible assumption) ?_)))) (by with_reducible assumption)))))
local macro_rules | `(tactic| walk_at "sd") => `(tactic| (first | exact True.intro | exact rfl | decide | omega | with_reducible assumption | (simp only [CDivD, small64, inR, List.length_cons, List.length_nil, List.length_append, List.length_map, List.length_replicate]; first | done | omega | decide) | ((with_reducible first | apply hp_seqOf | apply hp_lst | apply hp_ins | apply hp_dct | apply hp_lstOf | apply hp_mutOf | apply hp_len | apply hp_recv | apply hp_lenD | apply hp_tyL | apply hp_tyD); ((repeat (first | with_reducible exact up_same | (with_reducible apply up_at; focus (first | with_reducible assumption | (with_reducible refine Ne.symm ?_; with_reducible assumption) | (with_reducible refine D.ne_of (by (repeat (first | with_reducible assumption | (with_reducible refine Sub.at (by with_reducible assumption) ?_)))) (by with_reducible assumption)) | (with_reducible refine Ne.symm (D.ne_of (by (repeat (first | with_reducible assumption | (with_reducible refine Sub.at (by with_reducible assumption) ?_)))) (by with_reducible assumption))))) | with_reducible assumption | (with_reducible apply Sub.at; focus with_reducible assumption))); done))))
local macro_rules | `(tactic| walk_at "go1") => `(tactic| (first | refine onSome_i rfl ?_ | ((with_reducible apply onSome_i); focus ((with_reducible first | apply hp_seqOf | apply hp_lst | apply hp_ins | apply hp_dct | apply hp_lstOf | apply hp_mutOf | apply hp_len | apply hp_recv | apply hp_lenD | apply hp_tyL | apply hp_tyD); ((repeat (first | with_reducible exact up_same | (with_reducible apply up_at; focus (first | with_reducible assumption | (with_reducible refine Ne.symm ?_; with_reducible assumption) | (with_reducible refine D.ne_of (by (repeat (first | with_reducible assumption | (with_reducible refine Sub.at (by with_reducible assumption) ?_)))) (by with_reducible assumption)) | (with_reducible refine Ne.symm (D.ne_of (by (repeat (first | with_reducible assumption | (with_reducible refine Sub.at (by with_reducible assumption) ?_)))) (by with_reducible assumption))))) | with_reducible assumption | (with_reducible apply Sub.at; focus with_reducible assumption))); done))) | ((with_reducible apply onSome_i); focus ((with_reducible apply hp_fld); (focus ((repeat (first | with_reducible exact up_same | (with_reducible apply up_at; focus (first | with_reducible assumption | (with_reducible refine Ne.symm ?_; with_reducible assumption) | (with_reducible refine D.ne_of (by (repeat (first | with_reducible assumption | (with_reducible refine Sub.at (by with_reducible assumption) ?_)))) (by with_reducible assumption)) | (with_reducible refine Ne.symm (D.ne_of (by (repeat (first | with_reducible assumption | (with_reducible refine Sub.at (by with_reducible assumption) ?_)))) (by with_reducible assumption))))) | with_reducible assumption | (with_reducible apply Sub.at; focus with_reducible assumption))); done)); (first | rfl | with_reducible assumption))) | refine ifB_t rfl ?_ | refine ifB_f rfl ?_ | refine ifB_not ?_ | refine ifB_if ?_ | refine ifB_if1 ?_ | refine rEq_iq ?_ | refine rEq_sq ?_ | refine rEq_bq ?_ | refine rNe_iq ?_ | refine rNe_sq ?_ | refine rNe_bq ?_ | (apply rEq_tt; focus exact rfl; focus exact rfl) | (apply rNe_tt; focus exact rfl; focus exact rfl) | (apply rEq_ti; focus exact rfl) | (apply rNe_ti; focus exact rfl) | ((with_reducible apply And.intro); focus (first | exact True.intro | exact rfl | decide | omega | with_reducible assumption | (simp only [CDivD, small64, inR, List.length_cons, List.length_nil, List.length_append, List.length_map, List.length_replicate]; first | done | omega | decide) | ((with_reducible first | apply hp_seqOf | apply hp_lst | apply hp_ins | apply hp_dct | apply hp_lstOf | apply hp_mutOf | apply hp_len | apply hp_recv | apply hp_lenD | apply hp_tyL | apply hp_tyD); ((repeat (first | with_reducible exact up_same | (with_reducible apply up_at; focus (first | with_reducible assumption | (with_reducible refine Ne.symm ?_; with_reducible assumption) | (with_reducible refine D.ne_of (by (repeat (first | with_reducible assumption | (with_reducible refine Sub.at (by with_reducible assumption) ?_)))) (by with_reducible assumption)) | (with_reducible refine Ne.symm (D.ne_of (by (repeat (first | with_reducible assumption | (with_reducible refine Sub.at (by with_reducible assumption) ?_)))) (by with_reducible assumption))))) | with_reducible assumption | (with_reducible apply Sub.at; focus with_reducible assumption))); done))))))
local macro_rules | `(tactic| walk_at "sub") => `(tactic| (repeat (first | with_reducible assumption | with_reducible exact Sub.refl _ | (with_reducible refine Sub.put ?_ (by first | with_reducible assumption | (with_reducible refine Sub.none (by with_reducible assumption) (by with_reducible assumption)))))))
local macro_rules | `(tactic| walk_at "atd") => `(tactic| ((repeat (first | (with_reducible apply up_at; focus (first | with_reducible assumption | (with_reducible refine Ne.symm ?_; with_reducible assumption) | (with_reducible refine D.ne_of (by (repeat (first | with_reducible assumption | (with_reducible refine Sub.at (by with_reducible assumption) ?_)))) (by with_reducible assumption)) | (with_reducible refine Ne.symm (D.ne_of (by (repeat (first | with_reducible assumption | (with_reducible refine Sub.at (by with_reducible assumption) ?_)))) (by with_reducible assumption))))) | (with_reducible apply Sub.at; focus with_reducible assumption))); first | exact up_same | assumption))
local macro_rules | `(tactic| walk_at "new") => `(tactic| ((refine (fun (pX : Addr) => ?_)); (repeat ((with_reducible refine up_none_i ?_); intro _)); (refine (fun (hX : _ = none) => ?_))))
local macro_rules | `(tactic| walk_at "go") => `(tactic| ((try (conv => whnf)); repeat ((first | refine onSome_i rfl ?_ | ((with_reducible apply onSome_i); focus ((with_reducible first | apply hp_seqOf | apply hp_lst | apply hp_ins | apply hp_dct | apply hp_lstOf | apply hp_mutOf | apply hp_len | apply hp_recv | apply hp_lenD | apply hp_tyL | apply hp_tyD); ((repeat (first | with_reducible exact up_same | (with_reducible apply up_at; focus (first | with_reducible assumption | (with_reducible refine Ne.symm ?_; with_reducible assumption) | (with_reducible refine D.ne_of (by (repeat (first | with_reducible assumption | (with_reducible refine Sub.at (by with_reducible assumption) ?_)))) (by with_reducible assumption)) | (with_reducible refine Ne.symm (D.ne_of (by (repeat (first | with_reducible assumption | (with_reducible refine Sub.at (by with_reducible assumption) ?_)))) (by with_reducible assumption))))) | with_reducible assumption | (with_reducible apply Sub.at; focus with_reducible assumption))); done))) | ((with_reducible apply onSome_i); focus ((with_reducible apply hp_fld); (focus ((repeat (first | with_reducible exact up_same | (with_reducible apply up_at; focus (first | with_reducible assumption | (with_reducible refine Ne.symm ?_; with_reducible assumption) | (with_reducible refine D.ne_of (by (repeat (first | with_reducible assumption | (with_reducible refine Sub.at (by with_reducible assumption) ?_)))) (by with_reducible assumption)) | (with_reducible refine Ne.symm (D.ne_of (by (repeat (first | with_reducible assumption | (with_reducible refine Sub.at (by with_reducible assumption) ?_)))) (by with_reducible assumption))))) | with_reducible assumption | (with_reducible apply Sub.at; focus with_reducible assumption))); done)); (first | rfl | with_reducible assumption))) | refine ifB_t rfl ?_ | refine ifB_f rfl ?_ | refine ifB_not ?_ | refine ifB_if ?_ | refine ifB_if1 ?_ | refine rEq_iq ?_ | refine rEq_sq ?_ | refine rEq_bq ?_ | refine rNe_iq ?_ | refine rNe_sq ?_ | refine rNe_bq ?_ | (apply rEq_tt; focus exact rfl; focus exact rfl) | (apply rNe_tt; focus exact rfl; focus exact rfl) | (apply rEq_ti; focus exact rfl) | (apply rNe_ti; focus exact rfl) | ((with_reducible apply And.intro); focus (first | exact True.intro | exact rfl | decide | omega | with_reducible assumption | (simp only [CDivD, small64, inR, List.length_cons, List.length_nil, List.length_append, List.length_map, List.length_replicate]; first | done | omega | decide) | ((with_reducible first | apply hp_seqOf | apply hp_lst | apply hp_ins | apply hp_dct | apply hp_lstOf | apply hp_mutOf | apply hp_len | apply hp_recv | apply hp_lenD | apply hp_tyL | apply hp_tyD); ((repeat (first | with_reducible exact up_same | (with_reducible apply up_at; focus (first | with_reducible assumption | (with_reducible refine Ne.symm ?_; with_reducible assumption) | (with_reducible refine D.ne_of (by (repeat (first | with_reducible assumption | (with_reducible refine Sub.at (by with_reducible assumption) ?_)))) (by with_reducible assumption)) | (with_reducible refine Ne.symm (D.ne_of (by (repeat (first | with_reducible assumption | (with_reducible refine Sub.at (by with_reducible assumption) ?_)))) (by with_reducible assumption))))) | with_reducible assumption | (with_reducible apply Sub.at; focus with_reducible assumption))); done))))); (try (conv => whnf)))))
local macro_rules | `(tactic| walk_at "run") => `(tactic| ((try (conv => whnf)); repeat ((first | refine onSome_i rfl ?_ | ((with_reducible apply onSome_i); focus ((with_reducible first | apply hp_seqOf | apply hp_lst | apply hp_ins | apply hp_dct | apply hp_lstOf | apply hp_mutOf | apply hp_len | apply hp_recv | apply hp_lenD | apply hp_tyL | apply hp_tyD); ((repeat (first | with_reducible exact up_same | (with_reducible apply up_at; focus (first | with_reducible assumption | (with_reducible refine Ne.symm ?_; with_reducible assumption) | (with_reducible refine D.ne_of (by (repeat (first | with_reducible assumption | (with_reducible refine Sub.at (by with_reducible assumption) ?_)))) (by with_reducible assumption)) | (with_reducible refine Ne.symm (D.ne_of (by (repeat (first | with_reducible assumption | (with_reducible refine Sub.at (by with_reducible assumption) ?_)))) (by with_reducible assumption))))) | with_reducible assumption | (with_reducible apply Sub.at; focus with_reducible assumption))); done))) | ((with_reducible apply onSome_i); focus ((with_reducible apply hp_fld); (focus ((repeat (first | with_reducible exact up_same | (with_reducible apply up_at; focus (first | with_reducible assumption | (with_reducible refine Ne.symm ?_; with_reducible assumption) | (with_reducible refine D.ne_of (by (repeat (first | with_reducible assumption | (with_reducible refine Sub.at (by with_reducible assumption) ?_)))) (by with_reducible assumption)) | (with_reducible refine Ne.symm (D.ne_of (by (repeat (first | with_reducible assumption | (with_reducible refine Sub.at (by with_reducible assumption) ?_)))) (by with_reducible assumption))))) | with_reducible assumption | (with_reducible apply Sub.at; focus with_reducible assumption))); done)); (first | rfl | with_reducible assumption))) | refine ifB_t rfl ?_ | refine ifB_f rfl ?_ | refine ifB_not ?_ | refine ifB_if ?_ | refine ifB_if1 ?_ | refine rEq_iq ?_ | refine rEq_sq ?_ | refine rEq_bq ?_ | refine rNe_iq ?_ | refine rNe_sq ?_ | refine rNe_bq ?_ | (apply rEq_tt; focus exact rfl; focus exact rfl) | (apply rNe_tt; focus exact rfl; focus exact rfl) | (apply rEq_ti; focus exact rfl) | (apply rNe_ti; focus exact rfl) | ((with_reducible apply And.intro); focus (first | exact True.intro | exact rfl | decide | omega | with_reducible assumption | (simp only [CDivD, small64, inR, List.length_cons, List.length_nil, List.length_append, List.length_map, List.length_replicate]; first | done | omega | decide) | ((with_reducible first | apply hp_seqOf | apply hp_lst | apply hp_ins | apply hp_dct | apply hp_lstOf | apply hp_mutOf | apply hp_len | apply hp_recv | apply hp_lenD | apply hp_tyL | apply hp_tyD); ((repeat (first | with_reducible exact up_same | (with_reducible apply up_at; focus (first | with_reducible assumption | (with_reducible refine Ne.symm ?_; with_reducible assumption) | (with_reducible refine D.ne_of (by (repeat (first | with_reducible assumption | (with_reducible refine Sub.at (by with_reducible assumption) ?_)))) (by with_reducible assumption)) | (with_reducible refine Ne.symm (D.ne_of (by (repeat (first | with_reducible assumption | (with_reducible refine Sub.at (by with_reducible assumption) ?_)))) (by with_reducible assumption))))) | with_reducible assumption | (with_reducible apply Sub.at; focus with_reducible assumption))); done)))) | refine ref_i ?_ | ((refine (fun (pX : Addr) => ?_)); (repeat ((with_reducible refine up_none_i ?_); intro _)); (refine (fun (hX : _ = none) => ?_)))); (try (conv => whnf)))))
def c_OWN_ORDER : D := .tup [.str ("say" : Str), .str ("hear" : Str), .str ("which" : Str), .str ("room" : Str), .str ("enter" : Str), .str ("alarm" : Str), .str ("stop" : Str)]
def isBl : D → Bool
  | .bl _ => true
  | _ => false
def goodK (xs : List D) : Bool := xs.length == 7 && xs.all isBl
def biD : D → Bool
  | .bl _ => true
  | .int _ => true
  | _ => false
def sp_need_kind : DSp := Ir fun ds G Q X => ∃ xs, ds = [.tup xs] ∧ xs.all biD = true ∧ xs.length ≤ 100 ∧ (goodK xs = true → ∀ G', Sub G G' → Q .non G') ∧ (goodK xs = false → ∀ G', Sub G G' → X "BadKind" .non G')
def t_need_kind : TSD := (sSeq (sAsg (dAndV (dIsi ["tuple"] (dVar 0)) (dBin rEqD (dB rLen (dCons (dVar 0) dNil)) (dB rLen (dCons (dC c_OWN_ORDER) dNil)))) (gSlot 1)) (sIf (dOrT (dNotT (dT (dVar 1))) (dT (dBin rNeD (dComp (iTupD (dVar 0)) (.one 2) (dNotT (dT (dIsi ["bool"] (dVar 2)))) (dVar 2) [2]) (dLst dNil)))) (sRaise "BadKind") sNx))
theorem walk_need_kind : ∀ ds G Q X, sp_need_kind ds G Q X → t_need_kind (ends Q X) (startD 3 ds) G := by
  intro ds G Q X hsp
  obtain ⟨xs, rfl, hf, hl, hg, hb⟩ := Ir_e hsp
  walk_at "go"
  refine ifB_d (fun h7 => ?_) fun h7 => ?_
  · have h7' : xs.length = 7 := by simp only [List.length_cons, List.length_nil] at h7; omega
    walk_at "go"
    intro p hp
    walk_at "go"
    refine dComp_sub (I := ⟨xs, fun _ => True⟩) hp (fun _ _ => trivial) (fun d => !isBl d) id (by show xs.length < _; omega) (fun d hd G' s' => ?_) (fun d hd _ G' s' => ?_) (fun G' s' e' => ?_)
    · intro k hk
      have hd' := List.all_eq_true.mp hf d hd
      cases d <;> first | (exact absurd hd' Bool.false_ne_true) | (walk_at "go"; exact hk _ (.refl _))
    · intro k hk
      exact hk _ (.refl _)
    · walk_at "go"
      intro q hq
      refine rNe_nil (ys := (xs.filter fun d => !isBl d).map id) (by rw [up_ne (D.ne_of e' hq)]; exact e') up_same (fun d hd => ?_) ?_
      · simp at hd
        have hd' := List.all_eq_true.mp hf d hd.1
        cases d <;> simp [biD] at hd' <;> rfl
      · have e : ((xs.filter fun d => !isBl d).map id).isEmpty = xs.all isBl := by
          rw [Bool.eq_iff_iff]
          simp
        rw [e]
        by_cases hg' : xs.all isBl = true
        · rw [hg']
          walk_at "go"
          exact hg (by unfold goodK; rw [h7', hg']; rfl) _ (s'.tr hq)
        · rw [Bool.eq_false_iff.mpr hg']
          walk_at "go"
          exact hb (by unfold goodK; rw [Bool.eq_false_iff.mpr hg']; simp) _ (s'.tr hq)
  · walk_at "go"
    refine hb ?_ G (.refl _)
    unfold goodK
    have : (xs.length == 7) = false := by simp only [List.length_cons, List.length_nil] at h7; simp; omega
    rw [this]; rfl

/-! ### drawing -/
def IsSt (o : DO) : Prop := ∃ (ns : List Int) (i m c : Int), ns.length ≤ 63 ∧ 0 ≤ i ∧ 0 ≤ m ∧ m < 2147483647 ∧ 0 ≤ c ∧ o = .lst [.rl (ns.map D.int), .int i, .int m, .int c]
def sp_l_start : DSp := Ir fun ds G Q _ => ∃ ns : List Int, ds = [.rl (ns.map D.int)] ∧ ns.length ≤ 63 ∧ ∀ s o, G s = none → IsSt o → Q (.ref s) (up G s o)
def sp_l_drawn : DSp := Ir fun ds G Q _ => ∃ (s : Addr) (o : DO) (many : Int), ds = [.ref s, .int many] ∧ 0 < many ∧ many < 2 ^ 63 ∧ G s = some o ∧ IsSt o ∧ ∀ r o', 0 ≤ r → r < many → IsSt o' → Q (.int r) (up G s o')
def t_l_start : TSD := (sSeq (sAsg (dC (.int 1)) (gSlot 1)) (sSeq (sFor (iLstD (dVar 0)) (gSlot 2) (sAsg (dBin rModD (dBin rAddD (dBin rAddD (dBin rMulD (dVar 1) (dC (.int 48271))) (dVar 2)) (dC (.int 7))) (dC (.int 2147483647))) (gSlot 1))) (sRet (dLst (dCons (dVar 0) (dCons (dC (.int 0)) (dCons (dVar 1) (dCons (dC (.int 0)) dNil))))))))
def t_l_drawn : TSD := (sSeq (sIf (dT (dBin rGtD (dBin rIxD (dVar 0) (dC (.int 3))) (dC (.int 0)))) (sSeq (sAsg (dBin rModD (dBin rIxD (dVar 0) (dC (.int 3))) (dVar 1)) (gSlot 2)) (sSeq (sAsg (dBin rFdivD (dBin rIxD (dVar 0) (dC (.int 3))) (dVar 1)) (gSubL (dVar 0) (dC (.int 3)))) (sRet (dVar 2)))) sNx) (sSeq (sAsg (dBin rAddD (dBin rIxD (dVar 0) (dC (.int 1))) (dC (.int 1))) (gSubL (dVar 0) (dC (.int 1)))) (sSeq (sIf (dT (dBin rLeD (dBin rIxD (dVar 0) (dC (.int 1))) (dB rLen (dCons (dBin rIxD (dVar 0) (dC (.int 0))) dNil)))) (sSeq (sAsg (dBin rIxD (dBin rIxD (dVar 0) (dC (.int 0))) (dBin rSubD (dBin rIxD (dVar 0) (dC (.int 1))) (dC (.int 1)))) (gSlot 3)) (sSeq (sAsg (dIfE (dT (dBin rGeD (dVar 3) (dBin rPowD (dC (.int 10)) (dC (.int 18))))) (dBin rFdivD (dVar 3) (dVar 1)) (dC (.int 0))) (gSubL (dVar 0) (dC (.int 3)))) (sRet (dBin rModD (dVar 3) (dVar 1))))) sNx) (sSeq (sAsg (dBin rModD (dBin rAddD (dBin rMulD (dBin rIxD (dVar 0) (dC (.int 2))) (dC (.int 48271))) (dC (.int 11))) (dC (.int 2147483647))) (gSubL (dVar 0) (dC (.int 2)))) (sRet (dBin rModD (dBin rFdivD (dBin rIxD (dVar 0) (dC (.int 2))) (dC (.int 7))) (dVar 1)))))))

theorem isSt_set {ns : List Int} {i m c : Int} (h1 : ns.length ≤ 63) (h2 : 0 ≤ i) (h3 : 0 ≤ m) (h4 : m < 2147483647) (h5 : 0 ≤ c) : IsSt (.lst [.rl (ns.map D.int), .int i, .int m, .int c]) := ⟨ns, i, m, c, h1, h2, h3, h4, h5, rfl⟩
theorem walk_l_start : ∀ ds G Q X, sp_l_start ds G Q X → t_l_start (ends Q X) (startD 3 ds) G := by
  intro ds G Q X hsp
  obtain ⟨ns, rfl, hl, hQ⟩ := Ir_e hsp
  walk_at "go"
  refine forRun_ind (fun r τ G' => G' = G ∧ (∀ d ∈ r, ∃ i, d = .int i) ∧ ∃ (m : Int) (z : Option D), (0 ≤ m ∧ m < 2147483647) ∧ τ = [some (.rl (ns.map D.int)), some (.int m), z]) ?_ ?_ _ _ _ ⟨rfl, fun d hd => ?_, 1, none, by decide, rfl⟩
  · rintro τ G' ⟨rfl, -, m, z, hm, rfl⟩
    refine ⟨rfl, ?_⟩
    walk_at "go"
    intro p hp
    exact hQ p _ hp (isSt_set hl (by decide) hm.1 hm.2 (by decide))
  · rintro d r ih τ G' ⟨rfl, hd, m, z, hm, rfl⟩
    obtain ⟨i, rfl⟩ := hd d List.mem_cons_self
    refine ⟨rfl, ?_⟩
    walk_at "go"
    refine ih _ _ ⟨rfl, fun d h => hd d (List.mem_cons_of_mem _ h), (m * 48271 + i + 7) % 2147483647, some (.int i), ⟨Int.emod_nonneg _ (by decide), Int.emod_lt_of_pos _ (by decide)⟩, rfl⟩
  · obtain ⟨i, _, rfl⟩ := List.mem_map.mp hd
    exact ⟨i, rfl⟩
theorem walk_l_drawn : ∀ ds G Q X, sp_l_drawn ds G Q X → t_l_drawn (ends Q X) (startD 4 ds) G := by
  intro ds G Q X hsp
  obtain ⟨s, o, many, rfl, h0, h63, hs, ⟨ns, i, m, c, hn, hi, hm0, hm1, hc, rfl⟩, hQ⟩ := Ir_e hsp
  have hr : ∀ x : Int, 0 ≤ x % many ∧ x % many < many := fun x => ⟨Int.emod_nonneg _ (by omega), Int.emod_lt_of_pos _ h0⟩
  walk_at "go"
  refine ifB_d (fun h => ?_) fun h => ?_
  · walk_at "go"
    exact hQ _ _ (hr c).1 (hr c).2 (isSt_set hn hi hm0 hm1 (Int.ediv_nonneg hc (by omega)))
  · walk_at "go"
    refine ifB_d (fun h2 => ?_) fun h2 => ?_
    · have hj : ∃ j : Nat, i = (j : Int) := ⟨i.toNat, by omega⟩
      obtain ⟨j, rfl⟩ := hj
      have hj2 : j < ns.length := by rw [List.length_map] at h2; omega
      have hat : atI (ns.map D.int) ((j : Int) + 1 - 1) = some (.int ns[j]) := by
        rw [show (j : Int) + 1 - 1 = (j : Int) by omega]
        exact atI_nat (by simp [hj2])
      walk_at "go"
      refine onSome_i hat ?_
      walk_at "go"
      refine ifB_d (fun h3 => ?_) fun h3 => ?_
      · walk_at "go"
        rw [up_up]
        refine hQ _ _ (hr _).1 (hr _).2 (isSt_set hn (by omega) hm0 hm1 (Int.ediv_nonneg ?_ (by omega)))
        exact Int.le_trans (by decide) h3
      · walk_at "go"
        rw [up_up]
        exact hQ _ _ (hr _).1 (hr _).2 (isSt_set hn (by omega) hm0 hm1 (by omega))
    · walk_at "go"
      rw [up_up]
      exact hQ _ _ (hr _).1 (hr _).2 (isSt_set hn (by omega) (Int.emod_nonneg _ (by decide)) (Int.emod_lt_of_pos _ (by decide)) hc)
/-! ### kinds -/
def kv_NEEDED : List (Str × D) := [("plain", .tup [.str ("say" : Str), .str ("hear" : Str), .str ("which" : Str), .str ("enter" : Str), .str ("alarm" : Str), .str ("stop" : Str)]), ("through", .tup [.str ("say" : Str), .str ("hear" : Str)])]
def lackP (a b c e f g : Bool) : D := if !a then .str ("say" : Str) else if !b then .str ("hear" : Str) else if !c then .str ("which" : Str) else if !e then .str ("enter" : Str) else if !f then .str ("alarm" : Str) else if !g then .str ("stop" : Str) else .non
def lackT (a b : Bool) : D := if !a then .str ("say" : Str) else if !b then .str ("hear" : Str) else .non
def sp_lacking : DSp := Ir fun ds G Q X => ∃ a b c d e f g way r, ds = [.tup [.bl a, .bl b, .bl c, .bl d, .bl e, .bl f, .bl g], .str way] ∧ ((way = ("plain" : Str) ∧ r = lackP a b c e f g) ∨ (way = ("through" : Str) ∧ r = lackT a b)) ∧ ∀ G', Sub G G' → Q r G'
def sp_holds : DSp := Ir fun ds G Q X => ∃ a b c d e f g way r, ds = [.tup [.bl a, .bl b, .bl c, .bl d, .bl e, .bl f, .bl g], .str way] ∧ ((way = ("plain" : Str) ∧ r = (a && b && c && e && f && g)) ∨ (way = ("through" : Str) ∧ r = (a && b))) ∧ ∀ G', Sub G G' → Q (.bl r) G'
def sp_unlike : DSp := Ir fun ds G Q X => ∃ a b c d e f g way r, ds = [.tup [.bl a, .bl b, .bl c, .bl d, .bl e, .bl f, .bl g], .str way] ∧ ((way = ("plain" : Str) ∧ r = (a && b && c && e && f && g)) ∨ (way = ("through" : Str) ∧ r = (a && b))) ∧ ∀ v G', Sub G G' → isN v = r → Q v G'
def t_lacking  : TSD := (sSeq (sDo (dCall sp_need_kind (dCons (dVar 0) dNil))) (sSeq (sIf (dT (dKIn true kv_NEEDED (dVar 1))) (sRaise "BadWay") sNx) (sSeq (sFor (iEnumTD (dC c_OWN_ORDER)) (gTupD 2 (gsCons (gSlot 2) (gsCons (gSlot 3) gsNil))) (sIf (dAndT (dT (dBin rInD2 (dVar 3) (dKIx kv_NEEDED (dVar 1)))) (dNotT (dT (dBin rIxD (dVar 0) (dVar 2))))) (sRet (dVar 3)) sNx)) (sRet (dC .non)))))
def t_holds  : TSD := (sRet (dIsN false (dCall sp_lacking (dCons (dVar 0) (dCons (dVar 1) dNil)))))
theorem walk_lacking : ∀ ds G Q X, sp_lacking ds G Q X → t_lacking (ends Q X) (startD 4 ds) G := by
  intro ds G Q X hsp
  obtain ⟨a, b, c, d, e, f, g, way, r, rfl, h, hQ⟩ := Ir_e hsp
  conv => whnf
  refine Ir_i ⟨_, rfl, rfl, by simp, fun _ G' s' => ?_, fun h => by simp [goodK, isBl] at h⟩
  rcases h with ⟨rfl, rfl⟩ | ⟨rfl, rfl⟩
  · walk_at "go"
    cases a <;> walk_at "go"
    · exact hQ _ s'
    cases b <;> walk_at "go"
    · exact hQ _ s'
    cases c <;> walk_at "go"
    · exact hQ _ s'
    cases e <;> walk_at "go"
    · exact hQ _ s'
    cases f <;> walk_at "go"
    · exact hQ _ s'
    cases g <;> walk_at "go"
    · exact hQ _ s'
    · exact hQ _ s'
  · walk_at "go"
    cases a <;> walk_at "go"
    · exact hQ _ s'
    cases b <;> walk_at "go"
    · exact hQ _ s'
    · exact hQ _ s'
theorem walk_holds : ∀ ds G Q X, sp_holds ds G Q X → t_holds (ends Q X) (startD 2 ds) G := by
  intro ds G Q X hsp
  obtain ⟨a, b, c, d, e, f, g, way, r, rfl, h, hQ⟩ := Ir_e hsp
  conv => whnf
  rcases h with ⟨rfl, rfl⟩ | ⟨rfl, rfl⟩
  · refine Ir_i ⟨a, b, c, d, e, f, g, _, _, rfl, .inl ⟨rfl, rfl⟩, fun G' s' => ?_⟩
    have := hQ G' s'
    revert this
    cases a <;> cases b <;> cases c <;> cases e <;> cases f <;> cases g <;> exact id
  · refine Ir_i ⟨a, b, c, d, e, f, g, _, _, rfl, .inr ⟨rfl, rfl⟩, fun G' s' => ?_⟩
    have := hQ G' s'
    revert this
    cases a <;> cases b <;> exact id
end L3

namespace L3
open PySem PySem.Spec PyProof.Rows L2
local macro_rules | `(tactic| walk_at "at") => `(tactic| ((repeat (first | with_reducible exact up_same | (with_reducible apply up_at; focus (first | with_reducible assumption | (with_reducible refine Ne.symm ?_; with_reducible assumption) | (with_reducible refine D.ne_of (by (repeat (first | with_reducible assumption | (with_reducible refine Sub.at (by with_reducible assumption) ?_)))) (by with_reducible assumption)) | (with_reducible refine Ne.symm (D.ne_of (by (repeat (first | with_reducible assumption | (with_reducible refine Sub.at (by with_reducible assumption) ?_)))) (by with_reducible assumption))))) | with_reducible assumption | (with_reducible apply Sub.at; focus with_reducible assumption))); done))
local macro_rules | `(tactic| walk_at "hp") => `(tactic| ((with_reducible first | apply hp_seqOf | apply hp_lst | apply hp_ins | apply hp_dct | apply hp_lstOf | apply hp_mutOf | apply hp_len | apply hp_recv | apply hp_lenD | apply hp_tyL | apply hp_tyD); ((repeat (first | with_reducible exact up_same | (with_reducible apply up_at; focus (first | with_reducible assumption | (with_reducible refine Ne.symm ?_; with_reducible assumption) | (with_reducible refine D.ne_of (by (repeat (first | with_reducible assumption | (with_reducible refine Sub.at (by with_reducible assumption) ?_)))) (by with_reducible assumption)) | (with_reducible refine Ne.symm (D.ne_of (by (repeat (first | with_reducible assumption | (with_reducible refine Sub.at (by with_reducible assumption) ?_)))) (by with_reducible assumption))))) | with_reducible assumption | (with_reducible apply Sub.at; focus with_reducible assumption))); done)))
local macro_rules | `(tactic| walk_at "ne") => `(tactic| (first | with_reducible assumption | (with_reducible refine Ne.symm ?_; with_reducible assumption) | (with_reducible refine D.ne_of (by (repeat (first | with_reducible assumption | (with_reducible refine Sub.at (by with_reducible assumption) ?_)))) (by with_reducible assumption)) | (with_reducible refine Ne.symm (D.ne_of (by (repeat (first | with_reducible assumption | (with_reducible refine Sub.at (by with_reducible assumption) ?_)))) (by with_reducible assumption)))))
local macro_rules | `(tactic| walk_at "sd") => `(tactic| (first | exact True.intro | exact rfl | decide | omega | with_reducible assumption | (simp only [CDivD, small64, inR, List.length_cons, List.length_nil, List.length_append, List.length_map, List.length_replicate]; first | done | omega | decide) | ((with_reducible first | apply hp_seqOf | apply hp_lst | apply hp_ins | apply hp_dct | apply hp_lstOf | apply hp_mutOf | apply hp_len | apply hp_recv | apply hp_lenD | apply hp_tyL | apply hp_tyD); ((repeat (first | with_reducible exact up_same | (with_reducible apply up_at; focus (first | with_reducible assumption | (with_reducible refine Ne.symm ?_; with_reducible assumption) | (with_reducible refine D.ne_of (by (repeat (first | with_reducible assumption | (with_reducible refine Sub.at (by with_reducible assumption) ?_)))) (by with_reducible assumption)) | (with_reducible refine Ne.symm (D.ne_of (by (repeat (first | with_reducible assumption | (with_reducible refine Sub.at (by with_reducible assumption) ?_)))) (by with_reducible assumption))))) | with_reducible assumption | (with_reducible apply Sub.at; focus with_reducible assumption))); done))))
local macro_rules | `(tactic| walk_at "go1") => `(tactic| (first | refine onSome_i rfl ?_ | ((with_reducible apply onSome_i); focus ((with_reducible first | apply hp_seqOf | apply hp_lst | apply hp_ins | apply hp_dct | apply hp_lstOf | apply hp_mutOf | apply hp_len | apply hp_recv | apply hp_lenD | apply hp_tyL | apply hp_tyD); ((repeat (first | with_reducible exact up_same | (with_reducible apply up_at; focus (first | with_reducible assumption | (with_reducible refine Ne.symm ?_; with_reducible assumption) | (with_reducible refine D.ne_of (by (repeat (first | with_reducible assumption | (with_reducible refine Sub.at (by with_reducible assumption) ?_)))) (by with_reducible assumption)) | (with_reducible refine Ne.symm (D.ne_of (by (repeat (first | with_reducible assumption | (with_reducible refine Sub.at (by with_reducible assumption) ?_)))) (by with_reducible assumption))))) | with_reducible assumption | (with_reducible apply Sub.at; focus with_reducible assumption))); done))) | ((with_reducible apply onSome_i); focus ((with_reducible apply hp_fld); (focus ((repeat (first | with_reducible exact up_same | (with_reducible apply up_at; focus (first | with_reducible assumption | (with_reducible refine Ne.symm ?_; with_reducible assumption) | (with_reducible refine D.ne_of (by (repeat (first | with_reducible assumption | (with_reducible refine Sub.at (by with_reducible assumption) ?_)))) (by with_reducible assumption)) | (with_reducible refine Ne.symm (D.ne_of (by (repeat (first | with_reducible assumption | (with_reducible refine Sub.at (by with_reducible assumption) ?_)))) (by with_reducible assumption))))) | with_reducible assumption | (with_reducible apply Sub.at; focus with_reducible assumption))); done)); (first | rfl | with_reducible assumption))) | refine ifB_t rfl ?_ | refine ifB_f rfl ?_ | refine ifB_not ?_ | refine ifB_if ?_ | refine ifB_if1 ?_ | refine rEq_iq ?_ | refine rEq_sq ?_ | refine rEq_bq ?_ | refine rNe_iq ?_ | refine rNe_sq ?_ | refine rNe_bq ?_ | (apply rEq_tt; focus exact rfl; focus exact rfl) | (apply rNe_tt; focus exact rfl; focus exact rfl) | (apply rEq_ti; focus exact rfl) | (apply rNe_ti; focus exact rfl) | ((with_reducible apply And.intro); focus (first | exact True.intro | exact rfl | decide | omega | with_reducible assumption | (simp only [CDivD, small64, inR, List.length_cons, List.length_nil, List.length_append, List.length_map, List.length_replicate]; first | done | omega | decide) | ((with_reducible first | apply hp_seqOf | apply hp_lst | apply hp_ins | apply hp_dct | apply hp_lstOf | apply hp_mutOf | apply hp_len | apply hp_recv | apply hp_lenD | apply hp_tyL | apply hp_tyD); ((repeat (first | with_reducible exact up_same | (with_reducible apply up_at; focus (first | with_reducible assumption | (with_reducible refine Ne.symm ?_; with_reducible assumption) | (with_reducible refine D.ne_of (by (repeat (first | with_reducible assumption | (with_reducible refine Sub.at (by with_reducible assumption) ?_)))) (by with_reducible assumption)) | (with_reducible refine Ne.symm (D.ne_of (by (repeat (first | with_reducible assumption | (with_reducible refine Sub.at (by with_reducible assumption) ?_)))) (by with_reducible assumption))))) | with_reducible assumption | (with_reducible apply Sub.at; focus with_reducible assumption))); done))))))
local macro_rules | `(tactic| walk_at "sub") => `(tactic| (repeat (first | with_reducible assumption | with_reducible exact Sub.refl _ | (with_reducible refine Sub.put ?_ (by first | with_reducible assumption | (with_reducible refine Sub.none (by with_reducible assumption) (by with_reducible assumption)))))))
local macro_rules | `(tactic| walk_at "atd") => `(tactic| ((repeat (first | (with_reducible apply up_at; focus (first | with_reducible assumption | (with_reducible refine Ne.symm ?_; with_reducible assumption) | (with_reducible refine D.ne_of (by (repeat (first | with_reducible assumption | (with_reducible refine Sub.at (by with_reducible assumption) ?_)))) (by with_reducible assumption)) | (with_reducible refine Ne.symm (D.ne_of (by (repeat (first | with_reducible assumption | (with_reducible refine Sub.at (by with_reducible assumption) ?_)))) (by with_reducible assumption))))) | (with_reducible apply Sub.at; focus with_reducible assumption))); first | exact up_same | assumption))
local macro_rules | `(tactic| walk_at "new") => `(tactic| ((refine (fun (pX : Addr) => ?_)); (repeat ((with_reducible refine up_none_i ?_); intro _)); (refine (fun (hX : _ = none) => ?_))))
local macro_rules | `(tactic| walk_at "go") => `(tactic| ((try (conv => whnf)); repeat ((first | refine onSome_i rfl ?_ | ((with_reducible apply onSome_i); focus ((with_reducible first | apply hp_seqOf | apply hp_lst | apply hp_ins | apply hp_dct | apply hp_lstOf | apply hp_mutOf | apply hp_len | apply hp_recv | apply hp_lenD | apply hp_tyL | apply hp_tyD); ((repeat (first | with_reducible exact up_same | (with_reducible apply up_at; focus (first | with_reducible assumption | (with_reducible refine Ne.symm ?_; with_reducible assumption) | (with_reducible refine D.ne_of (by (repeat (first | with_reducible assumption | (with_reducible refine Sub.at (by with_reducible assumption) ?_)))) (by with_reducible assumption)) | (with_reducible refine Ne.symm (D.ne_of (by (repeat (first | with_reducible assumption | (with_reducible refine Sub.at (by with_reducible assumption) ?_)))) (by with_reducible assumption))))) | with_reducible assumption | (with_reducible apply Sub.at; focus with_reducible assumption))); done))) | ((with_reducible apply onSome_i); focus ((with_reducible apply hp_fld); (focus ((repeat (first | with_reducible exact up_same | (with_reducible apply up_at; focus (first | with_reducible assumption | (with_reducible refine Ne.symm ?_; with_reducible assumption) | (with_reducible refine D.ne_of (by (repeat (first | with_reducible assumption | (with_reducible refine Sub.at (by with_reducible assumption) ?_)))) (by with_reducible assumption)) | (with_reducible refine Ne.symm (D.ne_of (by (repeat (first | with_reducible assumption | (with_reducible refine Sub.at (by with_reducible assumption) ?_)))) (by with_reducible assumption))))) | with_reducible assumption | (with_reducible apply Sub.at; focus with_reducible assumption))); done)); (first | rfl | with_reducible assumption))) | refine ifB_t rfl ?_ | refine ifB_f rfl ?_ | refine ifB_not ?_ | refine ifB_if ?_ | refine ifB_if1 ?_ | refine rEq_iq ?_ | refine rEq_sq ?_ | refine rEq_bq ?_ | refine rNe_iq ?_ | refine rNe_sq ?_ | refine rNe_bq ?_ | (apply rEq_tt; focus exact rfl; focus exact rfl) | (apply rNe_tt; focus exact rfl; focus exact rfl) | (apply rEq_ti; focus exact rfl) | (apply rNe_ti; focus exact rfl) | ((with_reducible apply And.intro); focus (first | exact True.intro | exact rfl | decide | omega | with_reducible assumption | (simp only [CDivD, small64, inR, List.length_cons, List.length_nil, List.length_append, List.length_map, List.length_replicate]; first | done | omega | decide) | ((with_reducible first | apply hp_seqOf | apply hp_lst | apply hp_ins | apply hp_dct | apply hp_lstOf | apply hp_mutOf | apply hp_len | apply hp_recv | apply hp_lenD | apply hp_tyL | apply hp_tyD); ((repeat (first | with_reducible exact up_same | (with_reducible apply up_at; focus (first | with_reducible assumption | (with_reducible refine Ne.symm ?_; with_reducible assumption) | (with_reducible refine D.ne_of (by (repeat (first | with_reducible assumption | (with_reducible refine Sub.at (by with_reducible assumption) ?_)))) (by with_reducible assumption)) | (with_reducible refine Ne.symm (D.ne_of (by (repeat (first | with_reducible assumption | (with_reducible refine Sub.at (by with_reducible assumption) ?_)))) (by with_reducible assumption))))) | with_reducible assumption | (with_reducible apply Sub.at; focus with_reducible assumption))); done))))); (try (conv => whnf)))))
local macro_rules | `(tactic| walk_at "run") => `(tactic| ((try (conv => whnf)); repeat ((first | refine onSome_i rfl ?_ | ((with_reducible apply onSome_i); focus ((with_reducible first | apply hp_seqOf | apply hp_lst | apply hp_ins | apply hp_dct | apply hp_lstOf | apply hp_mutOf | apply hp_len | apply hp_recv | apply hp_lenD | apply hp_tyL | apply hp_tyD); ((repeat (first | with_reducible exact up_same | (with_reducible apply up_at; focus (first | with_reducible assumption | (with_reducible refine Ne.symm ?_; with_reducible assumption) | (with_reducible refine D.ne_of (by (repeat (first | with_reducible assumption | (with_reducible refine Sub.at (by with_reducible assumption) ?_)))) (by with_reducible assumption)) | (with_reducible refine Ne.symm (D.ne_of (by (repeat (first | with_reducible assumption | (with_reducible refine Sub.at (by with_reducible assumption) ?_)))) (by with_reducible assumption))))) | with_reducible assumption | (with_reducible apply Sub.at; focus with_reducible assumption))); done))) | ((with_reducible apply onSome_i); focus ((with_reducible apply hp_fld); (focus ((repeat (first | with_reducible exact up_same | (with_reducible apply up_at; focus (first | with_reducible assumption | (with_reducible refine Ne.symm ?_; with_reducible assumption) | (with_reducible refine D.ne_of (by (repeat (first | with_reducible assumption | (with_reducible refine Sub.at (by with_reducible assumption) ?_)))) (by with_reducible assumption)) | (with_reducible refine Ne.symm (D.ne_of (by (repeat (first | with_reducible assumption | (with_reducible refine Sub.at (by with_reducible assumption) ?_)))) (by with_reducible assumption))))) | with_reducible assumption | (with_reducible apply Sub.at; focus with_reducible assumption))); done)); (first | rfl | with_reducible assumption))) | refine ifB_t rfl ?_ | refine ifB_f rfl ?_ | refine ifB_not ?_ | refine ifB_if ?_ | refine ifB_if1 ?_ | refine rEq_iq ?_ | refine rEq_sq ?_ | refine rEq_bq ?_ | refine rNe_iq ?_ | refine rNe_sq ?_ | refine rNe_bq ?_ | (apply rEq_tt; focus exact rfl; focus exact rfl) | (apply rNe_tt; focus exact rfl; focus exact rfl) | (apply rEq_ti; focus exact rfl) | (apply rNe_ti; focus exact rfl) | ((with_reducible apply And.intro); focus (first | exact True.intro | exact rfl | decide | omega | with_reducible assumption | (simp only [CDivD, small64, inR, List.length_cons, List.length_nil, List.length_append, List.length_map, List.length_replicate]; first | done | omega | decide) | ((with_reducible first | apply hp_seqOf | apply hp_lst | apply hp_ins | apply hp_dct | apply hp_lstOf | apply hp_mutOf | apply hp_len | apply hp_recv | apply hp_lenD | apply hp_tyL | apply hp_tyD); ((repeat (first | with_reducible exact up_same | (with_reducible apply up_at; focus (first | with_reducible assumption | (with_reducible refine Ne.symm ?_; with_reducible assumption) | (with_reducible refine D.ne_of (by (repeat (first | with_reducible assumption | (with_reducible refine Sub.at (by with_reducible assumption) ?_)))) (by with_reducible assumption)) | (with_reducible refine Ne.symm (D.ne_of (by (repeat (first | with_reducible assumption | (with_reducible refine Sub.at (by with_reducible assumption) ?_)))) (by with_reducible assumption))))) | with_reducible assumption | (with_reducible apply Sub.at; focus with_reducible assumption))); done)))) | refine ref_i ?_ | ((refine (fun (pX : Addr) => ?_)); (repeat ((with_reducible refine up_none_i ?_); intro _)); (refine (fun (hX : _ = none) => ?_)))); (try (conv => whnf)))))
def c_ENTERS : D := .wl [.tup [.str ("put" : Str), .int 1, .int 16], .tup [.str ("put" : Str), .int 2, .int 4], .tup [.str ("enter" : Str), .int 0], .int 0]
def c_LEAST_CELLS : D := .int 16
def t_unlike  : TSD := (sSeq (sAsg (dCall sp_lacking (dCons (dVar 0) (dCons (dVar 1) dNil))) (gSlot 2)) (sSeq (sIf (dT (dIsN false (dVar 2))) (sRet (dC .non)) sNx) (sSeq (sIf (dT (dBin rEqD (dVar 1) (dC (.str ("through" : Str))))) (sAsg (dBin rAddD (dC c_ENTERS) (dLst (dCons (dTup (dCons (dVar 2) (dCons (dC (.int 3)) dNil))) dNil))) (gSlot 4)) (sIf (dT (dBin rEqD (dVar 2) (dC (.str ("enter" : Str))))) (sAsg (dLst (dCons (dTup (dCons (dC (.str ("enter" : Str))) (dCons (dC (.int 0)) dNil))) dNil)) (gSlot 4)) (sIf (dT (dBin rEqD (dVar 2) (dC (.str ("alarm" : Str))))) (sAsg (dLst (dCons (dTup (dCons (dC (.str ("put" : Str))) (dCons (dC (.int 0)) (dCons (dC (.int 5)) dNil)))) (dCons (dTup (dCons (dC (.str ("alarm" : Str))) (dCons (dC (.int 0)) dNil))) dNil))) (gSlot 4)) (sAsg (dLst (dCons (dIfE (dT (dBin rEqD (dVar 2) (dC (.str ("stop" : Str))))) (dTup (dCons (dC (.str ("stop" : Str))) dNil)) (dTup (dCons (dVar 2) (dCons (dC (.int 0)) dNil)))) dNil)) (gSlot 4))))) (sSeq (sAsg (dBin rAddD (dVar 4) (dBin rMulD (dLst (dCons (dC (.int 0)) dNil)) (dBin rSubD (dC c_LEAST_CELLS) (dB rLen (dCons (dVar 4) dNil))))) (gSlot 3)) (sRet (dTup (dCons (dVar 3) (dCons (dLst (dCons (dC (.int 7)) dNil)) (dCons (dB rLen (dCons (dComp (iLstD (dVar 4)) (.one 5) (dT (dBin rNeD (dVar 5) (dC (.int 0)))) (dVar 5) [5]) dNil)) dNil)))))))))
theorem walk_unlike : ∀ ds G Q X, sp_unlike ds G Q X → t_unlike (ends Q X) (startD 6 ds) G := by
  intro ds G Q X hsp
  obtain ⟨a, b, c, d, e, f, g, way, r, rfl, h, hQ⟩ := Ir_e hsp
  conv => whnf
  rcases h with ⟨rfl, rfl⟩ | ⟨rfl, rfl⟩
  · refine Ir_i ⟨a, b, c, d, e, f, g, _, _, rfl, .inl ⟨rfl, rfl⟩, fun G' s' => ?_⟩
    cases a
    · walk_at "run"
      exact hQ _ _ (by walk_at "sub") rfl
    cases b
    · walk_at "run"
      exact hQ _ _ (by walk_at "sub") rfl
    cases c
    · walk_at "run"
      exact hQ _ _ (by walk_at "sub") rfl
    cases e
    · walk_at "run"
      exact hQ _ _ (by walk_at "sub") rfl
    cases f
    · walk_at "run"
      exact hQ _ _ (by walk_at "sub") rfl
    cases g
    · walk_at "run"
      exact hQ _ _ (by walk_at "sub") rfl
    · walk_at "run"
      exact hQ _ _ (by walk_at "sub") rfl
  · refine Ir_i ⟨a, b, c, d, e, f, g, _, _, rfl, .inr ⟨rfl, rfl⟩, fun G' s' => ?_⟩
    cases a
    · walk_at "run"
      exact hQ _ _ (by walk_at "sub") rfl
    cases b
    · walk_at "run"
      exact hQ _ _ (by walk_at "sub") rfl
    · walk_at "run"
      exact hQ _ _ (by walk_at "sub") rfl
def sp_l_same : Nat → DSp
  | 0 => fun _ _ _ _ => False
  | _ + 1 => Ir fun ds G Q _ => ∃ a b : Bool, ds = [.bl a, .bl b] ∧ Q (.bl (decide (a = b))) G
def t_l_same (n : Nat) : TSD := (sSeq (sIf (dT (dIsi ["tuple", "list"] (dVar 1))) (sSeq (sIf (dOrT (dNotT (dT (dIsi ["tuple", "list"] (dVar 0)))) (dT (dBin rNeD (dIsi ["list"] (dVar 0)) (dIsi ["list"] (dVar 1))))) (sRet (dC (.bl false))) sNx) (sSeq (sIf (dT (dBin rNeD (dB rLen (dCons (dVar 0) dNil)) (dB rLen (dCons (dVar 1) dNil)))) (sRet (dC (.bl false))) sNx) (sRet (dBin rEqD (dComp (iRngD1 (dB rLen (dCons (dVar 1) dNil))) (.one 2) (dNotT (dT (dCall (sp_l_same n) (dCons (dBin rIxD (dVar 0) (dVar 2)) (dCons (dBin rIxD (dVar 1) (dVar 2)) dNil))))) (dVar 2) [2]) (dLst dNil))))) sNx) (sSeq (sIf (dT (dIsN false (dVar 1))) (sRet (dIsN false (dVar 0))) sNx) (sSeq (sIf (dT (dIsi ["str"] (dVar 1))) (sRet (dAndV (dIsi ["str"] (dVar 0)) (dBin rEqD (dVar 0) (dVar 1)))) sNx) (sSeq (sIf (dOrT (dT (dIsi ["bool"] (dVar 1))) (dT (dIsi ["bool"] (dVar 0)))) (sRet (dAndV (dIsi ["bool"] (dVar 1)) (dAndV (dIsi ["bool"] (dVar 0)) (dBin rEqD (dVar 0) (dVar 1))))) sNx) (sRet (dAndV (dIsi ["int"] (dVar 0)) (dBin rEqD (dVar 0) (dVar 1))))))))
theorem walk_l_same (n : Nat) : ∀ ds G Q X, sp_l_same (n + 1) ds G Q X → t_l_same n (ends Q X) (startD 3 ds) G := by
  intro ds G Q X hsp
  obtain ⟨a, b, rfl, hQ⟩ := Ir_e hsp
  walk_at "run"
  exact hQ
end L3

namespace L3
open PySem PySem.Spec PyProof.Rows L2
local macro_rules | `(tactic| walk_at "at") => `(tactic| ((repeat (first | with_reducible exact up_same | (with_reducible apply up_at; focus (first | with_reducible assumption | (with_reducible refine Ne.symm ?_; with_reducible assumption) | (with_reducible refine D.ne_of (by (repeat (first | with_reducible assumption | (with_reducible refine Sub.at (by with_reducible assumption) ?_)))) (by with_reducible assumption)) | (with_reducible refine Ne.symm (D.ne_of (by (repeat (first | with_reducible assumption | (with_reducible refine Sub.at (by with_reducible assumption) ?_)))) (by with_reducible assumption))))) | with_reducible assumption | (with_reducible apply Sub.at; focus with_reducible assumption))); done))
local macro_rules | `(tactic| walk_at "hp") => `(tactic| ((with_reducible first | apply hp_seqOf | apply hp_lst | apply hp_ins | apply hp_dct | apply hp_lstOf | apply hp_mutOf | apply hp_len | apply hp_recv | apply hp_lenD | apply hp_tyL | apply hp_tyD); ((repeat (first | with_reducible exact up_same | (with_reducible apply up_at; focus (first | with_reducible assumption | (with_reducible refine Ne.symm ?_; with_reducible assumption) | (with_reducible refine D.ne_of (by (repeat (first | with_reducible assumption | (with_reducible refine Sub.at (by with_reducible assumption) ?_)))) (by with_reducible assumption)) | (with_reducible refine Ne.symm (D.ne_of (by (repeat (first | with_reducible assumption | (with_reducible refine Sub.at (by with_reducible assumption) ?_)))) (by with_reducible assumption))))) | with_reducible assumption | (with_reducible apply Sub.at; focus with_reducible assumption))); done)))
local macro_rules | `(tactic| walk_at "ne") => `(tactic| (first | with_reducible assumption | (with_reducible refine Ne.symm ?_; with_reducible assumption) | (with_reducible refine D.ne_of (by (repeat (first | with_reducible assumption | (with_reducible refine Sub.at (by with_reducible assumption) ?_)))) (by with_reducible assumption)) | (with_reducible refine Ne.symm (D.ne_of (by (repeat (first | with_reducible assumption | (with_reducible refine Sub.at (by with_reducible assumption) ?_)))) (by with_reducible assumption)))))
local macro_rules | `(tactic| walk_at "sd") => `(tactic| (first | exact True.intro | exact rfl | decide | omega | with_reducible assumption | (simp only [CDivD, small64, inR, List.length_cons, List.length_nil, List.length_append, List.length_map, List.length_replicate]; first | done | omega | decide) | ((with_reducible first | apply hp_seqOf | apply hp_lst | apply hp_ins | apply hp_dct | apply hp_lstOf | apply hp_mutOf | apply hp_len | apply hp_recv | apply hp_lenD | apply hp_tyL | apply hp_tyD); ((repeat (first | with_reducible exact up_same | (with_reducible apply up_at; focus (first | with_reducible assumption | (with_reducible refine Ne.symm ?_; with_reducible assumption) | (with_reducible refine D.ne_of (by (repeat (first | with_reducible assumption | (with_reducible refine Sub.at (by with_reducible assumption) ?_)))) (by with_reducible assumption)) | (with_reducible refine Ne.symm (D.ne_of (by (repeat (first | with_reducible assumption | (with_reducible refine Sub.at (by with_reducible assumption) ?_)))) (by with_reducible assumption))))) | with_reducible assumption | (with_reducible apply Sub.at; focus with_reducible assumption))); done))))
local macro_rules | `(tactic| walk_at "go1") => `(tactic| (first | refine onSome_i rfl ?_ | ((with_reducible apply onSome_i); focus ((with_reducible first | apply hp_seqOf | apply hp_lst | apply hp_ins | apply hp_dct | apply hp_lstOf | apply hp_mutOf | apply hp_len | apply hp_recv | apply hp_lenD | apply hp_tyL | apply hp_tyD); ((repeat (first | with_reducible exact up_same | (with_reducible apply up_at; focus (first | with_reducible assumption | (with_reducible refine Ne.symm ?_; with_reducible assumption) | (with_reducible refine D.ne_of (by (repeat (first | with_reducible assumption | (with_reducible refine Sub.at (by with_reducible assumption) ?_)))) (by with_reducible assumption)) | (with_reducible refine Ne.symm (D.ne_of (by (repeat (first | with_reducible assumption | (with_reducible refine Sub.at (by with_reducible assumption) ?_)))) (by with_reducible assumption))))) | with_reducible assumption | (with_reducible apply Sub.at; focus with_reducible assumption))); done))) | ((with_reducible apply onSome_i); focus ((with_reducible apply hp_fld); (focus ((repeat (first | with_reducible exact up_same | (with_reducible apply up_at; focus (first | with_reducible assumption | (with_reducible refine Ne.symm ?_; with_reducible assumption) | (with_reducible refine D.ne_of (by (repeat (first | with_reducible assumption | (with_reducible refine Sub.at (by with_reducible assumption) ?_)))) (by with_reducible assumption)) | (with_reducible refine Ne.symm (D.ne_of (by (repeat (first | with_reducible assumption | (with_reducible refine Sub.at (by with_reducible assumption) ?_)))) (by with_reducible assumption))))) | with_reducible assumption | (with_reducible apply Sub.at; focus with_reducible assumption))); done)); (first | rfl | with_reducible assumption))) | refine ifB_t rfl ?_ | refine ifB_f rfl ?_ | refine ifB_not ?_ | refine ifB_if ?_ | refine ifB_if1 ?_ | refine rEq_iq ?_ | refine rEq_sq ?_ | refine rEq_bq ?_ | refine rNe_iq ?_ | refine rNe_sq ?_ | refine rNe_bq ?_ | (apply rEq_tt; focus exact rfl; focus exact rfl) | (apply rNe_tt; focus exact rfl; focus exact rfl) | (apply rEq_ti; focus exact rfl) | (apply rNe_ti; focus exact rfl) | ((with_reducible apply And.intro); focus (first | exact True.intro | exact rfl | decide | omega | with_reducible assumption | (simp only [CDivD, small64, inR, List.length_cons, List.length_nil, List.length_append, List.length_map, List.length_replicate]; first | done | omega | decide) | ((with_reducible first | apply hp_seqOf | apply hp_lst | apply hp_ins | apply hp_dct | apply hp_lstOf | apply hp_mutOf | apply hp_len | apply hp_recv | apply hp_lenD | apply hp_tyL | apply hp_tyD); ((repeat (first | with_reducible exact up_same | (with_reducible apply up_at; focus (first | with_reducible assumption | (with_reducible refine Ne.symm ?_; with_reducible assumption) | (with_reducible refine D.ne_of (by (repeat (first | with_reducible assumption | (with_reducible refine Sub.at (by with_reducible assumption) ?_)))) (by with_reducible assumption)) | (with_reducible refine Ne.symm (D.ne_of (by (repeat (first | with_reducible assumption | (with_reducible refine Sub.at (by with_reducible assumption) ?_)))) (by with_reducible assumption))))) | with_reducible assumption | (with_reducible apply Sub.at; focus with_reducible assumption))); done))))))
local macro_rules | `(tactic| walk_at "sub") => `(tactic| (repeat (first | with_reducible assumption | with_reducible exact Sub.refl _ | (with_reducible refine Sub.put ?_ (by first | with_reducible assumption | (with_reducible refine Sub.none (by with_reducible assumption) (by with_reducible assumption)))))))
local macro_rules | `(tactic| walk_at "atd") => `(tactic| ((repeat (first | (with_reducible apply up_at; focus (first | with_reducible assumption | (with_reducible refine Ne.symm ?_; with_reducible assumption) | (with_reducible refine D.ne_of (by (repeat (first | with_reducible assumption | (with_reducible refine Sub.at (by with_reducible assumption) ?_)))) (by with_reducible assumption)) | (with_reducible refine Ne.symm (D.ne_of (by (repeat (first | with_reducible assumption | (with_reducible refine Sub.at (by with_reducible assumption) ?_)))) (by with_reducible assumption))))) | (with_reducible apply Sub.at; focus with_reducible assumption))); first | exact up_same | assumption))
local macro_rules | `(tactic| walk_at "new") => `(tactic| ((refine (fun (pX : Addr) => ?_)); (repeat ((with_reducible refine up_none_i ?_); intro _)); (refine (fun (hX : _ = none) => ?_))))
local macro_rules | `(tactic| walk_at "go") => `(tactic| ((try (conv => whnf)); repeat ((first | refine onSome_i rfl ?_ | ((with_reducible apply onSome_i); focus ((with_reducible first | apply hp_seqOf | apply hp_lst | apply hp_ins | apply hp_dct | apply hp_lstOf | apply hp_mutOf | apply hp_len | apply hp_recv | apply hp_lenD | apply hp_tyL | apply hp_tyD); ((repeat (first | with_reducible exact up_same | (with_reducible apply up_at; focus (first | with_reducible assumption | (with_reducible refine Ne.symm ?_; with_reducible assumption) | (with_reducible refine D.ne_of (by (repeat (first | with_reducible assumption | (with_reducible refine Sub.at (by with_reducible assumption) ?_)))) (by with_reducible assumption)) | (with_reducible refine Ne.symm (D.ne_of (by (repeat (first | with_reducible assumption | (with_reducible refine Sub.at (by with_reducible assumption) ?_)))) (by with_reducible assumption))))) | with_reducible assumption | (with_reducible apply Sub.at; focus with_reducible assumption))); done))) | ((with_reducible apply onSome_i); focus ((with_reducible apply hp_fld); (focus ((repeat (first | with_reducible exact up_same | (with_reducible apply up_at; focus (first | with_reducible assumption | (with_reducible refine Ne.symm ?_; with_reducible assumption) | (with_reducible refine D.ne_of (by (repeat (first | with_reducible assumption | (with_reducible refine Sub.at (by with_reducible assumption) ?_)))) (by with_reducible assumption)) | (with_reducible refine Ne.symm (D.ne_of (by (repeat (first | with_reducible assumption | (with_reducible refine Sub.at (by with_reducible assumption) ?_)))) (by with_reducible assumption))))) | with_reducible assumption | (with_reducible apply Sub.at; focus with_reducible assumption))); done)); (first | rfl | with_reducible assumption))) | refine ifB_t rfl ?_ | refine ifB_f rfl ?_ | refine ifB_not ?_ | refine ifB_if ?_ | refine ifB_if1 ?_ | refine rEq_iq ?_ | refine rEq_sq ?_ | refine rEq_bq ?_ | refine rNe_iq ?_ | refine rNe_sq ?_ | refine rNe_bq ?_ | (apply rEq_tt; focus exact rfl; focus exact rfl) | (apply rNe_tt; focus exact rfl; focus exact rfl) | (apply rEq_ti; focus exact rfl) | (apply rNe_ti; focus exact rfl) | ((with_reducible apply And.intro); focus (first | exact True.intro | exact rfl | decide | omega | with_reducible assumption | (simp only [CDivD, small64, inR, List.length_cons, List.length_nil, List.length_append, List.length_map, List.length_replicate]; first | done | omega | decide) | ((with_reducible first | apply hp_seqOf | apply hp_lst | apply hp_ins | apply hp_dct | apply hp_lstOf | apply hp_mutOf | apply hp_len | apply hp_recv | apply hp_lenD | apply hp_tyL | apply hp_tyD); ((repeat (first | with_reducible exact up_same | (with_reducible apply up_at; focus (first | with_reducible assumption | (with_reducible refine Ne.symm ?_; with_reducible assumption) | (with_reducible refine D.ne_of (by (repeat (first | with_reducible assumption | (with_reducible refine Sub.at (by with_reducible assumption) ?_)))) (by with_reducible assumption)) | (with_reducible refine Ne.symm (D.ne_of (by (repeat (first | with_reducible assumption | (with_reducible refine Sub.at (by with_reducible assumption) ?_)))) (by with_reducible assumption))))) | with_reducible assumption | (with_reducible apply Sub.at; focus with_reducible assumption))); done))))); (try (conv => whnf)))))
local macro_rules | `(tactic| walk_at "run") => `(tactic| ((try (conv => whnf)); repeat ((first | refine onSome_i rfl ?_ | ((with_reducible apply onSome_i); focus ((with_reducible first | apply hp_seqOf | apply hp_lst | apply hp_ins | apply hp_dct | apply hp_lstOf | apply hp_mutOf | apply hp_len | apply hp_recv | apply hp_lenD | apply hp_tyL | apply hp_tyD); ((repeat (first | with_reducible exact up_same | (with_reducible apply up_at; focus (first | with_reducible assumption | (with_reducible refine Ne.symm ?_; with_reducible assumption) | (with_reducible refine D.ne_of (by (repeat (first | with_reducible assumption | (with_reducible refine Sub.at (by with_reducible assumption) ?_)))) (by with_reducible assumption)) | (with_reducible refine Ne.symm (D.ne_of (by (repeat (first | with_reducible assumption | (with_reducible refine Sub.at (by with_reducible assumption) ?_)))) (by with_reducible assumption))))) | with_reducible assumption | (with_reducible apply Sub.at; focus with_reducible assumption))); done))) | ((with_reducible apply onSome_i); focus ((with_reducible apply hp_fld); (focus ((repeat (first | with_reducible exact up_same | (with_reducible apply up_at; focus (first | with_reducible assumption | (with_reducible refine Ne.symm ?_; with_reducible assumption) | (with_reducible refine D.ne_of (by (repeat (first | with_reducible assumption | (with_reducible refine Sub.at (by with_reducible assumption) ?_)))) (by with_reducible assumption)) | (with_reducible refine Ne.symm (D.ne_of (by (repeat (first | with_reducible assumption | (with_reducible refine Sub.at (by with_reducible assumption) ?_)))) (by with_reducible assumption))))) | with_reducible assumption | (with_reducible apply Sub.at; focus with_reducible assumption))); done)); (first | rfl | with_reducible assumption))) | refine ifB_t rfl ?_ | refine ifB_f rfl ?_ | refine ifB_not ?_ | refine ifB_if ?_ | refine ifB_if1 ?_ | refine rEq_iq ?_ | refine rEq_sq ?_ | refine rEq_bq ?_ | refine rNe_iq ?_ | refine rNe_sq ?_ | refine rNe_bq ?_ | (apply rEq_tt; focus exact rfl; focus exact rfl) | (apply rNe_tt; focus exact rfl; focus exact rfl) | (apply rEq_ti; focus exact rfl) | (apply rNe_ti; focus exact rfl) | ((with_reducible apply And.intro); focus (first | exact True.intro | exact rfl | decide | omega | with_reducible assumption | (simp only [CDivD, small64, inR, List.length_cons, List.length_nil, List.length_append, List.length_map, List.length_replicate]; first | done | omega | decide) | ((with_reducible first | apply hp_seqOf | apply hp_lst | apply hp_ins | apply hp_dct | apply hp_lstOf | apply hp_mutOf | apply hp_len | apply hp_recv | apply hp_lenD | apply hp_tyL | apply hp_tyD); ((repeat (first | with_reducible exact up_same | (with_reducible apply up_at; focus (first | with_reducible assumption | (with_reducible refine Ne.symm ?_; with_reducible assumption) | (with_reducible refine D.ne_of (by (repeat (first | with_reducible assumption | (with_reducible refine Sub.at (by with_reducible assumption) ?_)))) (by with_reducible assumption)) | (with_reducible refine Ne.symm (D.ne_of (by (repeat (first | with_reducible assumption | (with_reducible refine Sub.at (by with_reducible assumption) ?_)))) (by with_reducible assumption))))) | with_reducible assumption | (with_reducible apply Sub.at; focus with_reducible assumption))); done)))) | refine ref_i ?_ | ((refine (fun (pX : Addr) => ?_)); (repeat ((with_reducible refine up_none_i ?_); intro _)); (refine (fun (hX : _ = none) => ?_)))); (try (conv => whnf)))))
/-! ### the law -/
def sp_law : DSp := Ir fun ds G Q _ => ∃ ns : List Int, ds = [.rl (ns.map D.int)] ∧ ns.length ≤ 63 ∧ ∀ G', Q (.bl true) G'
def t_law  : TSD := (sSeq (sAsg (dCall sp_l_start (dCons (dVar 0) dNil)) (gSlot 1)) (sSeq (sAsg (dCall sp_l_drawn (dCons (dVar 1) (dCons (dC (.int 128)) dNil))) (gSlot 2)) (sSeq (sFor (iLstD (dComp (iRngD1 (dC (.int 128))) (.one 6) dYes (dBin rModD (dBin rAddD (dVar 2) (dBin rMulD (dC (.int 17)) (dVar 6))) (dC (.int 128))) [6])) (gSlot 3) (sSeq (sAsg (dB rTupleD (dCons (dComp (iTupD (dTup (dCons (dC (.int 1)) (dCons (dC (.int 2)) (dCons (dC (.int 4)) (dCons (dC (.int 8)) (dCons (dC (.int 16)) (dCons (dC (.int 32)) (dCons (dC (.int 64)) dNil))))))))) (.one 9) dYes (dBin rEqD (dBin rModD (dBin rFdivD (dVar 3) (dVar 9)) (dC (.int 2))) (dC (.int 1))) [9]) dNil)) (gSlot 4)) (sSeq (sAsg (dBin rEqD (dComp (iRngD1 (dC (.int 7))) (.one 6) (dT (dBin rNeD (dVar 6) (dC (.int 3)))) (dBin rIxD (dVar 4) (dVar 6)) [6]) (dBin rMulD (dLst (dCons (dC (.bl true)) dNil)) (dC (.int 6)))) (gSlot 5)) (sFor (iLstD (dLst (dCons (dTup (dCons (dC (.str ("plain" : Str))) (dCons (dVar 5) dNil))) (dCons (dTup (dCons (dC (.str ("through" : Str))) (dCons (dAndV (dBin rIxD (dVar 4) (dC (.int 0))) (dBin rIxD (dVar 4) (dC (.int 1)))) dNil))) dNil)))) (gTupD 2 (gsCons (gSlot 7) (gsCons (gSlot 8) gsNil))) (sIf (dOrT (dNotT (dT (dCall (sp_l_same 1) (dCons (dCall sp_holds (dCons (dVar 4) (dCons (dVar 7) dNil))) (dCons (dVar 8) dNil))))) (dT (dBin rNeD (dIsN false (dCall sp_unlike (dCons (dVar 4) (dCons (dVar 7) dNil)))) (dVar 8)))) (sRet (dC (.bl false))) sNx))))) (sRet (dC (.bl true))))))
theorem walk_law : ∀ ds G Q X, sp_law ds G Q X → t_law (ends Q X) (startD 10 ds) G := by
  intro ds G Q X hsp
  obtain ⟨ns, rfl, hl, hQ⟩ := Ir_e hsp
  conv => whnf
  refine Ir_i ⟨ns, rfl, hl, fun s o hs ho => ?_⟩
  conv => whnf
  refine Ir_i ⟨s, o, 128, rfl, by decide, by decide, up_same, ho, fun r o' h0 h1 ho' => ?_⟩
  rw [up_up]
  conv => whnf
  refine ⟨by unfold inR; omega, ?_⟩
  intro p hp
  rw [forceS_eq]
  refine dComp_sub (I := ⟨rangeD 0 128, fun _ => True⟩) hp (fun _ _ => trivial) (fun _ => true) (fun d => match d with | .int k => .int ((r + 17 * k) % 128) | d => d) (by rw [rangeD_length]; decide) (fun d hd G' s' => ?_) (fun d hd _ G' s' => ?_) (fun G1 s1 e1 => ?_)
  · conv => whnf
    intro k hk
    exact hk _ (.refl _)
  · obtain ⟨i, _, rfl⟩ := rangeD_mem hd
    walk_at "go"
    intro k hk
    walk_at "go"
    exact hk _ (.refl _)
  · have hL : ∃ L, G1 p = some (.lst L) ∧ ∀ d ∈ L, ∃ n : Int, d = .int n := by
      refine ⟨_, e1, fun d hd => ?_⟩
      obtain ⟨d', h', rfl⟩ := List.mem_map.mp hd
      obtain ⟨i, _, rfl⟩ := rangeD_mem (List.mem_filter.mp h').1
      exact ⟨_, rfl⟩
    clear e1
    obtain ⟨L, e1, hL⟩ := hL
    walk_at "go"
    refine forRun_ind (fun l τ G' => Sub G1 G' ∧ (∀ d ∈ l, ∃ n : Int, d = .int n) ∧ ∃ t1 t3 t4 t5 t6 t7 t8 t9, τ = [some (.rl (ns.map D.int)), t1, some (.int r), t3, t4, t5, t6, t7, t8, t9]) ?_ ?_ _ _ _ ⟨.refl _, hL, _, _, _, _, _, _, _, _, rfl⟩
    · rintro τ G' ⟨s', -, t1, t3, t4, t5, t6, t7, t8, t9, rfl⟩
      refine ⟨by walk_at "hp", ?_⟩
      walk_at "run"
      exact hQ _
    · rintro d l ih τ G' ⟨s', hd, t1, t3, t4, t5, t6, t7, t8, t9, rfl⟩
      obtain ⟨n, rfl⟩ := hd d List.mem_cons_self
      refine ⟨by walk_at "hp", ?_⟩
      walk_at "go"
      intro q hq
      rw [forceS_eq]
      refine dComp_sub (I := ⟨[.int 1, .int 2, .int 4, .int 8, .int 16, .int 32, .int 64], fun _ => True⟩) hq (fun _ _ => trivial) (fun _ => true) (fun d => match d with | .int k => .bl (decide (n / k % 2 = 1)) | d => d) (by decide) (fun d hd G3 s3 => ?_) (fun d hd _ G3 s3 => ?_) (fun G2 s2 e2 => ?_)
      · conv => whnf
        intro k hk
        exact hk _ (.refl _)
      · have hd' : ∃ k : Int, d = .int k ∧ CDivD k := by
          simp only [List.mem_cons, List.not_mem_nil, or_false] at hd
          rcases hd with rfl | rfl | rfl | rfl | rfl | rfl | rfl <;> exact ⟨_, rfl, by unfold CDivD; omega⟩
        obtain ⟨k, rfl, hk⟩ := hd'
        walk_at "go"
        intro k hk
        walk_at "go"
        exact hk _ (.refl _)
      · replace e2 : G2 q = some (.lst [.bl (decide (n / 1 % 2 = 1)), .bl (decide (n / 2 % 2 = 1)), .bl (decide (n / 4 % 2 = 1)), .bl (decide (n / 8 % 2 = 1)), .bl (decide (n / 16 % 2 = 1)), .bl (decide (n / 32 % 2 = 1)), .bl (decide (n / 64 % 2 = 1))]) := e2
        generalize decide (n / 1 % 2 = 1) = a, decide (n / 2 % 2 = 1) = b, decide (n / 4 % 2 = 1) = c, decide (n / 8 % 2 = 1) = d, decide (n / 16 % 2 = 1) = e, decide (n / 32 % 2 = 1) = f, decide (n / 64 % 2 = 1) = g at e2
        walk_at "go"
        walk_at "new"
        walk_at "go"
        walk_at "new"
        walk_at "go"
        walk_at "new"
        walk_at "go"
        refine rEq_bls (a := [a, b, c, e, f, g]) (b := [true, true, true, true, true, true]) (by walk_at "atd") (by walk_at "atd") ?_
        generalize hP : decide ([a, b, c, e, f, g] = [true, true, true, true, true, true]) = P
        have hPr : (a && b && c && e && f && g) = P := by
          subst hP
          cases a <;> cases b <;> cases c <;> cases e <;> cases f <;> cases g <;> rfl
        walk_at "go"
        refine ifB_i (fun ha => ?_) fun ha => ?_
        · walk_at "run"
          refine Ir_i ⟨a, b, c, d, e, f, g, _, _, rfl, .inl ⟨rfl, rfl⟩, fun G3 s3 => ?_⟩
          walk_at "go"
          refine Ir_i ⟨_, _, rfl, ?_⟩
          rw [hPr]
          walk_at "go"
          refine ifB_t (decide_eq_true rfl) ?_
          walk_at "go"
          refine Ir_i ⟨a, b, c, d, e, f, g, _, _, rfl, .inl ⟨rfl, rfl⟩, fun v G4 s4 hv => ?_⟩
          walk_at "go"
          refine ifB_t (decide_eq_true (by rw [if_neg Bool.false_ne_true]; exact hv.trans hPr)) ?_
          walk_at "go"
          refine Ir_i ⟨a, b, c, d, e, f, g, _, _, rfl, .inr ⟨rfl, rfl⟩, fun G5 s5 => ?_⟩
          have hab : (a && b) = b := by rw [ha]; rfl
          walk_at "go"
          refine Ir_i ⟨_, _, rfl, ?_⟩
          rw [hab]
          walk_at "go"
          refine ifB_t (decide_eq_true rfl) ?_
          walk_at "go"
          refine Ir_i ⟨a, b, c, d, e, f, g, _, _, rfl, .inr ⟨rfl, rfl⟩, fun v G6 s6 hv => ?_⟩
          walk_at "go"
          refine ifB_t (decide_eq_true (by rw [if_neg Bool.false_ne_true]; exact hv.trans hab)) ?_
          walk_at "go"
          refine ih _ _ ⟨?_, fun d h => hd d (List.mem_cons_of_mem _ h), _, _, _, _, _, _, _, _, rfl⟩
          refine s'.trans ((s2.trans ?_).trans (s3.trans (s4.trans (s5.trans s6))))
          walk_at "sub"
        · walk_at "run"
          refine Ir_i ⟨a, b, c, d, e, f, g, _, _, rfl, .inl ⟨rfl, rfl⟩, fun G3 s3 => ?_⟩
          walk_at "go"
          refine Ir_i ⟨_, _, rfl, ?_⟩
          rw [hPr]
          walk_at "go"
          refine ifB_t (decide_eq_true rfl) ?_
          walk_at "go"
          refine Ir_i ⟨a, b, c, d, e, f, g, _, _, rfl, .inl ⟨rfl, rfl⟩, fun v G4 s4 hv => ?_⟩
          walk_at "go"
          refine ifB_t (decide_eq_true (by rw [if_neg Bool.false_ne_true]; exact hv.trans hPr)) ?_
          walk_at "go"
          refine Ir_i ⟨a, b, c, d, e, f, g, _, _, rfl, .inr ⟨rfl, rfl⟩, fun G5 s5 => ?_⟩
          have hab : (a && b) = false := by rw [ha]; rfl
          walk_at "go"
          refine Ir_i ⟨_, _, rfl, ?_⟩
          rw [hab]
          walk_at "go"
          refine Ir_i ⟨a, b, c, d, e, f, g, _, _, rfl, .inr ⟨rfl, rfl⟩, fun v G6 s6 hv => ?_⟩
          walk_at "go"
          refine ifB_t (decide_eq_true (by rw [if_neg Bool.false_ne_true]; exact hv.trans hab)) ?_
          walk_at "go"
          refine ih _ _ ⟨?_, fun d h => hd d (List.mem_cons_of_mem _ h), _, _, _, _, _, _, _, _, rfl⟩
          refine s'.trans ((s2.trans ?_).trans (s3.trans (s4.trans (s5.trans s6))))
          walk_at "sub"
theorem law_pre (ns : List Int) (h : ns.length ≤ 63) : sp_law [.rl (ns.map D.int)] (fun _ => none) (fun d _ => d = .bl true) (fun _ _ _ => False) := Ir_i ⟨ns, rfl, h, fun _ => rfl⟩
theorem len_need_kind : ∀ ds G Q X, sp_need_kind ds G Q X → ds.length = 1 := fun ds G Q X h => by
  obtain ⟨_, rfl, _⟩ := Ir_e h; rfl
theorem len_lacking : ∀ ds G Q X, sp_lacking ds G Q X → ds.length = 2 := fun ds G Q X h => by
  obtain ⟨_, _, _, _, _, _, _, _, _, rfl, _⟩ := Ir_e h; rfl
theorem len_holds : ∀ ds G Q X, sp_holds ds G Q X → ds.length = 2 := fun ds G Q X h => by
  obtain ⟨_, _, _, _, _, _, _, _, _, rfl, _⟩ := Ir_e h; rfl
theorem len_unlike : ∀ ds G Q X, sp_unlike ds G Q X → ds.length = 2 := fun ds G Q X h => by
  obtain ⟨_, _, _, _, _, _, _, _, _, rfl, _⟩ := Ir_e h; rfl
theorem len_l_start : ∀ ds G Q X, sp_l_start ds G Q X → ds.length = 1 := fun ds G Q X h => by
  obtain ⟨_, rfl, _⟩ := Ir_e h; rfl
theorem len_l_drawn : ∀ ds G Q X, sp_l_drawn ds G Q X → ds.length = 2 := fun ds G Q X h => by
  obtain ⟨_, _, _, rfl, _⟩ := Ir_e h; rfl
theorem len_l_same (n : Nat) : ∀ ds G Q X, sp_l_same (n + 1) ds G Q X → ds.length = 2 := fun ds G Q X h => by
  obtain ⟨_, _, rfl, _⟩ := Ir_e h; rfl
theorem len_law : ∀ ds G Q X, sp_law ds G Q X → ds.length = 1 := fun ds G Q X h => by
  obtain ⟨_, rfl, _⟩ := Ir_e h; rfl
end L3

namespace L3
open PySem PySem.Spec PyProof.Rows L2
/-! ### the text of the row -/
def topS (i : Nat) : Stmt := PySem.Challenge.pw_guestworlds_k12_which_kinds_hold.main.body.getD i (.Pass ⟨0, 0, 0, 0⟩)
abbrev FnP (K : PySem.W.Frag) (x : Str) (st : Stmt) (f : Addr) (fd : FuncData) : Prop := FunD K x x (defArgs st) (defBody st) (defScope st) [] [] f fd
abbrev s_need_kind : Stmt := topS 7
theorem sc_need_kind : FnScope ["kind", "good", "part"] ["kind"] (defScope s_need_kind) := ⟨rfl, rfl, rfl, by decide +kernel, rfl, by decide +kernel, by decide +kernel⟩
theorem der_need_kind {P : Program} {w : World} {K : PySem.W.Frag} {mg : Str → Option Value} {base : Heap} {k n : Nat} {f : Addr} {cdv : Value} {A : Around} {outer : List Env} {s : Shared} {H : Hp} {E : XK}
  (b_isinstance : mg ("isinstance" : Str) = none)
  (b_tuple : mg ("tuple" : Str) = none)
  (b_len : mg ("len" : Str) = none)
  (k_OWN_ORDER : Kon K mg ("OWN_ORDER" : Str) c_OWN_ORDER)
  (b_bool : mg ("bool" : Str) = none)
  (r_BadKind : RsD K mg ("BadKind" : Str))
  (hr : Room (k + 1) (A.deeper (envOfC "need_kind" (defScope s_need_kind) s.heap.objs.size f cdv))) : MSs (cxOf (L2.CX P w) P w K mg base ["kind", "good", "part"] "need_kind" (defScope s_need_kind) f cdv A outer s H E) (fun cls d _ H => E cls d H) (defBody s_need_kind) t_need_kind :=
  (ms_cons (ms_asg (m_and (m_isi (n := "tuple") b_isinstance b_tuple (by decide +kernel) (by decide) (m_var 0)) (m_one (m_cmp (mo_eq (huR hr)) (m_B mc_len b_len PySem.boot_len (ma_cons (m_var 0) ma_nil)) (m_B mc_len b_len PySem.boot_len (ma_cons (m_kon k_OWN_ORDER) ma_nil))))) (mg_name (j := 1) sc_need_kind.nd)) (ms_one (ms_if (m_tw (mw_or (m_tnot (m_tval (m_var 1))) (mw_or1 (m_tcmp (mo_ne (huR hr)) (m_comp rfl sc_need_kind.nd (own := [("part", 2)]) (ct := (.one 2)) (mi_tup (m_var 0)) (blkOk_by (N := ["kind", "good", "part"]) (sc := defScope s_need_kind) (by decide +kernel)) (fun _ _ _ _ _ => pg_name (i := 2) sc_need_kind.nd rfl (Or.inl rfl)) (fun _ _ _ _ _ => (mts_one (m_tnot (m_tval (m_isi (n := "bool") b_isinstance b_bool (by decide +kernel) (by decide) (m_var 2)))))) (fun _ _ _ _ _ => (m_var 2))) (m_lst ma_nil))))) (ms_one (ms_raise (c := "BadKind") r_BadKind rfl (takes_of rfl rfl rfl rfl))) ms_nil)))
theorem ok_need_kind {P : Program} {w : World} {K : PySem.W.Frag} {mg : Str → Option Value} {base : Heap} {k n : Nat} {f : Addr} {fd : FuncData} (F : FnP K "need_kind" s_need_kind f fd) (g : mg ("need_kind" : Str) = some (.ref f))
  (b_isinstance : mg ("isinstance" : Str) = none)
  (b_tuple : mg ("tuple" : Str) = none)
  (b_len : mg ("len" : Str) = none)
  (k_OWN_ORDER : Kon K mg ("OWN_ORDER" : Str) c_OWN_ORDER)
  (b_bool : mg ("bool" : Str) = none)
  (r_BadKind : RsD K mg ("BadKind" : Str))
  : FnD P w K mg base (k + 2) ("need_kind" : Str) sp_need_kind :=
  ⟨f, fd, ["kind"], g, F.kp, FunD.bindsN F fun _ _ _ _ _ _ us hl => match us, hl with | [_], _ => rfl, L3.fn_ok (He5.fun_of F) sc_need_kind t_need_kind (len_need_kind) (walk_need_kind) fun cdv A outer s H E hr => der_need_kind (n := n) b_isinstance b_tuple b_len k_OWN_ORDER b_bool r_BadKind hr⟩
abbrev s_lacking : Stmt := topS 11
theorem sc_lacking : FnScope ["kind", "way", "number", "word"] ["kind", "way"] (defScope s_lacking) := ⟨rfl, rfl, rfl, by decide +kernel, rfl, by decide +kernel, by decide +kernel⟩
theorem der_lacking {P : Program} {w : World} {K : PySem.W.Frag} {mg : Str → Option Value} {base : Heap} {k n : Nat} {f : Addr} {cdv : Value} {A : Around} {outer : List Env} {s : Shared} {H : Hp} {E : XK}
  (f_need_kind : FnD P w K mg base k ("need_kind" : Str) sp_need_kind)
  (kd_NEEDED : KD w K mg ("NEEDED" : Str) kv_NEEDED)
  (r_BadWay : RsD K mg ("BadWay" : Str))
  (b_enumerate : mg ("enumerate" : Str) = none)
  (k_OWN_ORDER : Kon K mg ("OWN_ORDER" : Str) c_OWN_ORDER)
  (hr : Room (k + 1) (A.deeper (envOfC "lacking" (defScope s_lacking) s.heap.objs.size f cdv))) : MSs (cxOf (L2.CX P w) P w K mg base ["kind", "way", "number", "word"] "lacking" (defScope s_lacking) f cdv A outer s H E) (fun cls d _ H => E cls d H) (defBody s_lacking) t_lacking :=
  (ms_cons (ms_do (m_call f_need_kind (hr.mono (Nat.le_succ _)) (takes_of rfl rfl rfl rfl) (ma_cons (m_var 0) ma_nil))) (ms_cons (ms_if (m_tknin kd_NEEDED (m_var 1)) (ms_one (ms_raise (c := "BadWay") r_BadWay rfl (takes_of rfl rfl rfl rfl))) ms_nil) (ms_cons (ms_for (passes_of rfl) rfl (mi_enumT b_enumerate (m_kon k_OWN_ORDER)) (mg_tup (n := 2) rfl (mgs_cons (mg_name (j := 2) sc_lacking.nd) (mgs_cons (mg_name (j := 3) sc_lacking.nd) mgs_nil))) (ms_one (ms_if (m_tw (mw_and (m_tcmp mo_in (m_var 3) (m_kix kd_NEEDED (m_var 1))) (mw_and1 (m_tnot (m_tval (m_ix (m_var 0) (m_var 2))))))) (ms_one (ms_ret (m_var 3))) ms_nil))) (ms_one (ms_ret m_non)))))
theorem ok_lacking {P : Program} {w : World} {K : PySem.W.Frag} {mg : Str → Option Value} {base : Heap} {k n : Nat} {f : Addr} {fd : FuncData} (F : FnP K "lacking" s_lacking f fd) (g : mg ("lacking" : Str) = some (.ref f))
  (f_need_kind : FnD P w K mg base k ("need_kind" : Str) sp_need_kind)
  (kd_NEEDED : KD w K mg ("NEEDED" : Str) kv_NEEDED)
  (r_BadWay : RsD K mg ("BadWay" : Str))
  (b_enumerate : mg ("enumerate" : Str) = none)
  (k_OWN_ORDER : Kon K mg ("OWN_ORDER" : Str) c_OWN_ORDER)
  : FnD P w K mg base (k + 2) ("lacking" : Str) sp_lacking :=
  ⟨f, fd, ["kind", "way"], g, F.kp, FunD.bindsN F fun _ _ _ _ _ _ us hl => match us, hl with | [_, _], _ => rfl, L3.fn_ok (He5.fun_of F) sc_lacking t_lacking (len_lacking) (walk_lacking) fun cdv A outer s H E hr => der_lacking (n := n) f_need_kind kd_NEEDED r_BadWay b_enumerate k_OWN_ORDER hr⟩
abbrev s_holds : Stmt := topS 12
theorem sc_holds : FnScope ["kind", "way"] ["kind", "way"] (defScope s_holds) := ⟨rfl, rfl, rfl, by decide +kernel, rfl, by decide +kernel, by decide +kernel⟩
theorem der_holds {P : Program} {w : World} {K : PySem.W.Frag} {mg : Str → Option Value} {base : Heap} {k n : Nat} {f : Addr} {cdv : Value} {A : Around} {outer : List Env} {s : Shared} {H : Hp} {E : XK}
  (f_lacking : FnD P w K mg base k ("lacking" : Str) sp_lacking)
  (hr : Room (k + 1) (A.deeper (envOfC "holds" (defScope s_holds) s.heap.objs.size f cdv))) : MSs (cxOf (L2.CX P w) P w K mg base ["kind", "way"] "holds" (defScope s_holds) f cdv A outer s H E) (fun cls d _ H => E cls d H) (defBody s_holds) t_holds :=
  (ms_one (ms_ret (m_isN (m_call f_lacking (hr.mono (Nat.le_succ _)) (takes_of rfl rfl rfl rfl) (ma_cons (m_var 0) (ma_cons (m_var 1) ma_nil))))))
theorem ok_holds {P : Program} {w : World} {K : PySem.W.Frag} {mg : Str → Option Value} {base : Heap} {k n : Nat} {f : Addr} {fd : FuncData} (F : FnP K "holds" s_holds f fd) (g : mg ("holds" : Str) = some (.ref f))
  (f_lacking : FnD P w K mg base k ("lacking" : Str) sp_lacking)
  : FnD P w K mg base (k + 2) ("holds" : Str) sp_holds :=
  ⟨f, fd, ["kind", "way"], g, F.kp, FunD.bindsN F fun _ _ _ _ _ _ us hl => match us, hl with | [_, _], _ => rfl, L3.fn_ok (He5.fun_of F) sc_holds t_holds (len_holds) (walk_holds) fun cdv A outer s H E hr => der_holds (n := n) f_lacking hr⟩
abbrev s_unlike : Stmt := topS 13
theorem sc_unlike : FnScope ["kind", "way", "word", "cells", "first", "thing"] ["kind", "way"] (defScope s_unlike) := ⟨rfl, rfl, rfl, by decide +kernel, rfl, by decide +kernel, by decide +kernel⟩
theorem der_unlike {P : Program} {w : World} {K : PySem.W.Frag} {mg : Str → Option Value} {base : Heap} {k n : Nat} {f : Addr} {cdv : Value} {A : Around} {outer : List Env} {s : Shared} {H : Hp} {E : XK}
  (f_lacking : FnD P w K mg base k ("lacking" : Str) sp_lacking)
  (k_ENTERS : Kon K mg ("ENTERS" : Str) c_ENTERS)
  (k_LEAST_CELLS : Kon K mg ("LEAST_CELLS" : Str) c_LEAST_CELLS)
  (b_len : mg ("len" : Str) = none)
  (hr : Room (k + 1) (A.deeper (envOfC "unlike" (defScope s_unlike) s.heap.objs.size f cdv))) : MSs (cxOf (L2.CX P w) P w K mg base ["kind", "way", "word", "cells", "first", "thing"] "unlike" (defScope s_unlike) f cdv A outer s H E) (fun cls d _ H => E cls d H) (defBody s_unlike) t_unlike :=
  (ms_cons (ms_asg (m_call f_lacking (hr.mono (Nat.le_succ _)) (takes_of rfl rfl rfl rfl) (ma_cons (m_var 0) (ma_cons (m_var 1) ma_nil))) (mg_name (j := 2) sc_unlike.nd)) (ms_cons (ms_if (m_tisN (m_var 2)) (ms_one (ms_ret m_non)) ms_nil) (ms_cons (ms_if (m_tcmp (mo_eq (huR hr)) (m_var 1) m_str) (ms_one (ms_asg (m_op mo_add (m_kon k_ENTERS) (m_lst (ma_cons (m_tup (ma_cons (m_var 2) (ma_cons m_int ma_nil))) ma_nil))) (mg_name (j := 4) sc_unlike.nd))) (ms_one (ms_if (m_tcmp (mo_eq (huR hr)) (m_var 2) m_str) (ms_one (ms_asg (m_lst (ma_cons (m_tup (ma_cons m_str (ma_cons m_int ma_nil))) ma_nil)) (mg_name (j := 4) sc_unlike.nd))) (ms_one (ms_if (m_tcmp (mo_eq (huR hr)) (m_var 2) m_str) (ms_one (ms_asg (m_lst (ma_cons (m_tup (ma_cons m_str (ma_cons m_int (ma_cons m_int ma_nil)))) (ma_cons (m_tup (ma_cons m_str (ma_cons m_int ma_nil))) ma_nil))) (mg_name (j := 4) sc_unlike.nd))) (ms_one (ms_asg (m_lst (ma_cons (m_ifE (m_tcmp (mo_eq (huR hr)) (m_var 2) m_str) (m_tup (ma_cons m_str ma_nil)) (m_tup (ma_cons (m_var 2) (ma_cons m_int ma_nil)))) ma_nil)) (mg_name (j := 4) sc_unlike.nd)))))))) (ms_cons (ms_asg (m_op mo_add (m_var 4) (m_op mo_mul (m_lst (ma_cons m_int ma_nil)) (m_op mo_sub (m_kon k_LEAST_CELLS) (m_B mc_len b_len PySem.boot_len (ma_cons (m_var 4) ma_nil))))) (mg_name (j := 3) sc_unlike.nd)) (ms_one (ms_ret (m_tup (ma_cons (m_var 3) (ma_cons (m_lst (ma_cons m_int ma_nil)) (ma_cons (m_B mc_len b_len PySem.boot_len (ma_cons (m_comp rfl sc_unlike.nd (own := [("thing", 5)]) (ct := (.one 5)) (mi_lst (m_var 4)) (blkOk_by (N := ["kind", "way", "word", "cells", "first", "thing"]) (sc := defScope s_unlike) (by decide +kernel)) (fun _ _ _ _ _ => pg_name (i := 5) sc_unlike.nd rfl (Or.inl rfl)) (fun _ _ _ _ _ => (mts_one (m_tcmp (mo_ne (huR hr)) (m_var 5) m_int))) (fun _ _ _ _ _ => (m_var 5))) ma_nil)) ma_nil))))))))))
theorem ok_unlike {P : Program} {w : World} {K : PySem.W.Frag} {mg : Str → Option Value} {base : Heap} {k n : Nat} {f : Addr} {fd : FuncData} (F : FnP K "unlike" s_unlike f fd) (g : mg ("unlike" : Str) = some (.ref f))
  (f_lacking : FnD P w K mg base k ("lacking" : Str) sp_lacking)
  (k_ENTERS : Kon K mg ("ENTERS" : Str) c_ENTERS)
  (k_LEAST_CELLS : Kon K mg ("LEAST_CELLS" : Str) c_LEAST_CELLS)
  (b_len : mg ("len" : Str) = none)
  : FnD P w K mg base (k + 2) ("unlike" : Str) sp_unlike :=
  ⟨f, fd, ["kind", "way"], g, F.kp, FunD.bindsN F fun _ _ _ _ _ _ us hl => match us, hl with | [_, _], _ => rfl, L3.fn_ok (He5.fun_of F) sc_unlike t_unlike (len_unlike) (walk_unlike) fun cdv A outer s H E hr => der_unlike (n := n) f_lacking k_ENTERS k_LEAST_CELLS b_len hr⟩
abbrev s_l_start : Stmt := topS 15
theorem sc_l_start : FnScope ["_law_script", "_law_mixed", "_law_cell"] ["_law_script"] (defScope s_l_start) := ⟨rfl, rfl, rfl, by decide +kernel, rfl, by decide +kernel, by decide +kernel⟩
theorem der_l_start {P : Program} {w : World} {K : PySem.W.Frag} {mg : Str → Option Value} {base : Heap} {k n : Nat} {f : Addr} {cdv : Value} {A : Around} {outer : List Env} {s : Shared} {H : Hp} {E : XK}
  (hr : Room (k + 1) (A.deeper (envOfC "_law_start" (defScope s_l_start) s.heap.objs.size f cdv))) : MSs (cxOf (L2.CX P w) P w K mg base ["_law_script", "_law_mixed", "_law_cell"] "_law_start" (defScope s_l_start) f cdv A outer s H E) (fun cls d _ H => E cls d H) (defBody s_l_start) t_l_start :=
  (ms_cons (ms_asg m_int (mg_name (j := 1) sc_l_start.nd)) (ms_cons (ms_for (passes_of rfl) rfl (mi_lst (m_var 0)) (mg_name (j := 2) sc_l_start.nd) (ms_one (ms_asg (m_op mo_mod (m_op mo_add (m_op mo_add (m_op mo_mul (m_var 1) m_int) (m_var 2)) m_int) m_int) (mg_name (j := 1) sc_l_start.nd)))) (ms_one (ms_ret (m_lst (ma_cons (m_var 0) (ma_cons m_int (ma_cons (m_var 1) (ma_cons m_int ma_nil)))))))))
theorem ok_l_start {P : Program} {w : World} {K : PySem.W.Frag} {mg : Str → Option Value} {base : Heap} {k n : Nat} {f : Addr} {fd : FuncData} (F : FnP K "_law_start" s_l_start f fd) (g : mg ("_law_start" : Str) = some (.ref f))
  : FnD P w K mg base (k + 2) ("_law_start" : Str) sp_l_start :=
  ⟨f, fd, ["_law_script"], g, F.kp, FunD.bindsN F fun _ _ _ _ _ _ us hl => match us, hl with | [_], _ => rfl, L3.fn_ok (He5.fun_of F) sc_l_start t_l_start (len_l_start) (walk_l_start) fun cdv A outer s H E hr => der_l_start (n := n)  hr⟩
abbrev s_l_drawn : Stmt := topS 16
theorem sc_l_drawn : FnScope ["_law_state", "_law_many", "_law_found", "_law_cell"] ["_law_state", "_law_many"] (defScope s_l_drawn) := ⟨rfl, rfl, rfl, by decide +kernel, rfl, by decide +kernel, by decide +kernel⟩
theorem der_l_drawn {P : Program} {w : World} {K : PySem.W.Frag} {mg : Str → Option Value} {base : Heap} {k n : Nat} {f : Addr} {cdv : Value} {A : Around} {outer : List Env} {s : Shared} {H : Hp} {E : XK}
  (b_len : mg ("len" : Str) = none)
  (hr : Room (k + 1) (A.deeper (envOfC "_law_drawn" (defScope s_l_drawn) s.heap.objs.size f cdv))) : MSs (cxOf (L2.CX P w) P w K mg base ["_law_state", "_law_many", "_law_found", "_law_cell"] "_law_drawn" (defScope s_l_drawn) f cdv A outer s H E) (fun cls d _ H => E cls d H) (defBody s_l_drawn) t_l_drawn :=
  (ms_cons (ms_if (m_tcmp mo_gt (m_ix (m_var 0) m_int) m_int) (ms_cons (ms_asg (m_op mo_mod (m_ix (m_var 0) m_int) (m_var 1)) (mg_name (j := 2) sc_l_drawn.nd)) (ms_cons (ms_asg (m_op mo_fdiv (m_ix (m_var 0) m_int) (m_var 1)) (mg_sub (m_var 0) m_int)) (ms_one (ms_ret (m_var 2))))) ms_nil) (ms_cons (ms_asg (m_op mo_add (m_ix (m_var 0) m_int) m_int) (mg_sub (m_var 0) m_int)) (ms_cons (ms_if (m_tcmp mo_le (m_ix (m_var 0) m_int) (m_B mc_len b_len PySem.boot_len (ma_cons (m_ix (m_var 0) m_int) ma_nil))) (ms_cons (ms_asg (m_ix (m_ix (m_var 0) m_int) (m_op mo_sub (m_ix (m_var 0) m_int) m_int)) (mg_name (j := 3) sc_l_drawn.nd)) (ms_cons (ms_asg (m_ifE (m_tcmp mo_ge (m_var 3) (m_op mo_pow m_int m_int)) (m_op mo_fdiv (m_var 3) (m_var 1)) m_int) (mg_sub (m_var 0) m_int)) (ms_one (ms_ret (m_op mo_mod (m_var 3) (m_var 1)))))) ms_nil) (ms_cons (ms_asg (m_op mo_mod (m_op mo_add (m_op mo_mul (m_ix (m_var 0) m_int) m_int) m_int) m_int) (mg_sub (m_var 0) m_int)) (ms_one (ms_ret (m_op mo_mod (m_op mo_fdiv (m_ix (m_var 0) m_int) m_int) (m_var 1))))))))
theorem ok_l_drawn {P : Program} {w : World} {K : PySem.W.Frag} {mg : Str → Option Value} {base : Heap} {k n : Nat} {f : Addr} {fd : FuncData} (F : FnP K "_law_drawn" s_l_drawn f fd) (g : mg ("_law_drawn" : Str) = some (.ref f))
  (b_len : mg ("len" : Str) = none)
  : FnD P w K mg base (k + 2) ("_law_drawn" : Str) sp_l_drawn :=
  ⟨f, fd, ["_law_state", "_law_many"], g, F.kp, FunD.bindsN F fun _ _ _ _ _ _ us hl => match us, hl with | [_, _], _ => rfl, L3.fn_ok (He5.fun_of F) sc_l_drawn t_l_drawn (len_l_drawn) (walk_l_drawn) fun cdv A outer s H E hr => der_l_drawn (n := n) b_len hr⟩
abbrev s_l_same : Stmt := topS 17
theorem sc_l_same : FnScope ["_law_found", "_law_due", "_law_k"] ["_law_found", "_law_due"] (defScope s_l_same) := ⟨rfl, rfl, rfl, by decide +kernel, rfl, by decide +kernel, by decide +kernel⟩
theorem der_l_same {P : Program} {w : World} {K : PySem.W.Frag} {mg : Str → Option Value} {base : Heap} {k n : Nat} {f : Addr} {cdv : Value} {A : Around} {outer : List Env} {s : Shared} {H : Hp} {E : XK}
  (b_isinstance : mg ("isinstance" : Str) = none)
  (b_tuple : mg ("tuple" : Str) = none)
  (b_list : mg ("list" : Str) = none)
  (b_len : mg ("len" : Str) = none)
  (b_range : mg ("range" : Str) = none)
  (f_l_same : FnD P w K mg base k ("_law_same" : Str) (sp_l_same n))
  (b_str : mg ("str" : Str) = none)
  (b_bool : mg ("bool" : Str) = none)
  (b_int : mg ("int" : Str) = none)
  (hr : Room (k + 1) (A.deeper (envOfC "_law_same" (defScope s_l_same) s.heap.objs.size f cdv))) : MSs (cxOf (L2.CX P w) P w K mg base ["_law_found", "_law_due", "_law_k"] "_law_same" (defScope s_l_same) f cdv A outer s H E) (fun cls d _ H => E cls d H) (defBody s_l_same) (t_l_same n) :=
  (ms_cons (ms_if (m_tval (m_isi2 (n := "tuple") (m := "list") b_isinstance b_tuple (by decide +kernel) b_list (by decide +kernel) (by decide) (by decide) (m_var 1))) (ms_cons (ms_if (m_tw (mw_or (m_tnot (m_tval (m_isi2 (n := "tuple") (m := "list") b_isinstance b_tuple (by decide +kernel) b_list (by decide +kernel) (by decide) (by decide) (m_var 0)))) (mw_or1 (m_tcmp (mo_ne (huR hr)) (m_isi (n := "list") b_isinstance b_list (by decide +kernel) (by decide) (m_var 0)) (m_isi (n := "list") b_isinstance b_list (by decide +kernel) (by decide) (m_var 1)))))) (ms_one (ms_ret m_bl)) ms_nil) (ms_cons (ms_if (m_tcmp (mo_ne (huR hr)) (m_B mc_len b_len PySem.boot_len (ma_cons (m_var 0) ma_nil)) (m_B mc_len b_len PySem.boot_len (ma_cons (m_var 1) ma_nil))) (ms_one (ms_ret m_bl)) ms_nil) (ms_one (ms_ret (m_cmp (mo_eq (huR hr)) (m_comp rfl sc_l_same.nd (own := [("_law_k", 2)]) (ct := (.one 2)) (mi_rng1 b_range (m_B mc_len b_len PySem.boot_len (ma_cons (m_var 1) ma_nil))) (blkOk_by (N := ["_law_found", "_law_due", "_law_k"]) (sc := defScope s_l_same) (by decide +kernel)) (fun _ _ _ _ _ => pg_name (i := 2) sc_l_same.nd rfl (Or.inl rfl)) (fun _ _ _ _ _ => (mts_one (m_tnot (m_tval (m_call f_l_same (hr.mono (Nat.le_succ _)) takes0 (ma_cons (m_ix (m_var 0) (m_var 2)) (ma_cons (m_ix (m_var 1) (m_var 2)) ma_nil))))))) (fun _ _ _ _ _ => (m_var 2))) (m_lst ma_nil)))))) ms_nil) (ms_cons (ms_if (m_tisN (m_var 1)) (ms_one (ms_ret (m_isN (m_var 0)))) ms_nil) (ms_cons (ms_if (m_tval (m_isi (n := "str") b_isinstance b_str (by decide +kernel) (by decide) (m_var 1))) (ms_one (ms_ret (m_and (m_isi (n := "str") b_isinstance b_str (by decide +kernel) (by decide) (m_var 0)) (m_one (m_cmp (mo_eq (huR hr)) (m_var 0) (m_var 1)))))) ms_nil) (ms_cons (ms_if (m_tw (mw_or (m_tval (m_isi (n := "bool") b_isinstance b_bool (by decide +kernel) (by decide) (m_var 1))) (mw_or1 (m_tval (m_isi (n := "bool") b_isinstance b_bool (by decide +kernel) (by decide) (m_var 0)))))) (ms_one (ms_ret (m_and (m_isi (n := "bool") b_isinstance b_bool (by decide +kernel) (by decide) (m_var 1)) (m_and (m_isi (n := "bool") b_isinstance b_bool (by decide +kernel) (by decide) (m_var 0)) (m_one (m_cmp (mo_eq (huR hr)) (m_var 0) (m_var 1))))))) ms_nil) (ms_one (ms_ret (m_and (m_isi (n := "int") b_isinstance b_int (by decide +kernel) (by decide) (m_var 0)) (m_one (m_cmp (mo_eq (huR hr)) (m_var 0) (m_var 1))))))))))
theorem nofn0 {P : Program} {w : World} {K : PySem.W.Frag} {mg : Str → Option Value} {base : Heap} {k : Nat} {f : Addr} {fd : FuncData} {ps : List Str} : FnOk P w K mg base (L2.CX P w) k f fd ps (liftSp K mg (sp_l_same 0)) := nofn fun _ _ _ _ h => h
theorem ok_l_same {P : Program} {w : World} {K : PySem.W.Frag} {mg : Str → Option Value} {base : Heap} {k n : Nat} {f : Addr} {fd : FuncData} (F : FnP K "_law_same" s_l_same f fd) (g : mg ("_law_same" : Str) = some (.ref f))
  (b_isinstance : mg ("isinstance" : Str) = none)
  (b_tuple : mg ("tuple" : Str) = none)
  (b_list : mg ("list" : Str) = none)
  (b_len : mg ("len" : Str) = none)
  (b_range : mg ("range" : Str) = none)
  (f_l_same : FnD P w K mg base k ("_law_same" : Str) (sp_l_same n))
  (b_str : mg ("str" : Str) = none)
  (b_bool : mg ("bool" : Str) = none)
  (b_int : mg ("int" : Str) = none)
  : FnD P w K mg base (k + 2) ("_law_same" : Str) (sp_l_same (n + 1)) :=
  ⟨f, fd, ["_law_found", "_law_due"], g, F.kp, FunD.bindsN F fun _ _ _ _ _ _ us hl => match us, hl with | [_, _], _ => rfl, L3.fn_ok (He5.fun_of F) sc_l_same (t_l_same n) (len_l_same n) (walk_l_same n) fun cdv A outer s H E hr => der_l_same (n := n) b_isinstance b_tuple b_list b_len b_range f_l_same b_str b_bool b_int hr⟩
theorem ok_l_same0 {P : Program} {w : World} {K : PySem.W.Frag} {mg : Str → Option Value} {base : Heap} {k : Nat} {f : Addr} {fd : FuncData} (F : FnP K "_law_same" s_l_same f fd) (g : mg ("_law_same" : Str) = some (.ref f)) : FnD P w K mg base k ("_law_same" : Str) (sp_l_same 0) :=
  ⟨f, fd, ["_law_found", "_law_due"], g, F.kp, FunD.bindsN F fun _ _ _ _ _ _ us hl => match us, hl with | [_, _], _ => rfl, nofn0⟩
abbrev s_law : Stmt := topS 18
theorem sc_law : FnScope ["_law_script", "_law_state", "_law_many", "_law_number", "_law_kind", "_law_plain", "_law_k", "_law_way", "_law_due", "_law_power"] ["_law_script"] (defScope s_law) := ⟨rfl, rfl, rfl, by decide +kernel, rfl, by decide +kernel, by decide +kernel⟩
theorem der_law {P : Program} {w : World} {K : PySem.W.Frag} {mg : Str → Option Value} {base : Heap} {k n : Nat} {f : Addr} {cdv : Value} {A : Around} {outer : List Env} {s : Shared} {H : Hp} {E : XK}
  (f_l_start : FnD P w K mg base k ("_law_start" : Str) sp_l_start)
  (f_l_drawn : FnD P w K mg base k ("_law_drawn" : Str) sp_l_drawn)
  (b_range : mg ("range" : Str) = none)
  (b_tuple : mg ("tuple" : Str) = none)
  (f_holds : FnD P w K mg base k ("holds" : Str) sp_holds)
  (f_l_same : FnD P w K mg base k ("_law_same" : Str) (sp_l_same 1))
  (f_unlike : FnD P w K mg base k ("unlike" : Str) sp_unlike)
  (hr : Room (k + 1) (A.deeper (envOfC "law" (defScope s_law) s.heap.objs.size f cdv))) : MSs (cxOf (L2.CX P w) P w K mg base ["_law_script", "_law_state", "_law_many", "_law_number", "_law_kind", "_law_plain", "_law_k", "_law_way", "_law_due", "_law_power"] "law" (defScope s_law) f cdv A outer s H E) (fun cls d _ H => E cls d H) (defBody s_law) t_law :=
  (ms_cons (ms_asg (m_call f_l_start (hr.mono (Nat.le_succ _)) (takes_of rfl rfl rfl rfl) (ma_cons (m_var 0) ma_nil)) (mg_name (j := 1) sc_law.nd)) (ms_cons (ms_asg (m_call f_l_drawn (hr.mono (Nat.le_succ _)) (takes_of rfl rfl rfl rfl) (ma_cons (m_var 1) (ma_cons m_int ma_nil))) (mg_name (j := 2) sc_law.nd)) (ms_cons (ms_for (passes_of rfl) rfl (mi_lst (m_comp rfl sc_law.nd (own := [("_law_k", 6)]) (ct := (.one 6)) (mi_rng1 b_range m_int) (blkOk_by (N := ["_law_script", "_law_state", "_law_many", "_law_number", "_law_kind", "_law_plain", "_law_k", "_law_way", "_law_due", "_law_power"]) (sc := defScope s_law) (by decide +kernel)) (fun _ _ _ _ _ => pg_name (i := 6) sc_law.nd rfl (Or.inl rfl)) (fun _ _ _ _ _ => mts_nil) (fun _ _ _ _ _ => (m_op mo_mod (m_op mo_add (m_var 2) (m_op mo_mul m_int (m_var 6))) m_int)))) (mg_name (j := 3) sc_law.nd) (ms_cons (ms_asg (m_Ty mc_tuple b_tuple (by decide +kernel) (ma_cons (m_comp rfl sc_law.nd (own := [("_law_power", 9)]) (ct := (.one 9)) (mi_tup (m_tup (ma_cons m_int (ma_cons m_int (ma_cons m_int (ma_cons m_int (ma_cons m_int (ma_cons m_int (ma_cons m_int ma_nil))))))))) (blkOk_by (N := ["_law_script", "_law_state", "_law_many", "_law_number", "_law_kind", "_law_plain", "_law_k", "_law_way", "_law_due", "_law_power"]) (sc := defScope s_law) (by decide +kernel)) (fun _ _ _ _ _ => pg_name (i := 9) sc_law.nd rfl (Or.inl rfl)) (fun _ _ _ _ _ => mts_nil) (fun _ _ _ _ _ => (m_cmp (mo_eq (huR hr)) (m_op mo_mod (m_op mo_fdiv (m_var 3) (m_var 9)) m_int) m_int))) ma_nil)) (mg_name (j := 4) sc_law.nd)) (ms_cons (ms_asg (m_cmp (mo_eq (huR hr)) (m_comp rfl sc_law.nd (own := [("_law_k", 6)]) (ct := (.one 6)) (mi_rng1 b_range m_int) (blkOk_by (N := ["_law_script", "_law_state", "_law_many", "_law_number", "_law_kind", "_law_plain", "_law_k", "_law_way", "_law_due", "_law_power"]) (sc := defScope s_law) (by decide +kernel)) (fun _ _ _ _ _ => pg_name (i := 6) sc_law.nd rfl (Or.inl rfl)) (fun _ _ _ _ _ => (mts_one (m_tcmp (mo_ne (huR hr)) (m_var 6) m_int))) (fun _ _ _ _ _ => (m_ix (m_var 4) (m_var 6)))) (m_op mo_mul (m_lst (ma_cons m_bl ma_nil)) m_int)) (mg_name (j := 5) sc_law.nd)) (ms_one (ms_for (passes_of rfl) rfl (mi_lst (m_lst (ma_cons (m_tup (ma_cons m_str (ma_cons (m_var 5) ma_nil))) (ma_cons (m_tup (ma_cons m_str (ma_cons (m_and (m_ix (m_var 4) m_int) (m_one (m_ix (m_var 4) m_int))) ma_nil))) ma_nil)))) (mg_tup (n := 2) rfl (mgs_cons (mg_name (j := 7) sc_law.nd) (mgs_cons (mg_name (j := 8) sc_law.nd) mgs_nil))) (ms_one (ms_if (m_tw (mw_or (m_tnot (m_tval (m_call f_l_same (hr.mono (Nat.le_succ _)) (takes_of rfl rfl rfl rfl) (ma_cons (m_call f_holds (hr.mono (Nat.le_succ _)) (takes_of rfl rfl rfl rfl) (ma_cons (m_var 4) (ma_cons (m_var 7) ma_nil))) (ma_cons (m_var 8) ma_nil))))) (mw_or1 (m_tcmp (mo_ne (huR hr)) (m_isN (m_call f_unlike (hr.mono (Nat.le_succ _)) (takes_of rfl rfl rfl rfl) (ma_cons (m_var 4) (ma_cons (m_var 7) ma_nil)))) (m_var 8))))) (ms_one (ms_ret m_bl)) ms_nil))))))) (ms_one (ms_ret m_bl)))))
theorem ok_law {P : Program} {w : World} {K : PySem.W.Frag} {mg : Str → Option Value} {base : Heap} {k n : Nat} {f : Addr} {fd : FuncData} (F : FnP K "law" s_law f fd) (g : mg ("law" : Str) = some (.ref f))
  (f_l_start : FnD P w K mg base k ("_law_start" : Str) sp_l_start)
  (f_l_drawn : FnD P w K mg base k ("_law_drawn" : Str) sp_l_drawn)
  (b_range : mg ("range" : Str) = none)
  (b_tuple : mg ("tuple" : Str) = none)
  (f_holds : FnD P w K mg base k ("holds" : Str) sp_holds)
  (f_l_same : FnD P w K mg base k ("_law_same" : Str) (sp_l_same 1))
  (f_unlike : FnD P w K mg base k ("unlike" : Str) sp_unlike)
  : FnD P w K mg base (k + 2) ("law" : Str) sp_law :=
  ⟨f, fd, ["_law_script"], g, F.kp, FunD.bindsN F fun _ _ _ _ _ _ us hl => match us, hl with | [_], _ => rfl, L3.fn_ok (He5.fun_of F) sc_law t_law (len_law) (walk_law) fun cdv A outer s H E hr => der_law (n := n) f_l_start f_l_drawn b_range b_tuple f_holds f_l_same f_unlike hr⟩
theorem law_fnok {P : Program} {w : World} {K : PySem.W.Frag} {mg : Str → Option Value} {base : Heap} {f : Addr} {fd : FuncData} (F : FnP K "law" s_law f fd) (g : mg ("law" : Str) = some (.ref f))
  (f_l_start : FnD P w K mg base 6 ("_law_start" : Str) sp_l_start)
  (f_l_drawn : FnD P w K mg base 6 ("_law_drawn" : Str) sp_l_drawn)
  (b_range : mg ("range" : Str) = none)
  (b_tuple : mg ("tuple" : Str) = none)
  (f_holds : FnD P w K mg base 6 ("holds" : Str) sp_holds)
  (f_l_same : FnD P w K mg base 6 ("_law_same" : Str) (sp_l_same 1))
  (f_unlike : FnD P w K mg base 6 ("unlike" : Str) sp_unlike)
  : FnOk P w K mg base (L2.CX P w) 8 f fd ["_law_script"] (liftSp K mg sp_law) :=
  L3.fn_ok (He5.fun_of F) sc_law t_law len_law walk_law fun cdv A outer s H E hr => der_law (n := 0) f_l_start f_l_drawn b_range b_tuple f_holds f_l_same f_unlike hr
/-! ### the head -/
def dd_need_kind : He.DefD := ⟨("need_kind", none), "need_kind", "need_kind", defArgs s_need_kind, defBody s_need_kind, defScope s_need_kind, [], []⟩
def dd_lacking : He.DefD := ⟨("lacking", none), "lacking", "lacking", defArgs s_lacking, defBody s_lacking, defScope s_lacking, [], []⟩
def dd_holds : He.DefD := ⟨("holds", none), "holds", "holds", defArgs s_holds, defBody s_holds, defScope s_holds, [], []⟩
def dd_unlike : He.DefD := ⟨("unlike", none), "unlike", "unlike", defArgs s_unlike, defBody s_unlike, defScope s_unlike, [], []⟩
def dd_l_start : He.DefD := ⟨("_law_start", none), "_law_start", "_law_start", defArgs s_l_start, defBody s_l_start, defScope s_l_start, [], []⟩
def dd_l_drawn : He.DefD := ⟨("_law_drawn", none), "_law_drawn", "_law_drawn", defArgs s_l_drawn, defBody s_l_drawn, defScope s_l_drawn, [], []⟩
def dd_l_same : He.DefD := ⟨("_law_same", none), "_law_same", "_law_same", defArgs s_l_same, defBody s_l_same, defScope s_l_same, [], []⟩
def dd_law : He.DefD := ⟨("law", none), "law", "law", defArgs s_law, defBody s_law, defScope s_law, [], []⟩
def fns : List He.DefD := [dd_need_kind, dd_lacking, dd_holds, dd_unlike, dd_l_start, dd_l_drawn, dd_l_same, dd_law]
def fas : List He.Fa := [.glo "need_kind", .glo "lacking", .glo "holds", .glo "unlike", .glo "_law_start", .glo "_law_drawn", .glo "_law_same", .glo "law", .free "isinstance", .free "tuple", .free "len", .free "bool", .free "enumerate", .free "list", .free "range", .free "str", .free "int", .glo "BadKind", .exc "BadKind", .glo "BadWay", .exc "BadWay"]
def tss : List He.Tab := [(fun K => He.ga K "NEEDED", ["plain", "through"])]
def exs (K : PySem.W.Frag) : Bool := (konB K "OWN_ORDER" c_OWN_ORDER) && ((konB K "ENTERS" c_ENTERS) && ((konB K "LEAST_CELLS" c_LEAST_CELLS) && ((kdB K "NEEDED" kv_NEEDED))))
abbrev RR : PySem.W.OpenRow := PySem.W.OpenLaw.row PySem.Challenge.rw_guestworlds_k12_which_kinds_hold
abbrev hk : PySem.W.Hook := He.hookX 4 fas fns tss [] exs
def ob (s : PySem.W.SharedT) : He.AlX := He.obsX 4 fas fns tss [] exs (HandSHeadRun.getT s)
theorem ob_eq (s : PySem.W.SharedT) : ob s = hk.obs s.abs := He.obsX_eq (HandSHeadRun.getT_eq s)
def loose : List Str := ["WorldError", "BadKind", "BadWay", "LEAST_CELLS", "OWN_ORDER", "need_kind", "NEEDED", "ENTERS", "lacking", "holds", "unlike", "_law_start", "_law_drawn", "_law_same"]
theorem run (w : World) : HandSHeadRun.RunEq RR (PySem.W.view RR.prog [18]) hk ob 4000 loose w := by
  refine PySem.W.byRow2 "special-get-raises" (P := fun w => HandSHeadRun.RunEq RR (PySem.W.view RR.prog [18]) hk ob 4000 loose w) (fun w => ?_) (fun w => ?_) w <;> (intro os; kernel_rfl)
theorem facts {P : Program} {w : World} {K : PySem.W.Frag} {h : Heap} {mg : Str → Option Value} {f : Addr} (X : K.In h) (G : h.Ns mainGlobals mg) (hfa : mg ("law" : Str) = some (.ref f)) (c : He.SaysX fas fns tss [] exs w h K) :
    ∃ fd : FuncData, (∀ (s : Shared) (v : Value), BindsTo s fd ⟨[v], []⟩ [("_law_script", v)]) ∧ ∀ base : Heap, K.In base → base.Ns mainGlobals mg → FnOk P w K mg base (L2.CX P w) 8 f fd ["_law_script"] (liftSp K mg sp_law) := by
  have cd := c.t.d
  have e := hfa.symm.trans (He.glo_ok X G (cd.fact 7 (f := .glo "law") rfl))
  cases e
  obtain ⟨fd_need_kind, F_need_kind⟩ := cd.def_ 0 (d := dd_need_kind) rfl
  have g_need_kind := He.glo_ok X G (cd.fact 0 (f := .glo "need_kind") rfl)
  obtain ⟨fd_lacking, F_lacking⟩ := cd.def_ 1 (d := dd_lacking) rfl
  have g_lacking := He.glo_ok X G (cd.fact 1 (f := .glo "lacking") rfl)
  obtain ⟨fd_holds, F_holds⟩ := cd.def_ 2 (d := dd_holds) rfl
  have g_holds := He.glo_ok X G (cd.fact 2 (f := .glo "holds") rfl)
  obtain ⟨fd_unlike, F_unlike⟩ := cd.def_ 3 (d := dd_unlike) rfl
  have g_unlike := He.glo_ok X G (cd.fact 3 (f := .glo "unlike") rfl)
  obtain ⟨fd_l_start, F_l_start⟩ := cd.def_ 4 (d := dd_l_start) rfl
  have g_l_start := He.glo_ok X G (cd.fact 4 (f := .glo "_law_start") rfl)
  obtain ⟨fd_l_drawn, F_l_drawn⟩ := cd.def_ 5 (d := dd_l_drawn) rfl
  have g_l_drawn := He.glo_ok X G (cd.fact 5 (f := .glo "_law_drawn") rfl)
  obtain ⟨fd_l_same, F_l_same⟩ := cd.def_ 6 (d := dd_l_same) rfl
  have g_l_same := He.glo_ok X G (cd.fact 6 (f := .glo "_law_same") rfl)
  obtain ⟨fd_law, F_law⟩ := cd.def_ 7 (d := dd_law) rfl
  have g_law := He.glo_ok X G (cd.fact 7 (f := .glo "law") rfl)
  have b_isinstance := He.free_ok X G (cd.fact 8 (f := .free "isinstance") rfl)
  have b_tuple := He.free_ok X G (cd.fact 9 (f := .free "tuple") rfl)
  have b_len := He.free_ok X G (cd.fact 10 (f := .free "len") rfl)
  have b_bool := He.free_ok X G (cd.fact 11 (f := .free "bool") rfl)
  have b_enumerate := He.free_ok X G (cd.fact 12 (f := .free "enumerate") rfl)
  have b_list := He.free_ok X G (cd.fact 13 (f := .free "list") rfl)
  have b_range := He.free_ok X G (cd.fact 14 (f := .free "range") rfl)
  have b_str := He.free_ok X G (cd.fact 15 (f := .free "str") rfl)
  have b_int := He.free_ok X G (cd.fact 16 (f := .free "int") rfl)
  have r_BadKind := rsd_of X G (cd.fact 17 (f := .glo "BadKind") rfl) (cd.fact 18 (f := .exc "BadKind") rfl)
  have r_BadWay := rsd_of X G (cd.fact 19 (f := .glo "BadWay") rfl) (cd.fact 20 (f := .exc "BadWay") rfl)
  have m := c.more
  obtain ⟨x_k_OWN_ORDER, m0⟩ := He.ba m
  obtain ⟨x_k_ENTERS, m1⟩ := He.ba m0
  obtain ⟨x_k_LEAST_CELLS, m2⟩ := He.ba m1
  have x_kd_NEEDED := m2
  have k_OWN_ORDER := konB_ok X G x_k_OWN_ORDER
  have k_ENTERS := konB_ok X G x_k_ENTERS
  have k_LEAST_CELLS := konB_ok X G x_k_LEAST_CELLS
  obtain ⟨es_NEEDED, n_NEEDED, T_NEEDED⟩ := c.t.tab 0 (t := (fun K => He.ga K "NEEDED", ["plain", "through"])) rfl
  have kd_NEEDED := kdB_ok X G x_kd_NEEDED T_NEEDED
  refine ⟨fd_law, fun s v => FunD.bindsA (ps := ["_law_script"]) F_law (fun _ _ _ _ _ _ us hl => match us, hl with | [_], _ => rfl) s [v] rfl, fun base _ _ => ?_⟩
  have f_need_kind : FnD P w K mg base 2 "need_kind" sp_need_kind := ok_need_kind (k := 0) (n := 0) F_need_kind g_need_kind b_isinstance b_tuple b_len k_OWN_ORDER b_bool r_BadKind
  have f_lacking : FnD P w K mg base 4 "lacking" sp_lacking := ok_lacking (k := 2) (n := 0) F_lacking g_lacking (f_need_kind.mono (by decide)) kd_NEEDED r_BadWay b_enumerate k_OWN_ORDER
  have f_holds : FnD P w K mg base 6 "holds" sp_holds := ok_holds (k := 4) (n := 0) F_holds g_holds (f_lacking.mono (by decide))
  have f_unlike : FnD P w K mg base 6 "unlike" sp_unlike := ok_unlike (k := 4) (n := 0) F_unlike g_unlike (f_lacking.mono (by decide)) k_ENTERS k_LEAST_CELLS b_len
  have f_l_start : FnD P w K mg base 2 "_law_start" sp_l_start := ok_l_start (k := 0) (n := 0) F_l_start g_l_start
  have f_l_drawn : FnD P w K mg base 2 "_law_drawn" sp_l_drawn := ok_l_drawn (k := 0) (n := 0) F_l_drawn g_l_drawn b_len
  have f_l_same : FnD P w K mg base 2 "_law_same" (sp_l_same 1) := ok_l_same (k := 0) (n := 0) F_l_same g_l_same b_isinstance b_tuple b_list b_len b_range (ok_l_same0 F_l_same g_l_same) b_str b_bool b_int
  exact law_fnok F_law g_law (f_l_start.mono (by decide)) (f_l_drawn.mono (by decide)) b_range b_tuple (f_holds.mono (by decide)) (f_l_same.mono (by decide)) (f_unlike.mono (by decide))
end L3
open PySem PySem.W PySem.Calls PyProof.Rows
theorem PySem.Challenge.cw_guestworlds_k12_which_kinds_hold_holds : PySem.Challenge.rw_guestworlds_k12_which_kinds_hold.Holds := by
  w_on; o_law
  refine HandSHeadRun.head_any (r := OpenLaw.row PySem.Challenge.rw_guestworlds_k12_which_kinds_hold) (q := view (OpenLaw.row PySem.Challenge.rw_guestworlds_k12_which_kinds_hold).prog [18]) (H := L3.hk) (ob := L3.ob) (M := 4000) (loose := L3.loose) (d := HandSHeadRun.topDef (OpenLaw.row PySem.Challenge.rw_guestworlds_k12_which_kinds_hold).prog 18) (kwd := []) L3.ob_eq
    (by kernel_rfl) (fun s => by kernel_rfl) L3.run (by kernel_rfl) (by kernel_rfl) (by kernel_rfl) (by rfl) (by first | assumption | decide +kernel) (by decide +kernel) ⟨rfl, rfl, rfl, rfl, rfl, by decide +kernel⟩ ?hw ?hc
  case hw => w_witness2
  case hc =>
    refine L3.walk_ofW (l := PySem.Challenge.rw_guestworlds_k12_which_kinds_hold) (n := 63) (k := 8) (x := "_law_script") rfl (by decide) (by kernel_rfl) ⟨rfl, by decide, by decide⟩ ?F
    intro w mg fa h Y G hmg0
    obtain ⟨K, KX, c⟩ := Y
    have hmg : mg ("law" : PySem.Str) = some (.ref fa) := by
      have e : (HandSHeadRun.topDef (OpenLaw.row PySem.Challenge.rw_guestworlds_k12_which_kinds_hold).prog 18).name = ("law" : PySem.Str) := by kernel_rfl
      rw [← e]
      exact hmg0
    obtain ⟨fd, hb, hF⟩ := L3.facts (P := (PySem.Challenge.rw_guestworlds_k12_which_kinds_hold).prog) (w := w) KX G hmg c
    exact ⟨K, fd, L3.liftSp K mg L3.sp_law, KX, hb, fun H a ns hl hO hS => L3.sp_end hO hS (L3.law_pre ns hl), hF⟩
