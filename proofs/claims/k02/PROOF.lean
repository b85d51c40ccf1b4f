import PyProof.Rows.All
import Wide.All
import OpenK.AllK
import Wide.FinOn
import HandS.ForMost
import HandS.ForExc
import HandS.TryMany
import HandS.Defaults
import HandS.HeadHook2
import HandS.Wide
import HandS.Style
import HandS.List
import HandS.Conv
import KE.DataEq
import PyProof.StrOps2
import HandS.IsInst
import PyProof.SliceStr2
import HandS.Rev
import HandS.Rindex
import HandS.Words
import HandS.ExcOwn
import HandS.WordsExc
import HandS.Head0
import HandS.Head1
import HandS.Head2
import HandS.HeadEnd
import HandS.HeadHook1
import HandS.HeadHook3
import HandS.EndBits
import HandS.Codes
import PySem.Challenge.RW_heddlebook_k02_endless_cloths
set_option Elab.async false
set_option linter.all false
set_option maxRecDepth 100000
namespace DL
open PySem PySem.Spec PyProof.Rows L2

/-! ## data -/
inductive D where
  | non | bl (b : Bool) | int (i : Int) | str (s : List Nat) | lst (xs : List D) | tup (xs : List D)
  | dic (kvs : List (D × D)) | obj (c : Str) (fs : List (Str × D)) | exn (c : Str) (fs : List (Str × D)) | scr (ns : List Int)

/-- what a piece of code yields: a value, an exception of the program's (class, fields), or nothing is said -/
inductive R (α : Type) where
  | ok (a : α) | ex (c : Str) (fs : List (Str × D)) | st
def R.bind {α β : Type} (r : R α) (f : α → R β) : R β := match r with
  | .ok a => f a
  | .ex c fs => .ex c fs
  | .st => .st
def R.ofO {α : Type} (o : Option α) : R α := match o with
  | some a => .ok a
  | none => .st
@[simp] theorem R.bind_ok {α β : Type} (a : α) (f : α → R β) : (R.ok a).bind f = f a := rfl
@[simp] theorem R.bind_ex {α β : Type} (c : Str) (fs : List (Str × D)) (f : α → R β) : (R.ex c fs).bind f = .ex c fs := rfl
@[simp] theorem R.bind_st {α β : Type} (f : α → R β) : (R.st : R α).bind f = .st := rfl
@[simp] theorem R.ofO_some {α : Type} (a : α) : R.ofO (some a) = .ok a := rfl
@[simp] theorem R.ofO_none {α : Type} : R.ofO (none : Option α) = .st := rfl

/-! ## hiding -/
open Classical in
noncomputable def cut (H : Hp) (p : Addr → Prop) : Hp := fun a => if p a then none else H a
theorem cut_out {H : Hp} {p : Addr → Prop} {a : Addr} (h : ¬ p a) : cut H p a = H a := by unfold cut; rw [if_neg h]
theorem cut_in {H : Hp} {p : Addr → Prop} {a : Addr} (h : p a) : cut H p a = none := by unfold cut; rw [if_pos h]
theorem cut_some {H : Hp} {p : Addr → Prop} {a : Addr} {o : HO} (h : cut H p a = some o) : ¬ p a ∧ H a = some o := by
  by_cases hp : p a
  · rw [cut_in hp] at h; cases h
  · rw [cut_out hp] at h; exact ⟨hp, h⟩
theorem cut_of {H : Hp} {p : Addr → Prop} {a : Addr} {o : HO} (hp : ¬ p a) (h : H a = some o) : cut H p a = some o := by rw [cut_out hp]; exact h
theorem cut_same {H : Hp} {p : Addr → Prop} : Same (cut H p) H := fun a o h => (cut_some h).2
theorem cut_mono {H H' : Hp} {p q : Addr → Prop} (hs : Same H H') (hp : ∀ a, q a → p a) : Same (cut H p) (cut H' q) := fun a o h => by
  obtain ⟨h1, h2⟩ := cut_some h
  exact cut_of (fun z => h1 (hp a z)) (hs a o h2)

theorem Rd.same {H H' : Hp} {a : Addr} {u : HO} (e : Same H H') (h : Rd H a u) : Rd H' a u := by
  rcases h with h | ⟨o, h⟩
  · exact .inl (e a _ h)
  · exact .inr ⟨o, e a _ h⟩
theorem SqT.same {K : PySem.W.Frag} {H H' : Hp} {a : Addr} {xs : List V} (e : Same H H') (h : SqT K H a xs) : SqT K H' a xs := by
  rcases h with h | h
  · exact .inl (Rd.same e h)
  · exact .inr h

/-! ## a value reads as data over a heap that does not change -/
/-- the exception that is being handled -/
abbrev Hot := Option (Addr × Value × Option Addr)
/-- the written part, the module's names, the exception in hand -/
structure Wd where
  K : PySem.W.Frag
  mg : Str → Option Value
  hot : Hot
/-- a field's value that needs no heap -/
def FlatV : V → D → Prop
  | .non, .non => True
  | .bl b, .bl c => b = c
  | .int i, .int j => i = j
  | .str x, .str y => x.cps.toList = y
  | _, _ => False
def ExF (vfs : List (Str × V)) (fs : List (Str × D)) : Prop := ∀ f d, fs.lookup f = some d → ∃ v, vfs.lookup f = some v ∧ FlatV v d
def kD : Key → D
  | .inl i => .int i
  | .inr x => .str x.cps.toList
mutual
inductive Rep (P : Wd) (G : Hp) : V → D → Prop
  | non : Rep P G .non .non
  | bl (b : Bool) : Rep P G (.bl b) (.bl b)
  | int (i : Int) : Rep P G (.int i) (.int i)
  | str (x : Str) : Rep P G (.str x) (.str x.cps.toList)
  | lst {a : Addr} {xs : List V} {ds : List D} : G a = some (.lst xs) → RepL P G xs ds → Rep P G (.ref a) (.lst ds)
  | tup {a : Addr} {xs : List V} {ds : List D} : SqT P.K G a xs → RepL P G xs ds → Rep P G (.ref a) (.tup ds)
  | dic {a : Addr} {kvs : List (Key × V)} {ds : List (D × D)} : G a = some (.dK kvs) → RepK P G kvs ds → Rep P G (.ref a) (.dic ds)
  | dicT {a : Addr} {kvs : List (List Key × V)} {ds : List (D × D)} : G a = some (.dT kvs) → RepT P G kvs ds → Rep P G (.ref a) (.dic ds)
  | obj {a C dx : Addr} {c : Str} {fs : List (Str × V)} {ds : List (Str × D)} : P.mg c = some (.ref C) → G a = some (.ins C dx fs) → RepF P G fs ds → Rep P G (.ref a) (.obj c ds)
  | exn {a C dx : Addr} {c : Str} {vfs : List (Str × V)} {fs : List (Str × D)} : P.hot = some (a, .ref C, some dx) → P.mg c = some (.ref C) → G dx = some (.xd vfs) → ExF vfs fs → Rep P G (.ref a) (.exn c fs)
  | scr {a : Addr} {ns : List Int} : SqL P.K G a (ns.map V.int) → Rep P G (.ref a) (.scr ns)
inductive RepL (P : Wd) (G : Hp) : List V → List D → Prop
  | nil : RepL P G [] []
  | cons {v : V} {vs : List V} {d : D} {ds : List D} : Rep P G v d → RepL P G vs ds → RepL P G (v :: vs) (d :: ds)
inductive RepK (P : Wd) (G : Hp) : List (Key × V) → List (D × D) → Prop
  | nil : RepK P G [] []
  | cons {k : Key} {v : V} {vs : List (Key × V)} {d : D} {ds : List (D × D)} : Rep P G v d → RepK P G vs ds → RepK P G ((k, v) :: vs) ((kD k, d) :: ds)
inductive RepT (P : Wd) (G : Hp) : List (List Key × V) → List (D × D) → Prop
  | nil : RepT P G [] []
  | cons {k : List Key} {v : V} {vs : List (List Key × V)} {d : D} {ds : List (D × D)} : Rep P G v d → RepT P G vs ds → RepT P G ((k, v) :: vs) ((.tup (k.map kD), d) :: ds)
inductive RepF (P : Wd) (G : Hp) : List (Str × V) → List (Str × D) → Prop
  | nil : RepF P G [] []
  | cons {f : Str} {v : V} {vs : List (Str × V)} {d : D} {ds : List (Str × D)} : Rep P G v d → RepF P G vs ds → RepF P G ((f, v) :: vs) ((f, d) :: ds)
end
section
variable {P : Wd} {G G' : Hp}
mutual
theorem Rep.mono (s : Same G G') : ∀ (d : D) (v : V), Rep P G v d → Rep P G' v d
  | .non, _, h => by cases h; exact .non
  | .bl _, _, h => by cases h; exact .bl _
  | .int _, _, h => by cases h; exact .int _
  | .str _, _, h => by cases h; exact .str _
  | .lst ds, _, h => by
    cases h with
    | lst h1 h2 => exact .lst (s _ _ h1) (RepL.mono s ds _ h2)
  | .tup ds, _, h => by
    cases h with
    | tup h1 h2 => exact .tup (SqT.same s h1) (RepL.mono s ds _ h2)
  | .dic ds, _, h => by
    cases h with
    | dic h1 h2 => exact .dic (s _ _ h1) (RepK.mono s ds _ h2)
    | dicT h1 h2 => exact .dicT (s _ _ h1) (RepT.mono s ds _ h2)
  | .obj c ds, _, h => by
    cases h with
    | obj h0 h1 h2 => exact .obj h0 (s _ _ h1) (RepF.mono s ds _ h2)
  | .exn c ds, _, h => by
    cases h with
    | exn h0 h1 h2 h3 => exact .exn h0 h1 (s _ _ h2) h3
  | .scr ns, _, h => by
    cases h with
    | scr h1 => exact .scr (Same.seq s h1)
theorem RepL.mono (s : Same G G') : ∀ (ds : List D) (vs : List V), RepL P G vs ds → RepL P G' vs ds
  | [], _, h => by cases h; exact .nil
  | d :: ds, _, h => by
    cases h with
    | cons h1 h2 => exact .cons (Rep.mono s d _ h1) (RepL.mono s ds _ h2)
theorem RepK.mono (s : Same G G') : ∀ (ds : List (D × D)) (vs : List (Key × V)), RepK P G vs ds → RepK P G' vs ds
  | [], _, h => by cases h; exact .nil
  | (_, d) :: ds, _, h => by
    cases h with
    | cons h1 h2 => exact .cons (Rep.mono s d _ h1) (RepK.mono s ds _ h2)
theorem RepT.mono (s : Same G G') : ∀ (ds : List (D × D)) (vs : List (List Key × V)), RepT P G vs ds → RepT P G' vs ds
  | [], _, h => by cases h; exact .nil
  | (_, d) :: ds, _, h => by
    cases h with
    | cons h1 h2 => exact .cons (Rep.mono s d _ h1) (RepT.mono s ds _ h2)
theorem RepF.mono (s : Same G G') : ∀ (ds : List (Str × D)) (vs : List (Str × V)), RepF P G vs ds → RepF P G' vs ds
  | [], _, h => by cases h; exact .nil
  | (_, d) :: ds, _, h => by
    cases h with
    | cons h1 h2 => exact .cons (Rep.mono s d _ h1) (RepF.mono s ds _ h2)
end
theorem Rep.up {v : V} {d : D} (h : Rep P G v d) (s : Same G G') : Rep P G' v d := Rep.mono s d v h
theorem RepL.up {v : List V} {d : List D} (h : RepL P G v d) (s : Same G G') : RepL P G' v d := RepL.mono s d v h
theorem RepL.len {ds : List D} : ∀ {vs : List V}, RepL P G vs ds → vs.length = ds.length := by
  induction ds with
  | nil => intro vs h; cases h; rfl
  | cons d ds ih =>
    intro vs h
    cases h with
    | cons h1 h2 => rw [List.length_cons, List.length_cons, ih h2]
theorem RepL.get {ds : List D} : ∀ {vs : List V} {i : Nat} {v : V}, RepL P G vs ds → vs[i]? = some v → ∃ d, ds[i]? = some d ∧ Rep P G v d := by
  induction ds with
  | nil => intro vs i v h e; cases h; simp at e
  | cons d ds ih =>
    intro vs i v h e
    cases h with
    | cons h1 h2 =>
      cases i with
      | zero => simp at e; subst e; exact ⟨d, rfl, h1⟩
      | succ i => simpa using ih h2 (by simpa using e)
theorem RepL.getD {ds : List D} {vs : List V} {i : Nat} {d : D} (h : RepL P G vs ds) (e : ds[i]? = some d) : ∃ v, vs[i]? = some v ∧ Rep P G v d := by
  have hl := h.len
  have hi : i < vs.length := by rw [hl]; exact (List.getElem?_eq_some_iff.mp e).1
  obtain ⟨d', e', r⟩ := h.get (List.getElem?_eq_getElem hi)
  rw [e] at e'; cases e'
  exact ⟨_, List.getElem?_eq_getElem hi, r⟩
theorem RepL.append {ds es : List D} : ∀ {vs ws : List V}, RepL P G vs ds → RepL P G ws es → RepL P G (vs ++ ws) (ds ++ es) := by
  induction ds with
  | nil => intro vs ws h g; cases h; exact g
  | cons d ds ih =>
    intro vs ws h g
    cases h with
    | cons h1 h2 => exact .cons h1 (ih h2 g)
theorem RepL.drop {ds : List D} : ∀ {vs : List V} (n : Nat), RepL P G vs ds → RepL P G (vs.drop n) (ds.drop n) := by
  induction ds with
  | nil => intro vs n h; cases h; simp; exact .nil
  | cons d ds ih =>
    intro vs n h
    cases h with
    | cons h1 h2 =>
      cases n with
      | zero => exact .cons h1 h2
      | succ n => exact ih n h2
theorem RepL.take {ds : List D} : ∀ {vs : List V} (n : Nat), RepL P G vs ds → RepL P G (vs.take n) (ds.take n) := by
  induction ds with
  | nil => intro vs n h; cases h; simp; exact .nil
  | cons d ds ih =>
    intro vs n h
    cases h with
    | cons h1 h2 =>
      cases n with
      | zero => exact .nil
      | succ n => exact .cons h1 (ih n h2)
theorem RepL.set {ds : List D} {v : V} {d : D} (r : Rep P G v d) : ∀ {vs : List V} (n : Nat), RepL P G vs ds → RepL P G (vs.set n v) (ds.set n d) := by
  induction ds with
  | nil => intro vs n h; cases h; exact .nil
  | cons d' ds ih =>
    intro vs n h
    cases h with
    | cons h1 h2 =>
      cases n with
      | zero => exact .cons r h2
      | succ n => exact .cons h1 (ih n h2)
theorem RepL.reverse {ds : List D} : ∀ {vs : List V}, RepL P G vs ds → RepL P G vs.reverse ds.reverse := by
  induction ds with
  | nil => intro vs h; cases h; exact .nil
  | cons d ds ih =>
    intro vs h
    cases h with
    | cons h1 h2 =>
      rw [List.reverse_cons, List.reverse_cons]
      exact (ih h2).append (.cons h1 .nil)
theorem RepL.rep {vs : List V} {ds : List D} (h : RepL P G vs ds) : ∀ k : Nat, RepL P G (List.replicate k vs).flatten (List.replicate k ds).flatten
  | 0 => .nil
  | k + 1 => by
    rw [List.replicate_succ, List.replicate_succ, List.flatten_cons, List.flatten_cons]
    exact h.append (h.rep k)
end

/-- nothing below is an object that may change -/
def D.flat : D → Bool
  | .non => true
  | .bl _ => true
  | .int _ => true
  | .str _ => true
  | _ => false
theorem Rep.flat {P P' : Wd} {G G' : Hp} {v : V} {d : D} (h : Rep P G v d) (f : d.flat = true) : Rep P' G' v d := by
  cases h with
  | non => exact .non
  | bl => exact .bl _
  | int => exact .int _
  | str => exact .str _
  | _ => cases f

/-! ## what a slot holds: shared data, or a tree of objects that nobody else holds -/
inductive OD where
  | sh (d : D) | lst (xs : List OD) | dic (kvs : List (D × OD)) | obj (c : Str) (fs : List (Str × OD))
mutual
def OD.er : OD → D
  | .sh d => d
  | .lst xs => .lst (OD.erL xs)
  | .dic kvs => .dic (OD.erK kvs)
  | .obj c fs => .obj c (OD.erF fs)
def OD.erL : List OD → List D
  | [] => []
  | x :: xs => x.er :: OD.erL xs
def OD.erK : List (D × OD) → List (D × D)
  | [] => []
  | (k, x) :: xs => (k, x.er) :: OD.erK xs
def OD.erF : List (Str × OD) → List (Str × D)
  | [] => []
  | (k, x) :: xs => (k, x.er) :: OD.erF xs
end
theorem OD.erL_map : ∀ xs : List OD, OD.erL xs = xs.map OD.er
  | [] => rfl
  | x :: xs => by rw [OD.erL, OD.erL_map xs]; rfl
@[simp] theorem OD.er_sh (d : D) : (OD.sh d).er = d := rfl
@[simp] theorem OD.er_lst (xs : List OD) : (OD.lst xs).er = .lst (xs.map OD.er) := by rw [OD.er, OD.erL_map]
theorem OD.map_sh (ds : List D) : (ds.map OD.sh).map OD.er = ds := by rw [List.map_map]; exact (List.map_congr_left fun _ _ => rfl).trans (List.map_id _)
@[simp] theorem OD.er_lst_sh (ds : List D) : (OD.lst (ds.map OD.sh)).er = .lst ds := by rw [OD.er_lst, OD.map_sh]

mutual
inductive RepO (P : Wd) (G H : Hp) : V → OD → List Addr → Prop
  | sh {v : V} {d : D} : Rep P G v d → RepO P G H v (.sh d) []
  | lst {a : Addr} {vs : List V} {xs : List OD} {A : List Addr} : H a = some (.lst vs) → RepOL P G H vs xs A → RepO P G H (.ref a) (.lst xs) (a :: A)
  | dic {a : Addr} {vs : List (Key × V)} {xs : List (D × OD)} {A : List Addr} : H a = some (.dK vs) → RepOK P G H vs xs A → RepO P G H (.ref a) (.dic xs) (a :: A)
  | dicT {a : Addr} {vs : List (List Key × V)} {xs : List (D × OD)} {A : List Addr} : H a = some (.dT vs) → RepOT P G H vs xs A → RepO P G H (.ref a) (.dic xs) (a :: A)
  | obj {a C dx : Addr} {c : Str} {vs : List (Str × V)} {xs : List (Str × OD)} {A : List Addr} : P.mg c = some (.ref C) → H a = some (.ins C dx vs) → RepOF P G H vs xs A → RepO P G H (.ref a) (.obj c xs) (a :: A)
inductive RepOL (P : Wd) (G H : Hp) : List V → List OD → List Addr → Prop
  | nil : RepOL P G H [] [] []
  | cons {v : V} {vs : List V} {x : OD} {xs : List OD} {A B : List Addr} : RepO P G H v x A → RepOL P G H vs xs B → RepOL P G H (v :: vs) (x :: xs) (A ++ B)
inductive RepOK (P : Wd) (G H : Hp) : List (Key × V) → List (D × OD) → List Addr → Prop
  | nil : RepOK P G H [] [] []
  | cons {k : Key} {v : V} {vs : List (Key × V)} {x : OD} {xs : List (D × OD)} {A B : List Addr} : RepO P G H v x A → RepOK P G H vs xs B → RepOK P G H ((k, v) :: vs) ((kD k, x) :: xs) (A ++ B)
inductive RepOT (P : Wd) (G H : Hp) : List (List Key × V) → List (D × OD) → List Addr → Prop
  | nil : RepOT P G H [] [] []
  | cons {k : List Key} {v : V} {vs : List (List Key × V)} {x : OD} {xs : List (D × OD)} {A B : List Addr} : RepO P G H v x A → RepOT P G H vs xs B → RepOT P G H ((k, v) :: vs) ((.tup (k.map kD), x) :: xs) (A ++ B)
inductive RepOF (P : Wd) (G H : Hp) : List (Str × V) → List (Str × OD) → List Addr → Prop
  | nil : RepOF P G H [] [] []
  | cons {k : Str} {v : V} {vs : List (Str × V)} {x : OD} {xs : List (Str × OD)} {A B : List Addr} : RepO P G H v x A → RepOF P G H vs xs B → RepOF P G H ((k, v) :: vs) ((k, x) :: xs) (A ++ B)
end
section
variable {P : Wd} {G G' H H' : Hp}
/- the shared part grows, the owned objects stay -/
mutual
theorem RepO.mono (s : Same G G') : ∀ (x : OD) (v : V) (A : List Addr), RepO P G H v x A → (∀ a ∈ A, H' a = H a) → RepO P G' H' v x A
  | .sh d, _, _, h, k => by
    cases h with
    | sh r => exact .sh (r.up s)
  | .lst xs, _, _, h, k => by
    cases h with
    | lst h1 h2 => exact .lst ((k _ List.mem_cons_self).trans h1) (RepOL.mono s xs _ _ h2 fun a ha => k a (List.mem_cons_of_mem _ ha))
  | .dic xs, _, _, h, k => by
    cases h with
    | dic h1 h2 => exact .dic ((k _ List.mem_cons_self).trans h1) (RepOK.mono s xs _ _ h2 fun a ha => k a (List.mem_cons_of_mem _ ha))
    | dicT h1 h2 => exact .dicT ((k _ List.mem_cons_self).trans h1) (RepOT.mono s xs _ _ h2 fun a ha => k a (List.mem_cons_of_mem _ ha))
  | .obj c xs, _, _, h, k => by
    cases h with
    | obj h0 h1 h2 => exact .obj h0 ((k _ List.mem_cons_self).trans h1) (RepOF.mono s xs _ _ h2 fun a ha => k a (List.mem_cons_of_mem _ ha))
theorem RepOL.mono (s : Same G G') : ∀ (x : List OD) (v : List V) (A : List Addr), RepOL P G H v x A → (∀ a ∈ A, H' a = H a) → RepOL P G' H' v x A
  | [], _, _, h, k => by cases h; exact .nil
  | x :: xs, _, _, h, k => by
    cases h with
    | cons h1 h2 => exact .cons (RepO.mono s x _ _ h1 fun a ha => k a (List.mem_append_left _ ha)) (RepOL.mono s xs _ _ h2 fun a ha => k a (List.mem_append_right _ ha))
theorem RepOK.mono (s : Same G G') : ∀ (x : List (D × OD)) (v : List (Key × V)) (A : List Addr), RepOK P G H v x A → (∀ a ∈ A, H' a = H a) → RepOK P G' H' v x A
  | [], _, _, h, k => by cases h; exact .nil
  | (_, x) :: xs, _, _, h, k => by
    cases h with
    | cons h1 h2 => exact .cons (RepO.mono s x _ _ h1 fun a ha => k a (List.mem_append_left _ ha)) (RepOK.mono s xs _ _ h2 fun a ha => k a (List.mem_append_right _ ha))
theorem RepOT.mono (s : Same G G') : ∀ (x : List (D × OD)) (v : List (List Key × V)) (A : List Addr), RepOT P G H v x A → (∀ a ∈ A, H' a = H a) → RepOT P G' H' v x A
  | [], _, _, h, k => by cases h; exact .nil
  | (_, x) :: xs, _, _, h, k => by
    cases h with
    | cons h1 h2 => exact .cons (RepO.mono s x _ _ h1 fun a ha => k a (List.mem_append_left _ ha)) (RepOT.mono s xs _ _ h2 fun a ha => k a (List.mem_append_right _ ha))
theorem RepOF.mono (s : Same G G') : ∀ (x : List (Str × OD)) (v : List (Str × V)) (A : List Addr), RepOF P G H v x A → (∀ a ∈ A, H' a = H a) → RepOF P G' H' v x A
  | [], _, _, h, k => by cases h; exact .nil
  | (_, x) :: xs, _, _, h, k => by
    cases h with
    | cons h1 h2 => exact .cons (RepO.mono s x _ _ h1 fun a ha => k a (List.mem_append_left _ ha)) (RepOF.mono s xs _ _ h2 fun a ha => k a (List.mem_append_right _ ha))
end
/- given away: what was owned is shared from here on -/
mutual
theorem RepO.rep (s : Same G G') : ∀ (x : OD) (v : V) (A : List Addr), RepO P G H v x A → (∀ a ∈ A, ∀ o, H a = some o → G' a = some o) → Rep P G' v x.er
  | .sh d, _, _, h, k => by
    cases h with
    | sh r => exact r.up s
  | .lst xs, _, _, h, k => by
    cases h with
    | lst h1 h2 => rw [OD.er]; exact .lst (k _ List.mem_cons_self _ h1) (RepOL.rep s xs _ _ h2 fun a ha => k a (List.mem_cons_of_mem _ ha))
  | .dic xs, _, _, h, k => by
    cases h with
    | dic h1 h2 => rw [OD.er]; exact .dic (k _ List.mem_cons_self _ h1) (RepOK.rep s xs _ _ h2 fun a ha => k a (List.mem_cons_of_mem _ ha))
    | dicT h1 h2 => rw [OD.er]; exact .dicT (k _ List.mem_cons_self _ h1) (RepOT.rep s xs _ _ h2 fun a ha => k a (List.mem_cons_of_mem _ ha))
  | .obj c xs, _, _, h, k => by
    cases h with
    | obj h0 h1 h2 => rw [OD.er]; exact .obj h0 (k _ List.mem_cons_self _ h1) (RepOF.rep s xs _ _ h2 fun a ha => k a (List.mem_cons_of_mem _ ha))
theorem RepOL.rep (s : Same G G') : ∀ (x : List OD) (v : List V) (A : List Addr), RepOL P G H v x A → (∀ a ∈ A, ∀ o, H a = some o → G' a = some o) → RepL P G' v (OD.erL x)
  | [], _, _, h, k => by cases h; exact .nil
  | x :: xs, _, _, h, k => by
    cases h with
    | cons h1 h2 => rw [OD.erL]; exact .cons (RepO.rep s x _ _ h1 fun a ha => k a (List.mem_append_left _ ha)) (RepOL.rep s xs _ _ h2 fun a ha => k a (List.mem_append_right _ ha))
theorem RepOK.rep (s : Same G G') : ∀ (x : List (D × OD)) (v : List (Key × V)) (A : List Addr), RepOK P G H v x A → (∀ a ∈ A, ∀ o, H a = some o → G' a = some o) → RepK P G' v (OD.erK x)
  | [], _, _, h, k => by cases h; exact .nil
  | (_, x) :: xs, _, _, h, k => by
    cases h with
    | cons h1 h2 => rw [OD.erK]; exact .cons (RepO.rep s x _ _ h1 fun a ha => k a (List.mem_append_left _ ha)) (RepOK.rep s xs _ _ h2 fun a ha => k a (List.mem_append_right _ ha))
theorem RepOT.rep (s : Same G G') : ∀ (x : List (D × OD)) (v : List (List Key × V)) (A : List Addr), RepOT P G H v x A → (∀ a ∈ A, ∀ o, H a = some o → G' a = some o) → RepT P G' v (OD.erK x)
  | [], _, _, h, k => by cases h; exact .nil
  | (_, x) :: xs, _, _, h, k => by
    cases h with
    | cons h1 h2 => rw [OD.erK]; exact .cons (RepO.rep s x _ _ h1 fun a ha => k a (List.mem_append_left _ ha)) (RepOT.rep s xs _ _ h2 fun a ha => k a (List.mem_append_right _ ha))
theorem RepOF.rep (s : Same G G') : ∀ (x : List (Str × OD)) (v : List (Str × V)) (A : List Addr), RepOF P G H v x A → (∀ a ∈ A, ∀ o, H a = some o → G' a = some o) → RepF P G' v (OD.erF x)
  | [], _, _, h, k => by cases h; exact .nil
  | (_, x) :: xs, _, _, h, k => by
    cases h with
    | cons h1 h2 => rw [OD.erF]; exact .cons (RepO.rep s x _ _ h1 fun a ha => k a (List.mem_append_left _ ha)) (RepOF.rep s xs _ _ h2 fun a ha => k a (List.mem_append_right _ ha))
end
/- every owned address is tracked -/
mutual
theorem RepO.there : ∀ (x : OD) (v : V) (A : List Addr), RepO P G H v x A → ∀ a ∈ A, H a ≠ none
  | .sh d, _, _, h, a, ha => by cases h; cases ha
  | .lst xs, _, _, h, a, ha => by
    cases h with
    | lst h1 h2 =>
      rcases List.mem_cons.mp ha with rfl | ha
      · rw [h1]; exact nofun
      · exact RepOL.there xs _ _ h2 a ha
  | .dic xs, _, _, h, a, ha => by
    cases h with
    | dic h1 h2 =>
      rcases List.mem_cons.mp ha with rfl | ha
      · rw [h1]; exact nofun
      · exact RepOK.there xs _ _ h2 a ha
    | dicT h1 h2 =>
      rcases List.mem_cons.mp ha with rfl | ha
      · rw [h1]; exact nofun
      · exact RepOT.there xs _ _ h2 a ha
  | .obj c xs, _, _, h, a, ha => by
    cases h with
    | obj h0 h1 h2 =>
      rcases List.mem_cons.mp ha with rfl | ha
      · rw [h1]; exact nofun
      · exact RepOF.there xs _ _ h2 a ha
theorem RepOL.there : ∀ (x : List OD) (v : List V) (A : List Addr), RepOL P G H v x A → ∀ a ∈ A, H a ≠ none
  | [], _, _, h, a, ha => by cases h; cases ha
  | x :: xs, _, _, h, a, ha => by
    cases h with
    | cons h1 h2 =>
      rcases List.mem_append.mp ha with ha | ha
      · exact RepO.there x _ _ h1 a ha
      · exact RepOL.there xs _ _ h2 a ha
theorem RepOK.there : ∀ (x : List (D × OD)) (v : List (Key × V)) (A : List Addr), RepOK P G H v x A → ∀ a ∈ A, H a ≠ none
  | [], _, _, h, a, ha => by cases h; cases ha
  | (_, x) :: xs, _, _, h, a, ha => by
    cases h with
    | cons h1 h2 =>
      rcases List.mem_append.mp ha with ha | ha
      · exact RepO.there x _ _ h1 a ha
      · exact RepOK.there xs _ _ h2 a ha
theorem RepOT.there : ∀ (x : List (D × OD)) (v : List (List Key × V)) (A : List Addr), RepOT P G H v x A → ∀ a ∈ A, H a ≠ none
  | [], _, _, h, a, ha => by cases h; cases ha
  | (_, x) :: xs, _, _, h, a, ha => by
    cases h with
    | cons h1 h2 =>
      rcases List.mem_append.mp ha with ha | ha
      · exact RepO.there x _ _ h1 a ha
      · exact RepOT.there xs _ _ h2 a ha
theorem RepOF.there : ∀ (x : List (Str × OD)) (v : List (Str × V)) (A : List Addr), RepOF P G H v x A → ∀ a ∈ A, H a ≠ none
  | [], _, _, h, a, ha => by cases h; cases ha
  | (_, x) :: xs, _, _, h, a, ha => by
    cases h with
    | cons h1 h2 =>
      rcases List.mem_append.mp ha with ha | ha
      · exact RepO.there x _ _ h1 a ha
      · exact RepOF.there xs _ _ h2 a ha
end
theorem RepOL.sh {vs : List V} {ds : List D} (h : RepL P G vs ds) : RepOL P G H vs (ds.map OD.sh) [] := by
  induction ds generalizing vs with
  | nil => cases h; exact .nil
  | cons d ds ih =>
    cases h with
    | cons h1 h2 => exact .cons (A := []) (.sh h1) (ih h2)
end
end DL
set_option Elab.async false
set_option linter.all false
set_option maxRecDepth 100000
namespace DL
open PySem PySem.Spec PyProof.Rows L2

/-! ## the state -/
/-- what a def's run leans on: hidden addresses O (the callers'), those that it may change A0, the heap at its entry -/
structure Bs where
  P : Wd
  O : Addr → Prop
  A0 : Addr → Prop
  H0 : Hp
abbrev En := List (Option OD)
abbrev Ow := Nat → List Addr
def hid (B : Bs) (As : Ow) (E : List Nat) : Addr → Prop := fun a => B.O a ∨ ∃ i, i ∉ E ∧ a ∈ As i
structure Sta (B : Bs) (σ : L2.St) (H : Hp) (ρ : En) (As : Ow) : Prop where
  len : σ.length = ρ.length
  pt : ∀ (i : Nat) od, ρ[i]? = some (some od) → ∃ v, σ[i]? = some (some v) ∧ RepO B.P (cut H (hid B As [])) H v od (As i)
  nd : ∀ i, (As i).Nodup
  dj : ∀ i j a, a ∈ As i → a ∈ As j → i = j
  ow : ∀ i a, a ∈ As i → B.A0 a ∨ B.H0 a = none
  no : ∀ i a, a ∈ As i → ¬ B.O a
  hs : ∀ i a, a ∈ As i → H a ≠ none
  ob : ∀ a, B.O a → H a ≠ none
  fr : ∀ a o, B.H0 a = some o → ¬ B.A0 a → H a = some o
  th : ∀ a, B.H0 a ≠ none → H a ≠ none
theorem ne_none {H : Hp} {a : Addr} (h : H a ≠ none) : ∃ o, H a = some o := by
  cases e : H a with
  | none => exact absurd e h
  | some o => exact ⟨o, rfl⟩
theorem same_ne {H H' : Hp} (s : Same H H') {a : Addr} (h : H a ≠ none) : H' a ≠ none := by
  obtain ⟨o, e⟩ := ne_none h
  rw [s _ _ e]; exact nofun
section
variable {B : Bs} {σ : L2.St} {H H' : Hp} {ρ : En} {As : Ow} {E E' : List Nat}
theorem Sta.same (S : Sta B σ H ρ As) (s : Same H H') : Sta B σ H' ρ As where
  len := S.len
  pt := fun i od e => by
    obtain ⟨v, e1, r⟩ := S.pt i od e
    refine ⟨v, e1, RepO.mono (cut_mono s fun _ z => z) _ _ _ r fun a ha => ?_⟩
    obtain ⟨o, e⟩ := ne_none (S.hs i a ha)
    rw [e, s _ _ e]
  nd := S.nd
  dj := S.dj
  ow := S.ow
  no := S.no
  hs := fun i a h => same_ne s (S.hs i a h)
  ob := fun a h => same_ne s (S.ob a h)
  fr := fun a o e h => s _ _ (S.fr a o e h)
  th := fun a h => same_ne s (S.th a h)
theorem hid_mono (h : ∀ i ∈ E, i ∈ E') : ∀ a, hid B As E' a → hid B As E a := fun a z => z.imp id fun ⟨i, h1, h2⟩ => ⟨i, fun q => h1 (h i q), h2⟩
theorem Sta.hth (S : Sta B σ H ρ As) : ∀ a, hid B As E a → H a ≠ none := fun a h => by
  rcases h with h | ⟨i, _, h⟩
  · exact S.ob a h
  · exact S.hs i a h
end

/-! ## readings -/
def R.go {α : Type} (r : R α) (k : α → Prop) (e : Str → List (Str × D) → Prop) : Prop := match r with
  | .ok a => k a
  | .ex c fs => e c fs
  | .st => False
/-- an exception's way out -/
def Exk (B : Bs) (W : WX) (σ : L2.St) (H : Hp) (c : Str) (fs : List (Str × D)) : Prop := ∀ C dx vfs H', Same H H' → H dx = none → B.P.mg c = some (.ref C) → H' dx = some (.xd vfs) → ExF vfs fs → W (.ref C) (some dx) σ H'
theorem Exk.same {B : Bs} {W : WX} {σ : L2.St} {H H1 : Hp} {c : Str} {fs : List (Str × D)} (h : Exk B W σ H c fs) (s : Same H H1) : Exk B W σ H1 c fs := fun C dx vfs H' s' n m x f => h C dx vfs H' (s.trans s') (s.free n) m x f
/-- an expression: what it gives is told by the slots' data -/
def tD (B : Bs) (W : WX) (E : List Nat) (f : En → R D) : TE := fun σ H Q => ∃ ρ As, Sta B σ H ρ As ∧
  (f ρ).go (fun d => ∀ v H', Same H H' → Rep B.P (cut H' (hid B As E)) v d → Q v H') (Exk B W σ H)
/-- the same for a new list (dict, object) that nobody else holds -/
def tF (B : Bs) (W : WX) (E : List Nat) (f : En → R OD) : TE := fun σ H Q => ∃ ρ As, Sta B σ H ρ As ∧
  (f ρ).go (fun d => ∀ v A H', Same H H' → A.Nodup → (∀ a ∈ A, H a = none) → RepO B.P (cut H' (fun a => hid B As E a ∨ a ∈ A)) H' v d A → Q v H') (Exk B W σ H)
def tT (B : Bs) (W : WX) (f : En → R Bool) : TT := fun σ H Q => ∃ ρ As, Sta B σ H ρ As ∧
  (f ρ).go (fun b => ∀ H', Same H H' → Q b H') (Exk B W σ H)
def tA (B : Bs) (W : WX) (E : List Nat) (f : En → R (List D)) : TA := fun σ H Q => ∃ ρ As, Sta B σ H ρ As ∧
  (f ρ).go (fun d => ∀ v H', Same H H' → RepL B.P (cut H' (hid B As E)) v d → Q v H') (Exk B W σ H)
section
variable {B : Bs} {W : WX} {E : List Nat} {σ : L2.St} {H : Hp} {ρ : En} {As : Ow}
theorem tD_bind {β : Type} {f : En → R D} {k : D → R β} {KO : β → Prop} {T : VK} (S : Sta B σ H ρ As) (h : ((f ρ).bind k).go KO (Exk B W σ H))
    (hk : ∀ d v H1, Same H H1 → Sta B σ H1 ρ As → Rep B.P (cut H1 (hid B As E)) v d → (k d).go KO (Exk B W σ H1) → T v H1) : tD B W E f σ H T := by
  refine ⟨ρ, As, S, ?_⟩
  cases e : f ρ with
  | ok d =>
    rw [e] at h
    intro v H1 s r
    refine hk d v H1 s (S.same s) r ?_
    revert h
    rw [R.bind_ok]
    cases k d with
    | ok b => exact fun z => z
    | ex c fs => exact fun z => Exk.same z s
    | st => exact fun z => z
  | ex c fs => rw [e] at h; exact h
  | st => rw [e] at h; exact h
theorem tT_bind {β : Type} {f : En → R Bool} {k : Bool → R β} {KO : β → Prop} {T : Bool → Hp → Prop} (S : Sta B σ H ρ As) (h : ((f ρ).bind k).go KO (Exk B W σ H))
    (hk : ∀ d H1, Same H H1 → Sta B σ H1 ρ As → (k d).go KO (Exk B W σ H1) → T d H1) : tT B W f σ H T := by
  refine ⟨ρ, As, S, ?_⟩
  cases e : f ρ with
  | ok d =>
    rw [e] at h
    intro H1 s
    refine hk d H1 s (S.same s) ?_
    revert h
    rw [R.bind_ok]
    cases k d with
    | ok b => exact fun z => z
    | ex c fs => exact fun z => Exk.same z s
    | st => exact fun z => z
  | ex c fs => rw [e] at h; exact h
  | st => rw [e] at h; exact h
theorem tA_bind {β : Type} {f : En → R (List D)} {k : List D → R β} {KO : β → Prop} {T : List V → Hp → Prop} (S : Sta B σ H ρ As) (h : ((f ρ).bind k).go KO (Exk B W σ H))
    (hk : ∀ d v H1, Same H H1 → Sta B σ H1 ρ As → RepL B.P (cut H1 (hid B As E)) v d → (k d).go KO (Exk B W σ H1) → T v H1) : tA B W E f σ H T := by
  refine ⟨ρ, As, S, ?_⟩
  cases e : f ρ with
  | ok d =>
    rw [e] at h
    intro v H1 s r
    refine hk d v H1 s (S.same s) r ?_
    revert h
    rw [R.bind_ok]
    cases k d with
    | ok b => exact fun z => z
    | ex c fs => exact fun z => Exk.same z s
    | st => exact fun z => z
  | ex c fs => rw [e] at h; exact h
  | st => rw [e] at h; exact h
end
section
variable {X : Cx} {e : Expr}
theorem _root_.L2.PE.imp {t t' : TE} (h : PE X e t) (i : ∀ σ H Q, t' σ H Q → t σ H Q) : PE X e t' := ⟨fun p s σ H Q I q => h.run p s σ H Q I (i σ H Q q)⟩
theorem _root_.L2.PT.imp {t t' : TT} (h : PT X e t) (i : ∀ σ H Q, t' σ H Q → t σ H Q) : PT X e t' := ⟨fun p s σ H Q I q => h.run p s σ H Q I (i σ H Q q)⟩
theorem _root_.L2.PW.imp {t t' : TT} (h : PW X e t) (i : ∀ σ H Q, t' σ H Q → t σ H Q) : PW X e t' := ⟨fun w p s σ H Q I q => h.run w p s σ H Q I (i σ H Q q)⟩
theorem _root_.L2.PA.imp {es : List Expr} {t t' : TA} (h : PA X es t) (i : ∀ σ H Q, t' σ H Q → t σ H Q) : PA X es t' := ⟨fun pos p s σ H Q I q => h.run pos p s σ H Q I (i σ H Q q)⟩
theorem _root_.L2.PS.imp {st : Stmt} {t t' : TS} (h : PS X st t) (i : ∀ D σ H, t' D σ H → t D σ H) : PS X st t' := ⟨fun p s σ H D I q => h.run p s σ H D I (i D σ H q)⟩
theorem _root_.L2.PSs.imp {st : List Stmt} {t t' : TS} (h : PSs X st t) (i : ∀ D σ H, t' D σ H → t D σ H) : PSs X st t' := ⟨fun p s σ H D I q => h.run p s σ H D I (i D σ H q)⟩
end

/-! ## combinators of data -/
def var (i : Nat) : En → R D := fun ρ => match ρ[i]? with
  | some (some od) => .ok od.er
  | _ => .st
def con (d : D) : En → R D := fun _ => .ok d
def op1 (g : D → Option D) (f : En → R D) : En → R D := fun ρ => (f ρ).bind fun a => .ofO (g a)
def op2 (g : D → D → Option D) (f1 f2 : En → R D) : En → R D := fun ρ => (f1 ρ).bind fun a => (f2 ρ).bind fun b => .ofO (g a b)
def op3 (g : D → D → D → Option D) (f1 f2 f3 : En → R D) : En → R D := fun ρ => (f1 ρ).bind fun a => (f2 ρ).bind fun b => (f3 ρ).bind fun c => .ofO (g a b c)
def aNil : En → R (List D) := fun _ => .ok []
def aCons (f : En → R D) (g : En → R (List D)) : En → R (List D) := fun ρ => (f ρ).bind fun a => (g ρ).bind fun as => .ok (a :: as)
def opA (g : List D → Option D) (f : En → R (List D)) : En → R D := fun ρ => (f ρ).bind fun a => .ofO (g a)
def ifE (t : En → R Bool) (f g : En → R D) : En → R D := fun ρ => (t ρ).bind fun b => if b then f ρ else g ρ
def asB : D → Option Bool
  | .bl b => some b
  | _ => none
def tst (f : En → R D) : En → R Bool := fun ρ => (f ρ).bind fun d => .ofO (asB d)
def andT (f g : En → R Bool) : En → R Bool := fun ρ => (f ρ).bind fun b => if b then g ρ else .ok false
def orT (f g : En → R Bool) : En → R Bool := fun ρ => (f ρ).bind fun b => if b then .ok true else g ρ
def notT (f : En → R Bool) : En → R Bool := fun ρ => (f ρ).bind fun b => .ok (!b)
def andV (f g : En → R D) : En → R D := fun ρ => (f ρ).bind fun d => (R.ofO (asB d)).bind fun b => if b then g ρ else .ok (.bl false)
def orV (f g : En → R D) : En → R D := fun ρ => (f ρ).bind fun d => (R.ofO (asB d)).bind fun b => if b then .ok (.bl true) else g ρ
def notV (f : En → R D) : En → R D := fun ρ => (f ρ).bind fun d => (R.ofO (asB d)).bind fun b => .ok (.bl (!b))

/-! ## adequacy of an operation on values -/
def Ad1 (P : Wd) (r : V → Hp → VK → Prop) (g : D → Option D) : Prop := ∀ (p : Addr → Prop) (H : Hp) (x : V) (a d : D) (Q : VK), (∀ a, p a → H a ≠ none) → Rep P (cut H p) x a → g a = some d → (∀ v H', Same H H' → Rep P (cut H' p) v d → Q v H') → r x H Q
def Ad2 (P : Wd) (r : R2) (g : D → D → Option D) : Prop := ∀ (p : Addr → Prop) (H : Hp) (x y : V) (a b d : D) (Q : VK), (∀ a, p a → H a ≠ none) → Rep P (cut H p) x a → Rep P (cut H p) y b → g a b = some d → (∀ v H', Same H H' → Rep P (cut H' p) v d → Q v H') → r x y H Q
def AdA (P : Wd) (r : List V → Hp → VK → Prop) (g : List D → Option D) : Prop := ∀ (p : Addr → Prop) (H : Hp) (x : List V) (a : List D) (d : D) (Q : VK), (∀ a, p a → H a ≠ none) → RepL P (cut H p) x a → g a = some d → (∀ v H', Same H H' → Rep P (cut H' p) v d → Q v H') → r x H Q
theorem Ad2.or {P : Wd} {r r' : R2} {g g' : D → D → Option D} (h : Ad2 P r g) (h' : Ad2 P r' g') : Ad2 P (fun x y H Q => r x y H Q ∨ r' x y H Q) (fun a b => (g a b).or (g' a b)) := fun p H x y a b d Q hp r1 r2 e q => by
  have e : (g a b).or (g' a b) = some d := e
  cases e1 : g a b with
  | some z =>
    rw [e1] at e
    exact .inl (h p H x y a b d Q hp r1 r2 (e1.trans e) q)
  | none =>
    rw [e1] at e
    exact .inr (h' p H x y a b d Q hp r1 r2 e q)
theorem Ad2.imp {P : Wd} {r : R2} {g g' : D → D → Option D} (h : Ad2 P r g) (e : ∀ a b d, g' a b = some d → g a b = some d) : Ad2 P r g' := fun p H x y a b d Q hp r1 r2 e1 q => h p H x y a b d Q hp r1 r2 (e a b d e1) q
def Flat2 (g : D → D → Option D) : Prop := ∀ a b d, g a b = some d → d.flat = true
def Flat1 (g : D → Option D) : Prop := ∀ a d, g a = some d → d.flat = true
def FlatA (g : List D → Option D) : Prop := ∀ a d, g a = some d → d.flat = true

section
variable {B : Bs} {W : WX} {E E1 E2 : List Nat} {f f1 f2 : En → R D}
theorem imp_op2 {r : R2} {g : D → D → Option D} (hg : Ad2 B.P r g) {σ : L2.St} {H : Hp} {Q : VK} (h : tD B W (E1 ++ E2) (op2 g f1 f2) σ H Q) : tOp r (tD B W E1 f1) (tD B W E2 f2) σ H Q := by
  obtain ⟨ρ, As, S, h⟩ := h
  refine tD_bind S h fun a v H1 s1 S1 r1 h1 => ?_
  refine tD_bind S1 h1 fun b u H2 s2 S2 r2 h2 => ?_
  cases e : g a b with
  | none => rw [e] at h2; exact h2.elim
  | some d =>
    rw [e] at h2
    refine hg (hid B As (E1 ++ E2)) H2 v u a b d Q S2.hth (r1.up (cut_mono s2 (hid_mono fun i hi => List.mem_append_left _ hi))) (r2.up (cut_mono (Same.refl _) (hid_mono fun i hi => List.mem_append_right _ hi))) e fun w H3 s3 r3 => ?_
    exact h2 w H3 ((s1.trans s2).trans s3) r3
theorem imp_op2F {r : R2} {g : D → D → Option D} (hg : Ad2 B.P r g) (hf : Flat2 g) {σ : L2.St} {H : Hp} {Q : VK} (h : tD B W [] (op2 g f1 f2) σ H Q) : tOp r (tD B W E1 f1) (tD B W E2 f2) σ H Q := by
  obtain ⟨ρ, As, S, h⟩ := h
  refine imp_op2 hg ⟨ρ, As, S, ?_⟩
  unfold op2 at h ⊢
  cases e1 : f1 ρ with
  | st => rw [e1] at h; exact h
  | ex c fs => rw [e1] at h; exact h
  | ok a =>
    rw [e1, R.bind_ok] at h
    rw [R.bind_ok]
    cases e2 : f2 ρ with
    | st => rw [e2] at h; exact h
    | ex c fs => rw [e2] at h; exact h
    | ok b =>
      rw [e2, R.bind_ok] at h
      rw [R.bind_ok]
      cases e : g a b with
      | none => rw [e] at h; exact h
      | some d =>
        rw [e] at h
        exact fun v H' s r => h v H' s (r.flat (hf a b d e))
theorem imp_op1 {r : V → Hp → VK → Prop} {g : D → Option D} (hg : Ad1 B.P r g) {σ : L2.St} {H : Hp} {Q : VK} (h : tD B W E (op1 g f) σ H Q) : tUn r (tD B W E f) σ H Q := by
  obtain ⟨ρ, As, S, h⟩ := h
  refine tD_bind S h fun a v H1 s1 S1 r1 h1 => ?_
  cases e : g a with
  | none => rw [e] at h1; exact h1.elim
  | some d =>
    rw [e] at h1
    exact hg (hid B As E) H1 v a d Q S1.hth r1 e fun w H3 s3 r3 => h1 w H3 (s1.trans s3) r3
theorem imp_opA {r : List V → Hp → VK → Prop} {g : List D → Option D} {fa : En → R (List D)} (hg : AdA B.P r g) {σ : L2.St} {H : Hp} {Q : VK} (h : tD B W E (opA g fa) σ H Q) : tA B W E fa σ H (fun x H1 => r x H1 Q) := by
  obtain ⟨ρ, As, S, h⟩ := h
  refine tA_bind S h fun a v H1 s1 S1 r1 h1 => ?_
  cases e : g a with
  | none => rw [e] at h1; exact h1.elim
  | some d =>
    rw [e] at h1
    exact hg (hid B As E) H1 v a d Q S1.hth r1 e fun w H3 s3 r3 => h1 w H3 (s1.trans s3) r3
/-- a flat value may be told of with nothing left visible -/
theorem tD_flat {E : List Nat} (hf : ∀ ρ d, f ρ = .ok d → d.flat = true) {σ : L2.St} {H : Hp} {Q : VK} (h : tD B W [] f σ H Q) : tD B W E f σ H Q := by
  obtain ⟨ρ, As, S, h⟩ := h
  refine ⟨ρ, As, S, ?_⟩
  cases e : f ρ with
  | ok d =>
    rw [e] at h
    exact fun v H' s r => h v H' s (r.flat (hf ρ d e))
  | ex c fs => rw [e] at h; exact h
  | st => rw [e] at h; exact h
theorem tD_mono {E E' : List Nat} (hE : ∀ i ∈ E, i ∈ E') {σ : L2.St} {H : Hp} {Q : VK} (h : tD B W E' f σ H Q) : tD B W E f σ H Q := by
  obtain ⟨ρ, As, S, h⟩ := h
  refine ⟨ρ, As, S, ?_⟩
  cases e : f ρ with
  | ok d =>
    rw [e] at h
    exact fun v H' s r => h v H' s (r.up (cut_mono (Same.refl _) (hid_mono hE)))
  | ex c fs => rw [e] at h; exact h
  | st => rw [e] at h; exact h
end

/-! ## expressions -/
section
variable {X : Cx} {B : Bs} {W : WX} {E E1 E2 : List Nat} {f f1 f2 f3 : En → R D} {ft ft2 : En → R Bool} {fa : En → R (List D)} {e e1 e2 e3 : Expr} {es : List Expr} {pos : Pos}
theorem d_var (i : Nat) {x : Str} (h : PE X (.Name x pos) (tVar i)) : PE X (.Name x pos) (tD B W [i] (var i)) := h.imp fun σ H Q ⟨ρ, As, S, h⟩ => by
  unfold var at h
  split at h
  · rename_i od e
    obtain ⟨v, e1, r⟩ := S.pt i od e
    refine ⟨v, e1, h v H (Same.refl _) ?_⟩
    refine RepO.rep (cut_mono (Same.refl _) (hid_mono fun i hi => absurd hi List.not_mem_nil)) _ _ _ r fun a ha o eo => cut_of ?_ eo
    rintro (z | ⟨j, hj, z⟩)
    · exact S.no i a ha z
    · have := S.dj i j a ha z
      exact hj (by rw [this]; exact List.mem_cons_self)
  · exact h.elim
theorem d_con {v : V} {d : D} (h : PE X e (tC v)) (r : ∀ G, Rep B.P G v d) : PE X e (tD B W [] (con d)) := h.imp fun σ H Q ⟨ρ, As, S, h⟩ => h v H (Same.refl _) (r _)
theorem d_int {i : Int} {j : Nat} : PE X (.Constant (.int i) j pos) (tD B W [] (con (.int i))) := d_con pe_int fun _ => .int _
theorem d_bl {b : Bool} {j : Nat} : PE X (.Constant (.bool b) j pos) (tD B W [] (con (.bl b))) := d_con pe_bl fun _ => .bl _
theorem d_non {j : Nat} : PE X (.Constant .none j pos) (tD B W [] (con .non)) := d_con pe_non fun _ => .non
theorem rep_str {P : Wd} {G : Hp} {x : Str} {cs : List Nat} (h : x.cps.toList = cs) : Rep P G (.str x) (.str cs) := by subst h; exact .str x
theorem d_str {x : Str} {j : Nat} (cs : List Nat) (h : x.cps.toList = cs) : PE X (.Constant (.str x) j pos) (tD B W [] (con (.str cs))) := d_con pe_str fun _ => rep_str h
theorem d_op {op : Operator} {r : R2} {g : D → D → Option D} (ho : OpR X (binaryOp op) r) (hg : Ad2 B.P r g) (h1 : PE X e1 (tD B W E1 f1)) (h2 : PE X e2 (tD B W E2 f2)) : PE X (.BinOp e1 op e2 pos) (tD B W (E1 ++ E2) (op2 g f1 f2)) :=
  (pe_op ho h1 h2).imp fun _ _ _ => imp_op2 hg
theorem d_opF {op : Operator} {r : R2} {g : D → D → Option D} (ho : OpR X (binaryOp op) r) (hg : Ad2 B.P r g) (hf : Flat2 g) (h1 : PE X e1 (tD B W E1 f1)) (h2 : PE X e2 (tD B W E2 f2)) : PE X (.BinOp e1 op e2 pos) (tD B W [] (op2 g f1 f2)) :=
  (pe_op ho h1 h2).imp fun _ _ _ => imp_op2F hg hf
theorem d_un {op : UnaryOp} {r : V → Hp → VK → Prop} {g : D → Option D} (ho : UnR X (unaryOp op) r) (hg : Ad1 B.P r g) (h1 : PE X e1 (tD B W E1 f1)) : PE X (.UnaryOp op e1 pos) (tD B W E1 (op1 g f1)) :=
  (pe_un ho h1).imp fun _ _ _ => imp_op1 hg
theorem d_cmp {op : CmpOp} {r : R2} {g : D → D → Option D} (ho : OpR X (compareOp op) r) (hg : Ad2 B.P r g) (hf : Flat2 g) (h1 : PE X e1 (tD B W E1 f1)) (h2 : PE X e2 (tD B W E2 f2)) (hm : behindInMarks op e2 = false) : PE X (.Compare e1 [op] [e2] pos) (tD B W [] (op2 g f1 f2)) :=
  (pe_cmpR ho h1 h2 hm).imp fun _ _ _ => imp_op2F hg hf
theorem imp_tst {t : TE} (h : ∀ σ H Q, tD B W E f σ H Q → t σ H Q) {σ : L2.St} {H : Hp} {Q : Bool → Hp → Prop} (q : tT B W (tst f) σ H Q) : t σ H fun x H' => ∃ k, x = .bl k ∧ Q k H' := by
  obtain ⟨ρ, As, S, q⟩ := q
  refine h _ _ _ (tD_bind S q fun d v H1 s1 S1 r1 h1 => ?_)
  cases d with
  | bl b => cases r1; exact ⟨b, rfl, h1 H1 s1⟩
  | _ => exact h1.elim
theorem tT_same {ft : En → R Bool} {σ : L2.St} {H : Hp} {Q : Bool → Hp → Prop} (q : tT B W ft σ H Q) : tT B W ft σ H Q := q
theorem d_tcmp {op : CmpOp} {r : R2} {g : D → D → Option D} (ho : OpR X (compareOp op) r) (hg : Ad2 B.P r g) (hf : Flat2 g) (h1 : PE X e1 (tD B W E1 f1)) (h2 : PE X e2 (tD B W E2 f2)) (hm : behindInMarks op e2 = false) : PT X (.Compare e1 [op] [e2] pos) (tT B W (tst (op2 g f1 f2))) :=
  (pt_cmpR ho h1 h2 hm).imp fun _ _ _ q => imp_tst (fun _ _ _ => imp_op2F hg hf) q
theorem d_tval (h : PE X e (tD B W E f)) (he : ∀ whole, isTrue e X.env whole = (do let v ← whole; standAt e.pos; holding [v] (truthy v)) := by intro _; rfl) : PT X e (tT B W (tst f)) :=
  (pt_val h he).imp fun _ _ _ q => imp_tst (fun _ _ _ z => z) q
theorem d_and {rest : List Expr} (h1 : PT X e1 (tT B W ft)) (h2 : PW X (.BoolOp .And (e2 :: rest) pos) (tT B W ft2)) : PW X (.BoolOp .And (e1 :: e2 :: rest) pos) (tT B W (andT ft ft2)) :=
  (pw_and h1 h2).imp fun σ H Q ⟨ρ, As, S, q⟩ => tT_bind S q fun b H1 s1 S1 q1 => by
    cases b with
    | true => exact ⟨ρ, As, S1, by
        revert q1
        show (ft2 ρ).go _ _ → (ft2 ρ).go _ _
        cases ft2 ρ with
        | ok b => exact fun z H' s' => z H' (s1.trans s')
        | ex c fs => exact fun z => z
        | st => exact fun z => z⟩
    | false => exact q1 H1 s1
theorem d_or {rest : List Expr} (h1 : PT X e1 (tT B W ft)) (h2 : PW X (.BoolOp .Or (e2 :: rest) pos) (tT B W ft2)) : PW X (.BoolOp .Or (e1 :: e2 :: rest) pos) (tT B W (orT ft ft2)) :=
  (pw_or h1 h2).imp fun σ H Q ⟨ρ, As, S, q⟩ => tT_bind S q fun b H1 s1 S1 q1 => by
    cases b with
    | false => exact ⟨ρ, As, S1, by
        revert q1
        show (ft2 ρ).go _ _ → (ft2 ρ).go _ _
        cases ft2 ρ with
        | ok b => exact fun z H' s' => z H' (s1.trans s')
        | ex c fs => exact fun z => z
        | st => exact fun z => z⟩
    | true => exact q1 H1 s1
theorem d_not (h1 : PT X e1 (tT B W ft)) : PT X (.UnaryOp .Not e1 pos) (tT B W (notT ft)) :=
  (pt_not h1).imp fun σ H Q ⟨ρ, As, S, q⟩ => tT_bind S q fun b H1 s1 S1 q1 => q1 H1 s1
theorem imp_same {k : R D} {H H1 : Hp} {σ : L2.St} {As : Ow} {Q : VK} (s : Same H H1) (h : k.go (fun d => ∀ v H', Same H H' → Rep B.P (cut H' (hid B As E)) v d → Q v H') (Exk B W σ H1)) : k.go (fun d => ∀ v H', Same H1 H' → Rep B.P (cut H' (hid B As E)) v d → Q v H') (Exk B W σ H1) := by
  cases k with
  | ok d => exact fun v H' s' r => h v H' (s.trans s') r
  | ex c fs => exact h
  | st => exact h
theorem d_andV {rest : List Expr} (h1 : PE X e1 (tD B W E1 f1)) (h2 : PE X (.BoolOp .And (e2 :: rest) pos) (tD B W [] f2)) : PE X (.BoolOp .And (e1 :: e2 :: rest) pos) (tD B W [] (andV f1 f2)) :=
  (pe_and h1 h2).imp fun σ H Q ⟨ρ, As, S, q⟩ => tD_bind S q fun d v H1 s1 S1 r1 q1 => by
    cases d with
    | bl b =>
      cases r1
      refine ⟨b, rfl, ?_⟩
      cases b with
      | true => exact ⟨ρ, As, S1, imp_same s1 q1⟩
      | false => exact q1 _ H1 s1 (.bl _)
    | _ => exact q1.elim
theorem d_orV {rest : List Expr} (h1 : PE X e1 (tD B W E1 f1)) (h2 : PE X (.BoolOp .Or (e2 :: rest) pos) (tD B W [] f2)) : PE X (.BoolOp .Or (e1 :: e2 :: rest) pos) (tD B W [] (orV f1 f2)) :=
  (pe_or h1 h2).imp fun σ H Q ⟨ρ, As, S, q⟩ => tD_bind S q fun d v H1 s1 S1 r1 q1 => by
    cases d with
    | bl b =>
      cases r1
      refine ⟨b, rfl, ?_⟩
      cases b with
      | false => exact ⟨ρ, As, S1, imp_same s1 q1⟩
      | true => exact q1 _ H1 s1 (.bl _)
    | _ => exact q1.elim
theorem d_oneV {op : BoolOp} (h1 : PE X e1 (tD B W E1 f1)) (hf : ∀ ρ d, f1 ρ = .ok d → d.flat = true) : PE X (.BoolOp op [e1] pos) (tD B W [] f1) := (pe_one h1).imp fun _ _ _ q => tD_flat hf q
theorem d_notV (h1 : PE X e1 (tD B W E1 f1)) : PE X (.UnaryOp .Not e1 pos) (tD B W [] (notV f1)) :=
  (pe_not h1).imp fun σ H Q ⟨ρ, As, S, q⟩ => tD_bind S q fun d v H1 s1 S1 r1 q1 => by
    cases d with
    | bl b => cases r1; exact ⟨b, rfl, q1 _ H1 s1 (.bl _)⟩
    | _ => exact q1.elim
theorem d_ife {c : Expr} (hc : PT X c (tT B W ft)) (h1 : PE X e1 (tD B W E1 f1)) (h2 : PE X e2 (tD B W E2 f2)) : PE X (.IfExp c e1 e2 pos) (tD B W (E1 ++ E2) (ifE ft f1 f2)) :=
  (pe_ifExp hc h1 h2).imp fun σ H Q ⟨ρ, As, S, q⟩ => tT_bind S q fun b H1 s1 S1 q1 => by
    cases b with
    | true => exact tD_mono (fun i hi => List.mem_append_left _ hi) ⟨ρ, As, S1, imp_same s1 q1⟩
    | false => exact tD_mono (fun i hi => List.mem_append_right _ hi) ⟨ρ, As, S1, imp_same s1 q1⟩
theorem d_anil : PA X [] (tA B W [] aNil) := pa_nil.imp fun σ H Q ⟨ρ, As, S, q⟩ => q [] H (Same.refl _) .nil
theorem d_acons (h1 : PE X e (tD B W E1 f)) (h2 : PA X es (tA B W E2 fa)) (hs : starEach (e :: es) X.env = (false, eval e X.env) :: starEach es X.env := by rfl) : PA X (e :: es) (tA B W (E1 ++ E2) (aCons f fa)) :=
  (pa_cons h1 h2 hs).imp fun σ H Q ⟨ρ, As, S, q⟩ => tD_bind S q fun d v H1 s1 S1 r1 q1 => tA_bind S1 q1 fun ds vs H2 s2 S2 r2 q2 =>
    q2 _ _ (s1.trans s2) (.cons (r1.up (cut_mono s2 (hid_mono fun i hi => List.mem_append_left _ hi))) (r2.up (cut_mono (Same.refl _) (hid_mono fun i hi => List.mem_append_right _ hi))))
end
end DL
set_option Elab.async false
set_option linter.all false
set_option maxRecDepth 100000
namespace DL
open PySem PySem.Spec PyProof.Rows L2

/-! ## statements -/
inductive Out where
  | nx (ρ : En) | rt (od : OD) (ρ : En) | ex (c : Str) (fs : List (Str × D)) (ρ : En) | bk (ρ : En) | ct (ρ : En) | st
/-- what a statement leaves: slots outside of M, addresses owned elsewhere -/
structure Kp (M : List Nat) (σ : L2.St) (H : Hp) (As : Ow) (σ' : L2.St) (H' : Hp) (As' : Ow) : Prop where
  k0 : σ'.length = σ.length
  k1 : ∀ i, i ∉ M → σ'[i]? = σ[i]?
  k2 : ∀ j a, a ∈ As' j → a ∈ As j ∨ H a = none
  k3 : ∀ a o, H a = some o → (∀ i, i ∈ M → a ∉ As i) → H' a = some o
  k4 : ∀ a, H a ≠ none → H' a ≠ none
theorem Kp.refl {M : List Nat} {σ : L2.St} {H H' : Hp} {As : Ow} (s : Same H H') : Kp M σ H As σ H' As := ⟨rfl, fun _ _ => rfl, fun _ _ h => .inl h, fun a o e _ => s a o e, fun a h => same_ne s h⟩
theorem Kp.mono {M M' : List Nat} {σ σ' : L2.St} {H H' : Hp} {As As' : Ow} (k : Kp M σ H As σ' H' As') (h : ∀ i ∈ M, i ∈ M') : Kp M' σ H As σ' H' As' :=
  ⟨k.k0, fun i hi => k.k1 i fun z => hi (h i z), k.k2, fun a o e z => k.k3 a o e fun i hi => z i (h i hi), k.k4⟩
theorem Kp.trans {M M' : List Nat} {σ σ1 σ2 : L2.St} {H H1 H2 : Hp} {As A1 A2 : Ow} (a : Kp M σ H As σ1 H1 A1) (b : Kp M' σ1 H1 A1 σ2 H2 A2) : Kp (M ++ M') σ H As σ2 H2 A2 where
  k0 := b.k0.trans a.k0
  k1 := fun i hi => (b.k1 i fun z => hi (List.mem_append_right _ z)).trans (a.k1 i fun z => hi (List.mem_append_left _ z))
  k2 := fun j x h => by
    rcases b.k2 j x h with h | h
    · exact a.k2 j x h
    · right
      cases e : H x with
      | none => rfl
      | some o => exact absurd h (a.k4 x (by rw [e]; exact nofun))
  k3 := fun x o e z => b.k3 x o (a.k3 x o e fun i hi => z i (List.mem_append_left _ hi)) fun i hi w => by
    rcases a.k2 i x w with w | w
    · exact z i (List.mem_append_right _ hi) w
    · rw [e] at w; cases w
  k4 := fun x h => b.k4 x (a.k4 x h)
/-- an exception of a statement -/
def Exs (B : Bs) (W : WX) (M : List Nat) (σ : L2.St) (H : Hp) (As : Ow) (c : Str) (fs : List (Str × D)) (ρ' : En) : Prop :=
  ∀ C dx vfs σ' H' As', Sta B σ' H' ρ' As' → Kp M σ H As σ' H' As' → H dx = none → B.P.mg c = some (.ref C) → H' dx = some (.xd vfs) → (∀ i, dx ∉ As' i) → ExF vfs fs → W (.ref C) (some dx) σ' H'
def Out.go (B : Bs) (W : WX) (M : List Nat) (σ : L2.St) (H : Hp) (As : Ow) (D : Ends) : Out → Prop
  | .nx ρ' => ∀ σ' H' As', Sta B σ' H' ρ' As' → Kp M σ H As σ' H' As' → D.nx σ' H'
  | .bk ρ' => ∀ σ' H' As', Sta B σ' H' ρ' As' → Kp M σ H As σ' H' As' → D.bk σ' H'
  | .ct ρ' => ∀ σ' H' As', Sta B σ' H' ρ' As' → Kp M σ H As σ' H' As' → D.ct σ' H'
  | .rt od ρ' => ∀ v A σ' H' As', Sta B σ' H' ρ' As' → Kp M σ H As σ' H' As' → A.Nodup → (∀ a ∈ A, B.H0 a = none) → (∀ a ∈ A, ∀ i, a ∉ As' i) → RepO B.P (cut H' (fun a => hid B As' [] a ∨ a ∈ A)) H' v od A → D.rt v H'
  | .ex c fs ρ' => Exs B W M σ H As c fs ρ'
  | .st => False
def tS (B : Bs) (W : WX) (M : List Nat) (s : En → Out) : TS := fun D σ H => ∃ ρ As, Sta B σ H ρ As ∧ (s ρ).go B W M σ H As D
def Out.bind (o : Out) (k : En → Out) : Out := match o with
  | .nx ρ => k ρ
  | o => o
@[simp] theorem Out.bind_nx (ρ : En) (k : En → Out) : (Out.nx ρ).bind k = k ρ := rfl
@[simp] theorem Out.bind_rt (d : OD) (ρ : En) (k : En → Out) : (Out.rt d ρ).bind k = .rt d ρ := rfl
@[simp] theorem Out.bind_ex (c : Str) (fs : List (Str × D)) (ρ : En) (k : En → Out) : (Out.ex c fs ρ).bind k = .ex c fs ρ := rfl
@[simp] theorem Out.bind_bk (ρ : En) (k : En → Out) : (Out.bk ρ).bind k = .bk ρ := rfl
@[simp] theorem Out.bind_ct (ρ : En) (k : En → Out) : (Out.ct ρ).bind k = .ct ρ := rfl
@[simp] theorem Out.bind_st (k : En → Out) : Out.st.bind k = .st := rfl
section
variable {B : Bs} {W : WX} {M M' : List Nat} {σ σ1 : L2.St} {H H1 : Hp} {As A1 : Ow} {D : Ends}
/-- from a later point -/
theorem Out.go_from (k : Kp M σ H As σ1 H1 A1) : ∀ {o : Out}, o.go B W (M ++ M') σ H As D → o.go B W M' σ1 H1 A1 D
  | .nx ρ', h => fun σ' H' As' S k' => h σ' H' As' S (k.trans k')
  | .bk ρ', h => fun σ' H' As' S k' => h σ' H' As' S (k.trans k')
  | .ct ρ', h => fun σ' H' As' S k' => h σ' H' As' S (k.trans k')
  | .rt od ρ', h => fun v A σ' H' As' S k' => h v A σ' H' As' S (k.trans k')
  | .ex c fs ρ', h => fun C dx vfs σ' H' As' S k' n => h C dx vfs σ' H' As' S (k.trans k') (by
      cases e : H dx with
      | none => rfl
      | some o => exact absurd n (k.k4 dx (by rw [e]; exact nofun)))
  | .st, h => h
theorem Out.go_mono (hm : ∀ i ∈ M, i ∈ M') : ∀ {o : Out}, o.go B W M' σ H As D → o.go B W M σ H As D
  | .nx ρ', h => fun σ' H' As' S k' => h σ' H' As' S (k'.mono hm)
  | .bk ρ', h => fun σ' H' As' S k' => h σ' H' As' S (k'.mono hm)
  | .ct ρ', h => fun σ' H' As' S k' => h σ' H' As' S (k'.mono hm)
  | .rt od ρ', h => fun v A σ' H' As' S k' => h v A σ' H' As' S (k'.mono hm)
  | .ex c fs ρ', h => fun C dx vfs σ' H' As' S k' => h C dx vfs σ' H' As' S (k'.mono hm)
  | .st, h => h
theorem tS_bind {s : En → Out} {k : En → Out} {T : L2.St → Hp → Prop} {ρ : En} (S : Sta B σ H ρ As) (h : ((s ρ).bind k).go B W (M ++ M') σ H As D)
    (hk : ∀ ρ' σ' H' As', Sta B σ' H' ρ' As' → (k ρ').go B W M' σ' H' As' D → T σ' H') : tS B W M s { D with nx := T } σ H := by
  refine ⟨ρ, As, S, ?_⟩
  have hl : ∀ i ∈ M, i ∈ M ++ M' := fun i hi => List.mem_append_left _ hi
  cases e : s ρ with
  | nx ρ' =>
    rw [e] at h
    intro σ' H' As' S' k'
    exact hk ρ' σ' H' As' S' (Out.go_from k' h)
  | rt d ρ' => rw [e] at h; exact fun v A σ' H' As' S k' => h v A σ' H' As' S (k'.mono hl)
  | ex c fs ρ' => rw [e] at h; exact fun C dx vfs σ' H' As' S k' => h C dx vfs σ' H' As' S (k'.mono hl)
  | bk ρ' => rw [e] at h; exact fun σ' H' As' S k' => h σ' H' As' S (k'.mono hl)
  | ct ρ' => rw [e] at h; exact fun σ' H' As' S k' => h σ' H' As' S (k'.mono hl)
  | st => rw [e] at h; exact h
end
/-- an expression's end as a statement's: its exception -/
theorem Exk_of {B : Bs} {W : WX} {M : List Nat} {σ : L2.St} {H : Hp} {As : Ow} {ρ : En} {c : Str} {fs : List (Str × D)} (S : Sta B σ H ρ As) (h : Exs B W M σ H As c fs ρ) : Exk B W σ H c fs := fun C dx vfs H' s n m x f =>
  h C dx vfs σ H' As (S.same s) (Kp.refl s) n m x (fun i z => S.hs i dx z n) f
def R.out {α : Type} (r : R α) (ρ : En) (k : α → Out) : Out := match r with
  | .ok a => k a
  | .ex c fs => .ex c fs ρ
  | .st => .st
@[simp] theorem R.out_ok {α : Type} (a : α) (ρ : En) (k : α → Out) : (R.ok a).out ρ k = k a := rfl
@[simp] theorem R.out_ex {α : Type} (c : Str) (fs : List (Str × D)) (ρ : En) (k : α → Out) : (R.ex c fs : R α).out ρ k = .ex c fs ρ := rfl
@[simp] theorem R.out_st {α : Type} (ρ : En) (k : α → Out) : (R.st : R α).out ρ k = .st := rfl
section
variable {B : Bs} {W : WX} {M M' E : List Nat} {σ : L2.St} {H : Hp} {As : Ow} {D : Ends} {ρ : En}
theorem tD_out {f : En → R DL.D} {k : DL.D → Out} {T : VK} (S : Sta B σ H ρ As) (h : ((f ρ).out ρ k).go B W M σ H As D)
    (hk : ∀ d v H1, Same H H1 → Sta B σ H1 ρ As → Rep B.P (cut H1 (hid B As E)) v d → (k d).go B W M σ H1 As D → T v H1) : tD B W E f σ H T := by
  refine ⟨ρ, As, S, ?_⟩
  cases e : f ρ with
  | ok d =>
    rw [e] at h
    intro v H1 s r
    exact hk d v H1 s (S.same s) r (Out.go_from (M := []) (Kp.refl s) h)
  | ex c fs => rw [e] at h; exact Exk_of S h
  | st => rw [e] at h; exact h
theorem tF_out {f : En → R OD} {k : OD → Out} {T : VK} (S : Sta B σ H ρ As) (h : ((f ρ).out ρ k).go B W M σ H As D)
    (hk : ∀ d v A H1, Same H H1 → Sta B σ H1 ρ As → A.Nodup → (∀ a ∈ A, H a = none) → RepO B.P (cut H1 (fun a => hid B As E a ∨ a ∈ A)) H1 v d A → (k d).go B W M σ H1 As D → T v H1) : tF B W E f σ H T := by
  refine ⟨ρ, As, S, ?_⟩
  cases e : f ρ with
  | ok d =>
    rw [e] at h
    intro v A H1 s n1 n2 r
    exact hk d v A H1 s (S.same s) n1 n2 r (Out.go_from (M := []) (Kp.refl s) h)
  | ex c fs => rw [e] at h; exact Exk_of S h
  | st => rw [e] at h; exact h
theorem tT_out {f : En → R Bool} {k : Bool → Out} {T : Bool → Hp → Prop} (S : Sta B σ H ρ As) (h : ((f ρ).out ρ k).go B W M σ H As D)
    (hk : ∀ d H1, Same H H1 → Sta B σ H1 ρ As → (k d).go B W M σ H1 As D → T d H1) : tT B W f σ H T := by
  refine ⟨ρ, As, S, ?_⟩
  cases e : f ρ with
  | ok d =>
    rw [e] at h
    intro H1 s
    exact hk d H1 s (S.same s) (Out.go_from (M := []) (Kp.refl s) h)
  | ex c fs => rw [e] at h; exact Exk_of S h
  | st => rw [e] at h; exact h
theorem tA_out {f : En → R (List DL.D)} {k : List DL.D → Out} {T : List V → Hp → Prop} (S : Sta B σ H ρ As) (h : ((f ρ).out ρ k).go B W M σ H As D)
    (hk : ∀ d v H1, Same H H1 → Sta B σ H1 ρ As → RepL B.P (cut H1 (hid B As E)) v d → (k d).go B W M σ H1 As D → T v H1) : tA B W E f σ H T := by
  refine ⟨ρ, As, S, ?_⟩
  cases e : f ρ with
  | ok d =>
    rw [e] at h
    intro v H1 s r
    exact hk d v H1 s (S.same s) r (Out.go_from (M := []) (Kp.refl s) h)
  | ex c fs => rw [e] at h; exact Exk_of S h
  | st => rw [e] at h; exact h
end

/-! ## freezing, storing -/
def frz1 (E : List Nat) : Nat → En → En
  | _, [] => []
  | n, o :: ρ => (if n ∈ E then o.map (fun x => .sh x.er) else o) :: frz1 E (n + 1) ρ
/-- the slots of E are shared from here on -/
def frz (E : List Nat) (ρ : En) : En := frz1 E 0 ρ
theorem frz1_get (E : List Nat) : ∀ (ρ : En) (n i : Nat), (frz1 E n ρ)[i]? = (ρ[i]?).map fun o => if n + i ∈ E then o.map (fun x => OD.sh x.er) else o
  | [], n, i => by simp [frz1]
  | o :: ρ, n, 0 => by simp [frz1]
  | o :: ρ, n, i + 1 => by
    have h := frz1_get E ρ (n + 1) i
    rw [frz1, List.getElem?_cons_succ, List.getElem?_cons_succ, h]
    congr 1
    funext o
    rw [show n + 1 + i = n + (i + 1) by omega]
theorem frz_get (E : List Nat) (ρ : En) (i : Nat) : (frz E ρ)[i]? = (ρ[i]?).map fun o => if i ∈ E then o.map (fun x => OD.sh x.er) else o := by
  have h := frz1_get E ρ 0 i
  rw [Nat.zero_add] at h
  exact h
theorem frz1_len (E : List Nat) : ∀ (ρ : En) (n : Nat), (frz1 E n ρ).length = ρ.length
  | [], n => rfl
  | o :: ρ, n => by rw [frz1, List.length_cons, List.length_cons, frz1_len E ρ]
theorem frz_len (E : List Nat) (ρ : En) : (frz E ρ).length = ρ.length := frz1_len E ρ 0
/-- freezing where a value that is stored may lead to an object that may change -/
def frzIf (d : D) (E : List Nat) (ρ : En) : En := if d.flat then ρ else frz E ρ
def exAs (E : List Nat) (As : Ow) : Ow := fun i => if i ∈ E then [] else As i
section
variable {B : Bs} {σ : L2.St} {H H' : Hp} {ρ : En} {As : Ow} {E : List Nat}
theorem hid_ex : ∀ a, hid B (exAs E As) [] a → hid B As E a := fun a h => by
  rcases h with h | ⟨i, _, h⟩
  · exact .inl h
  · unfold exAs at h
    split at h
    · cases h
    · exact .inr ⟨i, by assumption, h⟩
theorem Sta.frz (S : Sta B σ H ρ As) : Sta B σ H (frz E ρ) (exAs E As) where
  len := by rw [frz_len]; exact S.len
  pt := fun i od e => by
    rw [frz_get] at e
    cases q : ρ[i]? with
    | none => rw [q] at e; cases e
    | some o =>
      rw [q, Option.map_some] at e
      have e := Option.some.inj e
      cases o with
      | none => split at e <;> cases e
      | some od' =>
        obtain ⟨v, e1, r⟩ := S.pt i od' q
        refine ⟨v, e1, ?_⟩
        unfold exAs
        split at e
        · rename_i hi
          have e := Option.some.inj e
          subst e
          rw [if_pos hi]
          refine .sh (RepO.rep (cut_mono (Same.refl _) ?_) _ _ _ r fun a ha o eo => cut_of ?_ eo)
          · exact fun a h => hid_mono (E := []) (fun i hi => absurd hi List.not_mem_nil) a (hid_ex a h)
          · intro h
            rcases hid_ex a h with z | ⟨j, hj, z⟩
            · exact S.no i a ha z
            · exact hj (by rw [← S.dj i j a ha z]; exact hi)
        · rename_i hi
          have e := Option.some.inj e
          subst e
          rw [if_neg hi]
          exact RepO.mono (cut_mono (Same.refl _) fun a h => hid_mono (E := []) (fun i hi => absurd hi List.not_mem_nil) a (hid_ex a h)) _ _ _ r fun _ _ => rfl
  nd := fun i => by unfold exAs; split; exact List.nodup_nil; exact S.nd i
  dj := fun i j a h1 h2 => by
    unfold exAs at h1 h2
    split at h1
    · cases h1
    · split at h2
      · cases h2
      · exact S.dj i j a h1 h2
  ow := fun i a h => by unfold exAs at h; split at h; cases h; exact S.ow i a h
  no := fun i a h => by unfold exAs at h; split at h; cases h; exact S.no i a h
  hs := fun i a h => by unfold exAs at h; split at h; cases h; exact S.hs i a h
  ob := S.ob
  fr := S.fr
  th := S.th
theorem exAs_sub {i : Nat} {a : Addr} (h : a ∈ exAs E As i) : a ∈ As i := by unfold exAs at h; split at h; cases h; exact h
def putA (As : Ow) (i : Nat) (A : List Addr) : Ow := fun j => if j = i then A else As j
theorem putA_same {As : Ow} {i : Nat} {A : List Addr} : putA As i A i = A := by unfold putA; rw [if_pos rfl]
theorem putA_ne {As : Ow} {i j : Nat} {A : List Addr} (h : j ≠ i) : putA As i A j = As j := by unfold putA; rw [if_neg h]
theorem putA_mem {As : Ow} {i j : Nat} {A : List Addr} {a : Addr} (h : a ∈ putA As i A j) : (j = i ∧ a ∈ A) ∨ (j ≠ i ∧ a ∈ As j) := by
  unfold putA at h
  split at h
  · exact .inl ⟨by assumption, h⟩
  · exact .inr ⟨by assumption, h⟩
/-- a slot is given something: shared data (A empty), or a new tree -/
theorem Sta.put (S : Sta B σ H ρ As) {i : Nat} {v : V} {od : OD} {A : List Addr} (nA : A.Nodup) (fA : ∀ a ∈ A, ∀ j, a ∉ As j) (oA : ∀ a ∈ A, B.A0 a ∨ B.H0 a = none) (bA : ∀ a ∈ A, ¬ B.O a) (hA : ∀ a ∈ A, H a ≠ none)
    (r : RepO B.P (cut H (fun a => hid B As [] a ∨ a ∈ A)) H v od A) (hn : ∀ (j : Nat) od', j ≠ i → ρ[j]? = some (some od') → ∃ w, σ[j]? = some (some w) ∧ RepO B.P (cut H (hid B (putA As i A) [])) H w od' (As j)) : Sta B (σ.set i (some v)) H (ρ.set i (some od)) (putA As i A) where
  len := by rw [List.length_set, List.length_set]; exact S.len
  pt := fun j od' e => by
    by_cases hj : j = i
    · subst hj
      have hi : j < ρ.length := by
        have h := (List.getElem?_eq_some_iff.mp e).1
        rw [List.length_set] at h
        exact h
      rw [List.getElem?_set_self hi] at e
      have e := Option.some.inj (Option.some.inj e)
      subst e
      refine ⟨v, by rw [List.getElem?_set_self (by rw [S.len]; exact hi)], ?_⟩
      rw [putA_same]
      refine RepO.mono (cut_mono (Same.refl _) fun a h => ?_) _ _ _ r fun _ _ => rfl
      rcases h with h | ⟨k, _, h⟩
      · exact .inl (.inl h)
      · rcases putA_mem h with ⟨_, h⟩ | ⟨hk, h⟩
        · exact .inr h
        · exact .inl (.inr ⟨k, List.not_mem_nil, h⟩)
    · rw [List.getElem?_set_ne (Ne.symm hj)] at e
      obtain ⟨w, e1, r1⟩ := hn j od' hj e
      refine ⟨w, by rw [List.getElem?_set_ne (Ne.symm hj)]; exact e1, ?_⟩
      rw [putA_ne hj]
      exact r1
  nd := fun j => by unfold putA; split; exact nA; exact S.nd j
  dj := fun j k a h1 h2 => by
    rcases putA_mem h1 with ⟨e1, h1⟩ | ⟨n1, h1⟩ <;> rcases putA_mem h2 with ⟨e2, h2⟩ | ⟨n2, h2⟩
    · rw [e1, e2]
    · exact absurd h2 (fA a h1 k)
    · exact absurd h1 (fA a h2 j)
    · exact S.dj j k a h1 h2
  ow := fun j a h => by
    rcases putA_mem h with ⟨_, h⟩ | ⟨_, h⟩
    · exact oA a h
    · exact S.ow j a h
  no := fun j a h => by
    rcases putA_mem h with ⟨_, h⟩ | ⟨_, h⟩
    · exact bA a h
    · exact S.no j a h
  hs := fun j a h => by
    rcases putA_mem h with ⟨_, h⟩ | ⟨_, h⟩
    · exact hA a h
    · exact S.hs j a h
  ob := S.ob
  fr := S.fr
  th := S.th
/-- shared data -/
theorem Sta.setSh (S : Sta B σ H ρ As) {i : Nat} {v : V} {d : D} (r : Rep B.P (cut H (hid B As [])) v d) : Sta B (σ.set i (some v)) H (ρ.set i (some (.sh d))) (putA As i []) := by
  refine S.put List.nodup_nil (fun _ h => nomatch h) (fun _ h => nomatch h) (fun _ h => nomatch h) (fun _ h => nomatch h) (.sh (r.up (cut_mono (Same.refl _) fun a h => ?_))) fun j od' hj e => ?_
  · rcases h with h | h
    · exact h
    · cases h
  · obtain ⟨w, e1, r1⟩ := S.pt j od' e
    refine ⟨w, e1, ?_⟩
    refine RepO.mono (cut_mono (Same.refl _) fun a h => ?_) _ _ _ r1 fun _ _ => rfl
    rcases h with h | ⟨k, _, h⟩
    · exact .inl h
    · rcases putA_mem h with ⟨_, h⟩ | ⟨hk, h⟩
      · cases h
      · exact .inr ⟨k, List.not_mem_nil, h⟩
/-- a new tree: its addresses were free at H1, before which all that stands in the slots was told -/
theorem Sta.setNew (S : Sta B σ H ρ As) {H1 : Hp} (S1 : Sta B σ H1 ρ As) (s : Same H1 H) {i : Nat} {v : V} {od : OD} {A : List Addr} (nA : A.Nodup) (fA : ∀ a ∈ A, H1 a = none)
    (r : RepO B.P (cut H (fun a => hid B As [] a ∨ a ∈ A)) H v od A) : Sta B (σ.set i (some v)) H (ρ.set i (some od)) (putA As i A) := by
  have fAs : ∀ a ∈ A, ∀ j, a ∉ As j := fun a ha j z => S1.hs j a z (fA a ha)
  have fH0 : ∀ a ∈ A, B.H0 a = none := fun a ha => by
    cases e : B.H0 a with
    | none => rfl
    | some o => exact absurd (fA a ha) (S1.th a (by rw [e]; exact nofun))
  refine S.put (v := v) nA fAs (fun a ha => .inr (fH0 a ha)) (fun a ha z => S1.ob a z (fA a ha)) (RepO.there _ _ _ r) r fun j od' hj e => ?_
  obtain ⟨w, e1, r1⟩ := S1.pt j od' e
  refine ⟨w, e1, RepO.mono (fun a o h => ?_) _ _ _ r1 fun a ha => ?_⟩
  · obtain ⟨h1, h2⟩ := cut_some h
    refine cut_of (fun z => ?_) (s a o h2)
    rcases z with z | ⟨k, _, z⟩
    · exact h1 (.inl z)
    · rcases putA_mem z with ⟨_, z⟩ | ⟨_, z⟩
      · rw [fA a z] at h2; cases h2
      · exact h1 (.inr ⟨k, List.not_mem_nil, z⟩)
  · obtain ⟨o, eo⟩ := ne_none (S1.hs j a ha)
    rw [eo, s a o eo]
/-- an owned tree changes in place -/
theorem Sta.mut (S : Sta B σ H ρ As) {i : Nat} {v : V} {od' : OD} {A' : List Addr} (hv : σ[i]? = some (some v)) (hk : ∀ a o, H a = some o → a ∉ As i → H' a = some o) (th : ∀ a, H a ≠ none → H' a ≠ none)
    (nA : A'.Nodup) (sub : ∀ a ∈ A', a ∈ As i ∨ H a = none) (r : RepO B.P (cut H' (hid B (putA As i A') [])) H' v od' A') : Sta B σ H' (ρ.set i (some od')) (putA As i A') where
  len := by rw [List.length_set]; exact S.len
  pt := fun j od e => by
    by_cases hj : j = i
    · subst hj
      have hi : j < ρ.length := by
        have h := (List.getElem?_eq_some_iff.mp e).1
        rw [List.length_set] at h
        exact h
      rw [List.getElem?_set_self hi] at e
      have e := Option.some.inj (Option.some.inj e)
      subst e
      exact ⟨v, hv, by rw [putA_same]; exact r⟩
    · rw [List.getElem?_set_ne (Ne.symm hj)] at e
      obtain ⟨w, e1, r1⟩ := S.pt j od e
      refine ⟨w, e1, ?_⟩
      rw [putA_ne hj]
      refine RepO.mono (fun a o h => ?_) _ _ _ r1 fun a ha => ?_
      · obtain ⟨h1, h2⟩ := cut_some h
        refine cut_of (fun z => ?_) (hk a o h2 fun z => h1 (.inr ⟨i, List.not_mem_nil, z⟩))
        rcases z with z | ⟨k, _, z⟩
        · exact h1 (.inl z)
        · rcases putA_mem z with ⟨_, z⟩ | ⟨_, z⟩
          · rcases sub a z with z | z
            · exact h1 (.inr ⟨i, List.not_mem_nil, z⟩)
            · rw [z] at h2; cases h2
          · exact h1 (.inr ⟨k, List.not_mem_nil, z⟩)
      · obtain ⟨o, eo⟩ := ne_none (S.hs j a ha)
        rw [eo, hk a o eo fun z => hj (S.dj j i a ha z)]
  nd := fun j => by unfold putA; split; exact nA; exact S.nd j
  dj := fun j k a h1 h2 => by
    have new : ∀ {j a}, a ∈ A' → a ∈ As j → j = i := fun {j a} h1 h2 => by
      rcases sub a h1 with h1 | h1
      · exact S.dj j i a h2 h1
      · exact absurd h1 (S.hs j a h2)
    rcases putA_mem h1 with ⟨e1, h1⟩ | ⟨n1, h1⟩ <;> rcases putA_mem h2 with ⟨e2, h2⟩ | ⟨n2, h2⟩
    · rw [e1, e2]
    · exact absurd (new h1 h2) n2
    · exact absurd (new h2 h1) n1
    · exact S.dj j k a h1 h2
  ow := fun j a h => by
    rcases putA_mem h with ⟨_, h⟩ | ⟨_, h⟩
    · rcases sub a h with h | h
      · exact S.ow i a h
      · right
        cases e : B.H0 a with
        | none => rfl
        | some o => exact absurd h (S.th a (by rw [e]; exact nofun))
    · exact S.ow j a h
  no := fun j a h => by
    rcases putA_mem h with ⟨_, h⟩ | ⟨_, h⟩
    · rcases sub a h with h | h
      · exact S.no i a h
      · exact fun z => S.ob a z h
    · exact S.no j a h
  hs := fun j a h => by
    rcases putA_mem h with ⟨_, h⟩ | ⟨_, h⟩
    · exact RepO.there _ _ _ r a h
    · exact th a (S.hs j a h)
  ob := fun a h => th a (S.ob a h)
  fr := fun a o h n => hk a o (S.fr a o h n) fun z => by
    rcases S.ow i a z with q | q
    · exact n q
    · rw [h] at q; cases q
  th := fun a h => th a (S.th a h)
/-- forgetting slots -/
def fgt1 (F : List Nat) : Nat → En → En
  | _, [] => []
  | n, o :: ρ => (if n ∈ F then none else o) :: fgt1 F (n + 1) ρ
def fgt (F : List Nat) (ρ : En) : En := fgt1 F 0 ρ
theorem fgt1_get (F : List Nat) : ∀ (ρ : En) (n i : Nat), (fgt1 F n ρ)[i]? = (ρ[i]?).map fun o => if n + i ∈ F then none else o
  | [], n, i => by simp [fgt1]
  | o :: ρ, n, 0 => by simp [fgt1]
  | o :: ρ, n, i + 1 => by
    have h := fgt1_get F ρ (n + 1) i
    rw [fgt1, List.getElem?_cons_succ, List.getElem?_cons_succ, h]
    congr 1
    funext o
    rw [show n + 1 + i = n + (i + 1) by omega]
theorem fgt1_len (F : List Nat) : ∀ (ρ : En) (n : Nat), (fgt1 F n ρ).length = ρ.length
  | [], n => rfl
  | o :: ρ, n => by rw [fgt1, List.length_cons, List.length_cons, fgt1_len F ρ]
theorem Sta.fgt (S : Sta B σ H ρ As) (F : List Nat) : Sta B σ H (fgt F ρ) As := { S with
  len := by rw [DL.fgt, fgt1_len]; exact S.len
  pt := fun i od e => by
    rw [DL.fgt, fgt1_get, Nat.zero_add] at e
    cases q : ρ[i]? with
    | none => rw [q] at e; cases e
    | some o =>
      rw [q, Option.map_some] at e
      have e := Option.some.inj e
      split at e
      · cases e
      · subst e; exact S.pt i od q }
/-- the slots' own values, less known -/
theorem Sta.slots (S : Sta B σ H ρ As) {σ' : L2.St} (hl : σ'.length = σ.length) (h : ∀ (i : Nat) v od, ρ[i]? = some (some od) → σ[i]? = some (some v) → σ'[i]? = some (some v)) : Sta B σ' H ρ As := { S with
  len := hl.trans S.len
  pt := fun i od e => by
    obtain ⟨v, e1, r⟩ := S.pt i od e
    exact ⟨v, h i v od e e1, r⟩ }
end
end DL
set_option Elab.async false
set_option linter.all false
set_option maxRecDepth 100000
namespace DL
open PySem PySem.Spec PyProof.Rows L2

/-! ## statements: the rules -/
def nxS : En → Out := fun ρ => .nx ρ
def seqS (s t : En → Out) : En → Out := fun ρ => (s ρ).bind t
def exprS (f : En → R D) : En → Out := fun ρ => (f ρ).out ρ fun _ => .nx ρ
def retS (E : List Nat) (f : En → R D) : En → Out := fun ρ => (f ρ).out ρ fun d => .rt (.sh d) (frzIf d E ρ)
def retN : En → Out := fun ρ => .rt (.sh .non) ρ
def setS (i : Nat) (E : List Nat) (f : En → R D) : En → Out := fun ρ => (f ρ).out ρ fun d => .nx ((frzIf d E ρ).set i (some (.sh d)))
/- all that is shared below is flat -/
mutual
def OD.fl : OD → Bool
  | .sh d => d.flat
  | .lst xs => OD.flL xs
  | .dic kvs => OD.flK kvs
  | .obj _ fs => OD.flF fs
def OD.flL : List OD → Bool
  | [] => true
  | x :: xs => x.fl && OD.flL xs
def OD.flK : List (D × OD) → Bool
  | [] => true
  | (_, x) :: xs => x.fl && OD.flK xs
def OD.flF : List (Str × OD) → Bool
  | [] => true
  | (_, x) :: xs => x.fl && OD.flF xs
end
theorem OD.flL_all : ∀ xs : List OD, OD.flL xs = xs.all OD.fl
  | [] => rfl
  | x :: xs => by rw [OD.flL, OD.flL_all xs]; rfl
@[simp] theorem OD.fl_sh (d : D) : (OD.sh d).fl = d.flat := rfl
@[simp] theorem OD.fl_lst (xs : List OD) : (OD.lst xs).fl = xs.all OD.fl := by rw [OD.fl, OD.flL_all]
section
variable {P : Wd} {G G' H : Hp}
mutual
theorem RepO.fl : ∀ (x : OD) (v : V) (A : List Addr), RepO P G H v x A → x.fl = true → RepO P G' H v x A
  | .sh d, _, _, h, f => by cases h with | sh r => exact .sh (r.flat f)
  | .lst xs, _, _, h, f => by
    cases h with
    | lst h1 h2 => exact .lst h1 (RepOL.fl xs _ _ h2 f)
  | .dic xs, _, _, h, f => by
    cases h with
    | dic h1 h2 => exact .dic h1 (RepOK.fl xs _ _ h2 f)
    | dicT h1 h2 => exact .dicT h1 (RepOT.fl xs _ _ h2 f)
  | .obj c xs, _, _, h, f => by
    cases h with
    | obj h0 h1 h2 => exact .obj h0 h1 (RepOF.fl xs _ _ h2 f)
theorem RepOL.fl : ∀ (x : List OD) (v : List V) (A : List Addr), RepOL P G H v x A → OD.flL x = true → RepOL P G' H v x A
  | [], _, _, h, f => by cases h; exact .nil
  | x :: xs, _, _, h, f => by
    rw [OD.flL, Bool.and_eq_true] at f
    cases h with
    | cons h1 h2 => exact .cons (RepO.fl x _ _ h1 f.1) (RepOL.fl xs _ _ h2 f.2)
theorem RepOK.fl : ∀ (x : List (D × OD)) (v : List (Key × V)) (A : List Addr), RepOK P G H v x A → OD.flK x = true → RepOK P G' H v x A
  | [], _, _, h, f => by cases h; exact .nil
  | (_, x) :: xs, _, _, h, f => by
    rw [OD.flK, Bool.and_eq_true] at f
    cases h with
    | cons h1 h2 => exact .cons (RepO.fl x _ _ h1 f.1) (RepOK.fl xs _ _ h2 f.2)
theorem RepOT.fl : ∀ (x : List (D × OD)) (v : List (List Key × V)) (A : List Addr), RepOT P G H v x A → OD.flK x = true → RepOT P G' H v x A
  | [], _, _, h, f => by cases h; exact .nil
  | (_, x) :: xs, _, _, h, f => by
    rw [OD.flK, Bool.and_eq_true] at f
    cases h with
    | cons h1 h2 => exact .cons (RepO.fl x _ _ h1 f.1) (RepOT.fl xs _ _ h2 f.2)
theorem RepOF.fl : ∀ (x : List (Str × OD)) (v : List (Str × V)) (A : List Addr), RepOF P G H v x A → OD.flF x = true → RepOF P G' H v x A
  | [], _, _, h, f => by cases h; exact .nil
  | (_, x) :: xs, _, _, h, f => by
    rw [OD.flF, Bool.and_eq_true] at f
    cases h with
    | cons h1 h2 => exact .cons (RepO.fl x _ _ h1 f.1) (RepOF.fl xs _ _ h2 f.2)
end
end
def frzO (od : OD) (E : List Nat) (ρ : En) : En := if od.fl then ρ else frz E ρ
def retF (E : List Nat) (f : En → R OD) : En → Out := fun ρ => (f ρ).out ρ fun d => .rt d (frzO d E ρ)
def setF (i : Nat) (E : List Nat) (f : En → R OD) : En → Out := fun ρ => (f ρ).out ρ fun d => .nx ((frzO d E ρ).set i (some d))
def ifS (t : En → R Bool) (a b : En → Out) : En → Out := fun ρ => (t ρ).out ρ fun c => if c then a ρ else b ρ
def okLen (n : Nat) : Bool := decide (n < 16777216)
theorem okLen_lt {n : Nat} (h : okLen n = true) : n < sizeLine := by rw [sizeLine_eq]; exact of_decide_eq_true h
section
variable {X : Cx} {B : Bs} {W : WX} {M M' E E1 : List Nat} {s t : En → Out} {st : Stmt} {rest : List Stmt} {e : Expr} {f : En → R D} {fo : En → R OD} {pos : Pos}
theorem s_nil : PSs X [] (tS B W [] nxS) := pss_nil.imp fun D σ H ⟨ρ, As, S, h⟩ => h σ H As S (Kp.refl (Same.refl _))
theorem s_cons (h1 : PS X st (tS B W M s)) (h2 : PSs X rest (tS B W M' t)) : PSs X (st :: rest) (tS B W (M ++ M') (seqS s t)) :=
  (pss_cons h1 h2).imp fun D σ H ⟨ρ, As, S, h⟩ => tS_bind S h fun ρ' σ' H' As' S' q => ⟨ρ', As', S', q⟩
theorem s_one (h1 : PS X st (tS B W M s)) : PSs X [st] (tS B W M s) := pss_one h1
theorem s_pass : PS X (.Pass pos) (tS B W [] nxS) := ps_pass.imp fun D σ H ⟨ρ, As, S, h⟩ => h σ H As S (Kp.refl (Same.refl _))
theorem s_break : PS X (.Break pos) (tS B W [] fun ρ => .bk ρ) := ps_break.imp fun D σ H ⟨ρ, As, S, h⟩ => h σ H As S (Kp.refl (Same.refl _))
theorem s_continue : PS X (.Continue pos) (tS B W [] fun ρ => .ct ρ) := ps_continue.imp fun D σ H ⟨ρ, As, S, h⟩ => h σ H As S (Kp.refl (Same.refl _))
theorem s_expr (h : PE X e (tD B W E f)) (hs : swapsWith e none pos.line X.env = pure false := by rfl) : PS X (.Expr e pos) (tS B W [] (exprS f)) :=
  (ps_expr h hs).imp fun D σ H ⟨ρ, As, S, h⟩ => tD_out S h fun d v H1 s1 S1 r q => q σ H1 As S1 (Kp.refl (Same.refl _))
theorem rep_frz {d : D} {σ : L2.St} {H : Hp} {ρ : En} {As : Ow} {v : V} (S : Sta B σ H ρ As) (r : Rep B.P (cut H (hid B As E)) v d) : ∃ A', Sta B σ H (frzIf d E ρ) A' ∧ Rep B.P (cut H (hid B A' [])) v d ∧ Kp [] σ H As σ H A' := by
  unfold frzIf
  cases q : d.flat with
  | true => exact ⟨As, S, r.flat q, Kp.refl (Same.refl _)⟩
  | false => exact ⟨exAs E As, S.frz, r.up (cut_mono (Same.refl _) hid_ex), ⟨rfl, fun _ _ => rfl, fun _ _ h => .inl (exAs_sub h), fun a o e _ => e, fun a h => h⟩⟩
theorem repO_frz {d : OD} {σ : L2.St} {H : Hp} {ρ : En} {As : Ow} {v : V} {A : List Addr} (S : Sta B σ H ρ As) (r : RepO B.P (cut H fun a => hid B As E a ∨ a ∈ A) H v d A) : ∃ A', Sta B σ H (frzO d E ρ) A' ∧ RepO B.P (cut H fun a => hid B A' [] a ∨ a ∈ A) H v d A ∧ Kp [] σ H As σ H A' ∧ (∀ i a, a ∈ A' i → a ∈ As i) := by
  unfold frzO
  cases q : d.fl with
  | true => exact ⟨As, S, RepO.fl _ _ _ r q, Kp.refl (Same.refl _), fun _ _ h => h⟩
  | false => exact ⟨exAs E As, S.frz, RepO.mono (cut_mono (Same.refl _) fun a h => h.imp (hid_ex a) id) _ _ _ r fun _ _ => rfl, ⟨rfl, fun _ _ => rfl, fun _ _ h => .inl (exAs_sub h), fun a o e _ => e, fun a h => h⟩, fun _ _ h => exAs_sub h⟩
theorem s_ret (h : PE X e (tD B W E f)) : PS X (.Return (some e) pos) (tS B W [] (retS E f)) :=
  (ps_ret h).imp fun D σ H ⟨ρ, As, S, h⟩ => tD_out S h fun d v H1 s1 S1 r q => by
    obtain ⟨A', S2, r2, k⟩ := rep_frz S1 r
    exact q v [] σ H1 A' S2 k List.nodup_nil (fun _ h => nomatch h) (fun _ h => nomatch h) (.sh (r2.up (cut_mono (Same.refl _) fun a h => h.resolve_right List.not_mem_nil)))
theorem s_retF (h : PE X e (tF B W E fo)) : PS X (.Return (some e) pos) (tS B W [] (retF E fo)) :=
  (ps_ret h).imp fun D σ H ⟨ρ, As, S, h⟩ => tF_out S h fun d v A H1 s1 S1 nA fA r q => by
    obtain ⟨A', S2, r2, k, hs⟩ := repO_frz S1 r
    refine q v A σ H1 A' S2 k nA (fun a ha => ?_) (fun a ha i z => S.hs i a (hs i a z) (fA a ha)) r2
    cases e : B.H0 a with
    | none => rfl
    | some o => exact absurd (fA a ha) (S.th a (by rw [e]; exact nofun))
theorem s_retN : PS X (.Return none pos) (tS B W [] retN) := ps_retN.imp fun D σ H ⟨ρ, As, S, h⟩ =>
  h .non [] σ H As S (Kp.refl (Same.refl _)) List.nodup_nil (fun _ h => nomatch h) (fun _ h => nomatch h) (.sh .non)
theorem Kp.set {σ : L2.St} {H : Hp} {As A' : Ow} (k : Kp [] σ H As σ H A') {i : Nat} {v : V} {A : List Addr} (hA : ∀ a ∈ A, a ∈ As i ∨ H a = none) : Kp [i] σ H As (σ.set i (some v)) H (putA A' i A) :=
  ⟨List.length_set, fun j hj => List.getElem?_set_ne fun z => hj (by rw [z]; exact List.mem_cons_self), fun j a h => by
    rcases putA_mem h with ⟨e, h⟩ | ⟨_, h⟩
    · rw [e]; exact hA a h
    · exact k.k2 j a h, fun a o e _ => e, fun a h => h⟩
theorem s_set (i : Nat) {x : Str} {p' : Pos} (hN : X.N.Nodup) (hi : X.N[i]? = some x) (hx : Loc X.env.scope x) (h : PE X e (tD B W E f)) (hs : swapsWith e (some (.Name x p')) pos.line X.env = pure false := by rfl) (hf : X.fn x = true ∨ X.env.scope.names.lookup x = some .local := by first | exact .inl rfl | exact .inr rfl | assumption) :
    PS X (.Assign [.Name x p'] e pos) (tS B W [i] (setS i E f)) :=
  (ps_set hN hi hx h hs hf).imp fun D σ H ⟨ρ, As, S, h⟩ => tD_out S h fun d v H1 s1 S1 r q => by
    obtain ⟨A', S2, r2, k⟩ := rep_frz S1 r
    exact q _ H1 _ (S2.setSh r2) (k.set fun _ h => nomatch h)
theorem repO_frz2 {d : OD} {σ : L2.St} {H H1 : Hp} {ρ : En} {As : Ow} {v : V} {A : List Addr} (S : Sta B σ H ρ As) (s : Same H H1) (r : RepO B.P (cut H1 fun a => hid B As E a ∨ a ∈ A) H1 v d A) :
    ∃ A', Sta B σ H (frzO d E ρ) A' ∧ Sta B σ H1 (frzO d E ρ) A' ∧ RepO B.P (cut H1 fun a => hid B A' [] a ∨ a ∈ A) H1 v d A ∧ Kp [] σ H As σ H1 A' := by
  have S1 := S.same s
  unfold frzO
  cases q : d.fl with
  | true => exact ⟨As, S, S1, RepO.fl _ _ _ r q, Kp.refl s⟩
  | false => exact ⟨exAs E As, S.frz, S1.frz, RepO.mono (cut_mono (Same.refl _) fun a h => h.imp (hid_ex a) id) _ _ _ r fun _ _ => rfl, ⟨rfl, fun _ _ => rfl, fun _ _ h => .inl (exAs_sub h), fun a o e _ => s a o e, fun a h => same_ne s h⟩⟩
theorem imp_setF (i : Nat) {D : Ends} {σ : L2.St} {H : Hp} (h : tS B W [i] (setF i E fo) D σ H) : tF B W E fo σ H (fun x H1 => gName i x σ H1 D.nx) := by
    obtain ⟨ρ, As, S, h⟩ := h
    refine ⟨ρ, As, S, ?_⟩
    unfold setF at h
    cases e : fo ρ with
    | st => rw [e] at h; exact h
    | ex c fs => rw [e] at h; exact Exk_of S h
    | ok d =>
      rw [e] at h
      intro v A H1 s1 nA fA r
      obtain ⟨A', S2, S3, r2, k⟩ := repO_frz2 S s1 r
      refine h _ H1 _ (S3.setNew S2 s1 nA fA r2) ⟨List.length_set, fun j hj => List.getElem?_set_ne fun z => hj (by rw [z]; exact List.mem_cons_self), fun j a h => ?_, fun a o e _ => s1 a o e, fun a h => same_ne s1 h⟩
      rcases putA_mem h with ⟨_, h⟩ | ⟨_, h⟩
      · exact .inr (fA a h)
      · exact k.k2 j a h
theorem s_setF (i : Nat) {x : Str} {p' : Pos} (hN : X.N.Nodup) (hi : X.N[i]? = some x) (hx : Loc X.env.scope x) (h : PE X e (tF B W E fo)) (hs : swapsWith e (some (.Name x p')) pos.line X.env = pure false := by rfl) (hf : X.fn x = true ∨ X.env.scope.names.lookup x = some .local := by first | exact .inl rfl | exact .inr rfl | assumption) :
    PS X (.Assign [.Name x p'] e pos) (tS B W [i] (setF i E fo)) :=
  (ps_set hN hi hx h hs hf).imp fun D σ H h => imp_setF i h
theorem s_if {c : Expr} {a b : List Stmt} {tc : En → R Bool} (hc : PT X c (tT B W tc)) (h1 : PSs X a (tS B W M s)) (h2 : PSs X b (tS B W M' t)) : PS X (.If c a b pos) (tS B W (M ++ M') (ifS tc s t)) :=
  (ps_if hc h1 h2).imp fun D σ H ⟨ρ, As, S, h⟩ => tT_out S h fun d H1 s1 S1 q => by
    cases d with
    | true => exact ⟨ρ, As, S1, Out.go_mono (fun i hi => List.mem_append_left _ hi) q⟩
    | false => exact ⟨ρ, As, S1, Out.go_mono (fun i hi => List.mem_append_right _ hi) q⟩

/-! ### loops -/
def loopS (fg : List Nat) (bnd : DL.D → En → Option En) (body : En → Out) : List DL.D → En → Out
  | [], ρ => .nx ρ
  | d :: ds, ρ => match bnd d ρ with
    | none => .st
    | some ρ1 => match body ρ1 with
      | .nx ρ2 => loopS fg bnd body ds (fgt fg ρ2)
      | .ct ρ2 => loopS fg bnd body ds (fgt fg ρ2)
      | .bk ρ2 => .nx ρ2
      | o => o
/-- the target of a loop, of an assignment -/
def tG (B : Bs) (M : List Nat) (bnd : DL.D → En → Option En) : TG := fun v σ H Q => ∃ ρ As d, Sta B σ H ρ As ∧ Rep B.P (cut H (hid B As [])) v d ∧ match bnd d ρ with
  | some ρ' => ∀ σ' As', Sta B σ' H ρ' As' → Kp M σ H As σ' H As' → (∀ i, i ∉ M → As' i = As i) → Q σ' H
  | none => False
def bName (i : Nat) : DL.D → En → Option En := fun d ρ => some (ρ.set i (some (.sh d)))
theorem _root_.L2.PG.imp {tg : Expr} {t t' : TG} (h : PG X tg t) (i : ∀ v σ H Q, t' v σ H Q → t v σ H Q) : PG X tg t' := ⟨fun p s σ H v u Q I r q => h.run p s σ H v u Q I r (i v σ H Q q)⟩
theorem g_name (i : Nat) {x : Str} (hN : X.N.Nodup) (hi : X.N[i]? = some x) (hx : Loc X.env.scope x) (hf : X.fn x = true ∨ X.env.scope.names.lookup x = some .local := by first | exact .inl rfl | exact .inr rfl | assumption) : PG X (.Name x pos) (tG B [i] (bName i)) :=
  (pg_name hN hi hx hf).imp fun v σ H Q ⟨ρ, As, d, S, r, h⟩ => h _ _ (S.setSh r) ((Kp.refl (Same.refl _) : Kp [] σ H As σ H As).set fun _ h => nomatch h) fun j hj => putA_ne fun z => hj (by rw [z]; exact List.mem_cons_self)
/-- what is walked yields the data ds -/
structure Walks (P : Wd) (G Ge : Hp) (J : It) (ds : List DL.D) : Prop where
  go : ∀ i H, Same G H → i < ds.length → J.go i H
  stop : ∀ i H, Same G H → ds.length ≤ i → J.stop i H
  yld : ∀ i H x H' d, Same G H → J.yld i H x H' → ds[i]? = some d → Same H H' ∧ ∃ G', Same Ge G' ∧ Same G' H' ∧ (∀ a o, G' a = some o → Ge a = some o ∨ H a = none) ∧ Rep P G' x d
def tI (B : Bs) (W : WX) (E Ee : List Nat) (f : En → R (List DL.D)) : TI := fun σ H Rr => ∃ ρ As, Sta B σ H ρ As ∧
  (f ρ).go (fun ds => ∀ J H', Same H H' → Walks B.P (cut H' (hid B As E)) (cut H' (hid B As Ee)) J ds → Rr J H') (Exk B W σ H)
def forS (Ee fg : List Nat) (bnd : DL.D → En → Option En) (it : En → R (List DL.D)) (body : En → Out) : En → Out := fun ρ => (it ρ).out ρ fun ds => loopS fg bnd body ds (if ds.all DL.D.flat then ρ else frz Ee ρ)
theorem s_for {Ee : List Nat} {tg iter : Expr} {body : List Stmt} {it : En → R (List DL.D)} {bnd : DL.D → En → Option En} {Mg : List Nat} (fg : List Nat) (hp : PassesOwn (model X.prog X.w) X.A X.env X.xe) (hc : X.calm = true) (hi : PI X tg iter (tI B W E Ee it)) (hg : PG X tg (tG B Mg bnd)) (hb : PSs X body (tS B W M s))
    (hd : ∀ i ∈ E, i ∉ Mg ++ M) (hs : ∀ x, foldedSetIterable iter X.env x = pure x := by intro _; rfl) : PS X (.For tg iter body [] pos) (tS B W (Mg ++ M) (forS Ee fg bnd it s)) :=
  (ps_for hp hc hi hg hb hs).imp fun D σ H ⟨ρ, As, S, h⟩ => by
    refine ⟨ρ, As, S, ?_⟩
    unfold forS at h
    cases e : it ρ with
    | st => rw [e] at h; exact h
    | ex c fs => rw [e] at h; exact Exk_of S h
    | ok ds =>
      rw [e] at h
      intro J H1 s1 wk
      have S1 := S.same s1
      have h := Out.go_from (M := []) (M' := Mg ++ M) (Kp.refl s1 : Kp [] σ H As σ H1 As) h
      -- the slots at the loop's start: elements may be bound to names
      obtain ⟨ρ1, A1, S2, hv, e1, kk⟩ : ∃ ρ1 A1, Sta B σ H1 ρ1 A1 ∧ ((∀ d ∈ ds, d.flat = true) ∨ ∀ a, hid B A1 [] a → hid B As Ee a) ∧ ρ1 = (if ds.all DL.D.flat then ρ else frz Ee ρ) ∧ Kp [] σ H1 As σ H1 A1 := by
        cases q : ds.all DL.D.flat with
        | true => exact ⟨ρ, As, S1, .inl (List.all_eq_true.mp q), by simp, Kp.refl (Same.refl _)⟩
        | false => exact ⟨frz Ee ρ, exAs Ee As, S1.frz, .inr hid_ex, by simp, ⟨rfl, fun _ _ => rfl, fun _ _ h => .inl (exAs_sub h), fun a o e _ => e, fun a h => h⟩⟩
      replace h : (loopS fg bnd s ds ρ1).go B W (Mg ++ M) σ H1 As D := by rw [e1]; exact h
      refine ⟨fun i m σt Ht => m = ds.length - i ∧ i ≤ ds.length ∧ ∃ ρt At, Sta B σt Ht ρt At ∧ Kp (Mg ++ M) σ H1 As σt Ht At ∧ (∀ j a, a ∈ At j → a ∈ A1 j ∨ H1 a = none) ∧ (loopS fg bnd s (ds.drop i) ρt).go B W (Mg ++ M) σt Ht At D, ⟨ds.length, rfl, Nat.zero_le _, ρ1, A1, S2, kk.mono fun _ h => absurd h List.not_mem_nil, fun j a h => .inl h, Out.go_from (M := []) (M' := Mg ++ M) kk h⟩, ?_⟩
      rintro i m σt Ht ⟨rfl, hle, ρt, At, St, kt, sub, ht⟩
      -- what is walked stands
      have sG : Same (cut H1 (hid B As E)) Ht := fun a o ha => by
        obtain ⟨n1, n2⟩ := cut_some ha
        exact kt.k3 a o n2 fun j hj z => n1 (.inr ⟨j, fun z' => hd j z' hj, z⟩)
      by_cases hlt : i < ds.length
      · refine .inr ⟨wk.go i Ht sG hlt, fun σ' H' => ∃ ρ' A', Sta B σ' H' ρ' A' ∧ Kp (Mg ++ M) σ H1 As σ' H' A' ∧ (∀ j a, a ∈ A' j → a ∈ A1 j ∨ H1 a = none) ∧ (loopS fg bnd s (ds.drop (i + 1)) ρ').go B W (Mg ++ M) σ' H' A' D, fun σ' H' ⟨ρ', A', S', k', sb', h'⟩ => ⟨_, by omega, rfl, hlt, ρ', A', S', k', sb', h'⟩, fun x H' y => ?_⟩
        have ed : ds[i]? = some ds[i] := List.getElem?_eq_getElem hlt
        obtain ⟨s', G', g1, g2, g3, r⟩ := wk.yld i Ht x H' ds[i] sG y ed
        rw [List.drop_eq_getElem_cons hlt, loopS] at ht
        have St' := St.same s'
        refine ⟨ρt, At, ds[i], St', ?_, ?_⟩
        · rcases hv with hv | hv
          · exact r.flat (hv _ (List.getElem_mem hlt))
          · refine r.up fun a o ha => cut_of (fun z => ?_) (g2 a o ha)
            rcases g3 a o ha with q | q
            · obtain ⟨q1, q2⟩ := cut_some q
              rcases z with z | ⟨j, _, z⟩
              · exact q1 (.inl z)
              · rcases sub j a z with z | z
                · exact q1 (hv a (.inr ⟨j, List.not_mem_nil, z⟩))
                · rw [z] at q2; cases q2
            · rcases z with z | ⟨j, _, z⟩
              · exact St.ob a z q
              · exact St.hs j a z q
        · cases eb : bnd ds[i] ρt with
          | none => rw [eb] at ht; exact ht
          | some ρ2 =>
            rw [eb] at ht
            intro σ2 A2 S2' k2 _
            have kA : Kp Mg σt Ht At σ2 H' A2 := by
              have z := (Kp.refl s' : Kp [] σt Ht At σt H' At).trans k2
              exact z.mono fun i hi => hi
            have k12 : Kp (Mg ++ M) σ H1 As σ2 H' A2 := (kt.trans kA).mono fun j hj => (List.mem_append.mp hj).elim id fun z => List.mem_append_left _ z
            have sub2 : ∀ j a, a ∈ A2 j → a ∈ A1 j ∨ H1 a = none := fun j a z => by
              rcases kA.k2 j a z with z | z
              · exact sub j a z
              · right
                cases q : H1 a with
                | none => rfl
                | some o => exact absurd z (kt.k4 a (by rw [q]; exact nofun))
            refine ⟨ρ2, A2, S2', ?_⟩
            -- the body's ends
            have fin : ∀ {ρ3 σ3 H3 A3}, Sta B σ3 H3 ρ3 A3 → Kp M σ2 H' A2 σ3 H3 A3 → (loopS fg bnd s (ds.drop (i + 1)) (fgt fg ρ3)).go B W (Mg ++ M) σt Ht At D → ∃ ρ' A', Sta B σ3 H3 ρ' A' ∧ Kp (Mg ++ M) σ H1 As σ3 H3 A' ∧ (∀ j a, a ∈ A' j → a ∈ A1 j ∨ H1 a = none) ∧ (loopS fg bnd s (ds.drop (i + 1)) ρ').go B W (Mg ++ M) σ3 H3 A' D := fun {ρ3 σ3 H3 A3} S3 k3 h3 => by
              refine ⟨_, A3, S3.fgt fg, (k12.trans k3).mono fun j hj => (List.mem_append.mp hj).elim id fun z => List.mem_append_right _ z, fun j a z => ?_, ?_⟩
              · rcases k3.k2 j a z with z | z
                · exact sub2 j a z
                · right
                  cases q : H1 a with
                  | none => rfl
                  | some o => exact absurd z (k12.k4 a (by rw [q]; exact nofun))
              · refine Out.go_from (M := Mg ++ M) (M' := Mg ++ M) ((kA.trans k3)) (Out.go_mono (fun j hj => ?_) h3)
                exact (List.mem_append.mp hj).elim id id
            have low : ∀ j ∈ Mg ++ M, j ∈ Mg ++ M := fun _ h => h
            revert ht
            show (match s ρ2 with
              | .nx ρ2 => loopS fg bnd s (ds.drop (i + 1)) (fgt fg ρ2)
              | .ct ρ2 => loopS fg bnd s (ds.drop (i + 1)) (fgt fg ρ2)
              | .bk ρ2 => .nx ρ2
              | o => o).go B W (Mg ++ M) σt Ht At D → _
            cases s ρ2 with
            | nx ρ3 => exact fun ht σ3 H3 A3 S3 k3 => fin S3 k3 ht
            | ct ρ3 => exact fun ht σ3 H3 A3 S3 k3 => fin S3 k3 ht
            | bk ρ3 => exact fun ht σ3 H3 A3 S3 k3 => ht σ3 H3 A3 S3 (kA.trans k3)
            | rt od ρ3 => exact fun ht v A σ3 H3 A3 S3 k3 => ht v A σ3 H3 A3 S3 (kA.trans k3)
            | ex c fs ρ3 => exact fun ht => Out.go_from (o := .ex c fs ρ3) (D := D) kA ht
            | st => exact fun ht => ht
      · have e2 : i = ds.length := by omega
        subst e2
        rw [List.drop_length, loopS] at ht
        exact .inl ⟨wk.stop _ Ht sG (Nat.le_refl _), ht σt Ht At St (Kp.refl (Same.refl _))⟩
end
end DL
set_option Elab.async false
set_option linter.all false
set_option maxRecDepth 100000
namespace DL
open PySem PySem.Spec PyProof.Rows L2
section
variable {X : Cx} {B : Bs} {W : WX} {M M' E E1 : List Nat} {s t : En → Out} {st : Stmt} {rest : List Stmt} {e : Expr} {f : En → R D} {fo : En → R OD} {pos : Pos}
/-! ### while -/
def whS (fg : List Nat) (c : En → R Bool) (body : En → Out) : Nat → En → Out
  | 0, _ => .st
  | n + 1, ρ => (c ρ).out ρ fun b => if b then (match body ρ with
      | .nx ρ2 => whS fg c body n (fgt fg ρ2)
      | .ct ρ2 => whS fg c body n (fgt fg ρ2)
      | .bk ρ2 => .nx ρ2
      | o => o) else .nx ρ
theorem s_while {c : Expr} {body : List Stmt} {tc : En → R Bool} (fg : List Nat) (n : Nat) (hp : PassesOwn (model X.prog X.w) X.A X.env X.xe) (hc : PT X c (tT B W tc)) (hb : PSs X body (tS B W M s)) : PS X (.While c body [] pos) (tS B W M (whS fg tc s n)) :=
  (ps_while hp hc hb).imp fun D σ H ⟨ρ, As, S, h⟩ => by
    refine ⟨fun m σt Ht => ∃ ρt At, Sta B σt Ht ρt At ∧ (whS fg tc s m ρt).go B W M σt Ht At D, ⟨n, ρ, As, S, h⟩, ?_⟩
    rintro m σt Ht ⟨ρt, At, St, ht⟩
    cases m with
    | zero => exact ht.elim
    | succ m =>
      rw [whS] at ht
      refine tT_out St ht fun b H1 s1 S1 q => ?_
      cases b with
      | false => exact q σt H1 At S1 (Kp.refl (Same.refl _))
      | true =>
        refine ⟨fun σ' H' => ∃ ρ' A', Sta B σ' H' ρ' A' ∧ (whS fg tc s m ρ').go B W M σ' H' A' D, fun σ' H' ⟨ρ', A', S', h'⟩ => ⟨m, Nat.lt_succ_self m, ρ', A', S', h'⟩, ρt, At, S1, ?_⟩
        have fin : ∀ {ρ3 σ3 H3 A3}, Sta B σ3 H3 ρ3 A3 → Kp M σt H1 At σ3 H3 A3 → (whS fg tc s m (fgt fg ρ3)).go B W M σt H1 At D → ∃ ρ' A', Sta B σ3 H3 ρ' A' ∧ (whS fg tc s m ρ').go B W M σ3 H3 A' D := fun {ρ3 σ3 H3 A3} S3 k3 h3 =>
          ⟨_, A3, S3.fgt fg, Out.go_from (M := M) (M' := M) k3 (Out.go_mono (fun j hj => (List.mem_append.mp hj).elim id id) h3)⟩
        revert q
        show (match s ρt with
          | .nx ρ2 => whS fg tc s m (fgt fg ρ2)
          | .ct ρ2 => whS fg tc s m (fgt fg ρ2)
          | .bk ρ2 => .nx ρ2
          | o => o).go B W M σt H1 At D → _
        cases s ρt with
        | nx ρ3 => exact fun ht σ3 H3 A3 S3 k3 => fin S3 k3 ht
        | ct ρ3 => exact fun ht σ3 H3 A3 S3 k3 => fin S3 k3 ht
        | bk ρ3 => exact fun ht => ht
        | rt od ρ3 => exact fun ht => ht
        | ex c fs ρ3 => exact fun ht => ht
        | st => exact fun ht => ht

/-! ### a list in a slot changes -/
theorem append_A {P : Wd} {G H : Hp} {vs ws : List V} {xs ys : List OD} {A A' : List Addr} (h : RepOL P G H vs xs A) (g : RepOL P G H ws ys A') : RepOL P G H (vs ++ ws) (xs ++ ys) (A ++ A') := by
  induction xs generalizing vs A with
  | nil => cases h; exact g
  | cons x xs ih =>
    cases h with
    | cons h1 h2 =>
      rw [List.cons_append, List.cons_append, List.append_assoc]
      exact .cons h1 (ih h2)
/-- the tree in a slot is a list at l, owned: its items -/
theorem Sta.list {σ : L2.St} {H : Hp} {ρ : En} {As : Ow} (S : Sta B σ H ρ As) {i : Nat} {xs : List OD} (h : ρ[i]? = some (some (.lst xs))) :
    ∃ l vs A, σ[i]? = some (some (.ref l)) ∧ As i = l :: A ∧ H l = some (.lst vs) ∧ RepOL B.P (cut H (hid B As [])) H vs xs A := by
  obtain ⟨v, e1, r⟩ := S.pt i _ h
  generalize hA : As i = A0 at r
  cases r with
  | lst h1 h2 => exact ⟨_, _, _, e1, rfl, h1, h2⟩
theorem RepOL.len {P : Wd} {G H : Hp} {vs : List V} {xs : List OD} {A : List Addr} (h : RepOL P G H vs xs A) : vs.length = xs.length := by
  induction xs generalizing vs A with
  | nil => cases h; rfl
  | cons x xs ih =>
    cases h with
    | cons h1 h2 => rw [List.length_cons, List.length_cons, ih h2]
/-- .. and is another list of known things behind a store -/
theorem Sta.relist {σ : L2.St} {H : Hp} {ρ : En} {As : Ow} (S : Sta B σ H ρ As) {i : Nat} {l : Addr} {A A' : List Addr} {ws : List V} {ys : List OD} (e1 : σ[i]? = some (some (.ref l))) (eA : As i = l :: A)
    (nA : (l :: A').Nodup) (sub : ∀ a ∈ A', a ∈ A ∨ H a = none) (r : RepOL B.P (cut H (hid B (putA As i (l :: A')) [])) H ws ys A') : Sta B σ (upd H l (.lst ws)) (ρ.set i (some (.lst ys))) (putA As i (l :: A')) := by
  have hl : l ∈ As i := by rw [eA]; exact List.mem_cons_self
  have hH := S.hs i l hl
  refine S.mut e1 (fun a o h n => ?_) (fun a h => ?_) nA (fun a ha => ?_) (.lst upd_same (RepOL.mono (fun a o h => ?_) _ _ _ r fun a ha => ?_))
  · rw [upd_ne (fun z => n (by rw [z]; exact hl))]; exact h
  · by_cases e : a = l
    · rw [e, upd_same]; exact nofun
    · rw [upd_ne e]; exact h
  · rcases List.mem_cons.mp ha with rfl | ha
    · exact .inl hl
    · rcases sub a ha with z | z
      · exact .inl (by rw [eA]; exact List.mem_cons_of_mem _ z)
      · exact .inr z
  · obtain ⟨h1, h2⟩ := cut_some h
    refine cut_of h1 ?_
    rw [upd_ne (fun z => h1 (.inr ⟨i, List.not_mem_nil, by rw [putA_same, z]; exact List.mem_cons_self⟩))]
    exact h2
  · rw [upd_ne]
    intro z
    exact (List.nodup_cons.mp nA).1 (by rw [← z]; exact ha)
theorem kp_list {σ : L2.St} {H : Hp} {As : Ow} {i : Nat} {l : Addr} {A A' : List Addr} {ws : List V} (eA : As i = l :: A) (hH : H l ≠ none) (sub : ∀ a ∈ A', a ∈ A ∨ H a = none) : Kp [i] σ H As σ (upd H l (.lst ws)) (putA As i (l :: A')) :=
  ⟨rfl, fun _ _ => rfl, fun j a h => by
    rcases putA_mem h with ⟨e, h⟩ | ⟨_, h⟩
    · rw [e, eA]
      rcases List.mem_cons.mp h with rfl | h
      · exact .inl List.mem_cons_self
      · exact (sub a h).imp (List.mem_cons_of_mem _) id
    · exact .inl h, fun a o h n => by
      rw [upd_ne (fun z => n i List.mem_cons_self (by rw [eA, z]; exact List.mem_cons_self))]; exact h, fun a h => by
      by_cases e : a = l
      · rw [e, upd_same]; exact nofun
      · rw [upd_ne e]; exact h⟩
theorem RepOL.hide {P : Wd} {σ : L2.St} {H : Hp} {As : Ow} {i : Nat} {l : Addr} {A : List Addr} {vs : List V} {xs : List OD} {Ar : List Addr} (eA : As i = l :: A) (r : RepOL P (cut H (hid B As [])) H vs xs Ar) {A' : List Addr} (new : ∀ a ∈ A', a ∈ A ∨ H a = none) : RepOL P (cut H (hid B (putA As i (l :: A')) [])) H vs xs Ar :=
  RepOL.mono (fun a o h => by
    obtain ⟨h1, h2⟩ := cut_some h
    refine cut_of (fun z => h1 ?_) h2
    rcases z with z | ⟨k, _, z⟩
    · exact .inl z
    · rcases putA_mem z with ⟨ek, z⟩ | ⟨_, z⟩
      · refine .inr ⟨i, List.not_mem_nil, ?_⟩
        rw [eA]
        rcases List.mem_cons.mp z with rfl | z
        · exact List.mem_cons_self
        · rcases new a z with z | z
          · exact List.mem_cons_of_mem _ z
          · rw [z] at h2; cases h2
      · exact .inr ⟨k, List.not_mem_nil, z⟩) _ _ _ r fun _ _ => rfl
theorem nodup_of {σ : L2.St} {H : Hp} {ρ : En} {As : Ow} (S : Sta B σ H ρ As) {i : Nat} {A : List Addr} (e : As i = A) : A.Nodup := by rw [← e]; exact S.nd i
theorem tyL {K : PySem.W.Frag} {H : Hp} {l : Addr} {vs : List V} (h : H l = some (.lst vs)) : tyV K "list" (.ref l) H := .inl ⟨rfl, _, .inl (.inl h)⟩
def ownL (i : Nat) (ρ : En) : Option (List OD) := match ρ[i]? with
  | some (some (.lst xs)) => some xs
  | _ => none
theorem ownL_eq {i : Nat} {ρ : En} {xs : List OD} (h : ownL i ρ = some xs) : ρ[i]? = some (some (.lst xs)) := by
  unfold ownL at h
  split at h
  · rename_i ys e; cases h; exact e
  · cases h
def keeps (i : Nat) (E : List Nat) (d : DL.D) : Bool := d.flat || !E.contains i
theorem frzIf_keep {i : Nat} {E : List Nat} {d : DL.D} {ρ : En} (h : keeps i E d = true) : (frzIf d E ρ)[i]? = ρ[i]? := by
  unfold frzIf
  cases q : d.flat with
  | true => simp
  | false =>
    have hi : i ∉ E := by
      unfold keeps at h
      rw [q, Bool.false_or] at h
      intro z
      rw [List.contains_iff_mem.mpr z] at h
      cases h
    simp only [Bool.false_eq_true, if_false]
    rw [frz_get]
    cases ρ[i]? with
    | none => rfl
    | some o => rw [Option.map_some, if_neg hi]
def appS (i : Nat) (E : List Nat) (f : En → R DL.D) : En → Out := fun ρ => match ownL i ρ with
  | none => .st
  | some xs => (f ρ).out ρ fun d => if okLen xs.length && keeps i E d then .nx ((frzIf d E ρ).set i (some (.lst (xs ++ [.sh d])))) else .st
theorem Rep.sh1 {P : Wd} {G H : Hp} {v : V} {d : DL.D} (r : Rep P G v d) : RepOL P G H [v] [.sh d] [] := .cons (A := []) (B := []) (.sh r) .nil
theorem mem_off {α : Type} {a : α} {A : List α} : a ∈ A → a ∈ A ∨ False := .inl
theorem s_app (i : Nat) {x : Str} {px apos cpos : Pos} (h0 : PE X (.Name x px) (tVar i)) (h : PE X e (tD B W E f))
    (hbase : attributeBase (.Name x px) "append" X.env (eval (.Name x px) X.env) = eval (.Name x px) X.env := by rfl)
    (hline : (apos.endLine == cpos.line) = true := by rfl) (hst : starEach [e] X.env = (false, eval e X.env) :: starEach [] X.env := by rfl)
    (hfew : ((backTo cpos (starEach [e] X.env)).all (fun x => !x.1) && (backToKw cpos (keywordEach [] X.env)).all (fun x => x.1.isSome)
      && decide ([e].length + ([] : List Keyword).length + (if ([] : List Keyword).isEmpty then 0 else 1) < 30)) = true := by rfl)
    (hplain : (backTo cpos (starEach [] X.env)).any (·.1) = false := by rfl)
    (hs : swapsWith (.Call (.Attribute (.Name x px) "append" apos) [e] [] cpos) none pos.line X.env = pure false := by rfl) : PS X (.Expr (.Call (.Attribute (.Name x px) "append" apos) [e] [] cpos) pos) (tS B W [i] (appS i E f)) :=
  (ps_expr (pe_bm PySem.F.plainAttrs_list PySem.F.slot_list_append PySem.F.type_list_append mt_append h0 (pa_cons h pa_nil hst) hbase hfew hline hst hplain) hs).imp fun D σ H ⟨ρ, As, S, h⟩ => by
    unfold appS at h
    cases eo : ownL i ρ with
    | none => rw [eo] at h; exact h.elim
    | some xs =>
      rw [eo] at h
      have eρ := ownL_eq eo
      obtain ⟨l, vs, A, e1, eA, hl, r⟩ := S.list eρ
      refine ⟨_, e1, .inl ⟨rfl, _, .inl (.inl hl)⟩, tD_out S h fun d v H1 s1 S1 r1 q => ?_⟩
      show rAppend (.ref l) [v] H1 (fun _ H1 => D.nx σ H1)
      cases c : okLen xs.length && keeps i E d with
      | false => rw [c] at q; exact q.elim
      | true =>
        rw [c] at q
        obtain ⟨c1, c2⟩ := Bool.and_eq_true_iff.mp c
        obtain ⟨A1, S2, r2, k⟩ := rep_frz S1 r1
        have e3 : (frzIf d E ρ)[i]? = some (some (.lst xs)) := (frzIf_keep c2).trans eρ
        obtain ⟨l', vs', A', e1', eA', hl', r'⟩ := S2.list e3
        rw [e1] at e1'; cases e1'
        rw [s1 _ _ hl] at hl'; cases hl'
        refine ⟨l, vs, v, rfl, rfl, s1 _ _ hl, by rw [r.len]; exact okLen_lt c1, ?_⟩
        have nA := nodup_of S2 eA'
        have T := S2.relist (A' := A' ++ []) e1 eA' (by rw [List.append_nil]; exact nA) (fun a ha => .inl (by rw [List.append_nil] at ha; exact ha))
          (append_A (RepOL.hide (B := B) (σ := σ) eA' r' fun a ha => .inl (by rw [List.append_nil] at ha; exact ha)) (Rep.sh1 (r2.up (cut_mono (Same.refl _) fun a z => ?_))))
        · refine q _ _ _ T ?_
          have kk := k.trans (kp_list (σ := σ) (ws := vs ++ [v]) (A' := A' ++ []) eA' (by rw [s1 _ _ hl]; exact nofun) fun a ha => .inl (by rw [List.append_nil] at ha; exact ha))
          exact kk
        · rcases z with z | ⟨j, _, z⟩
          · exact .inl z
          · rcases putA_mem z with ⟨ej, z⟩ | ⟨_, z⟩
            · refine .inr ⟨i, List.not_mem_nil, ?_⟩
              rw [eA']
              rw [List.append_nil] at z
              exact z
            · exact .inr ⟨j, List.not_mem_nil, z⟩
/-- x[k] = e -/
def subS (i : Nat) (E : List Nat) (f g : En → R DL.D) : En → Out := fun ρ => (f ρ).out ρ fun d => match ownL i ρ with
  | none => .st
  | some xs => (g ρ).out ρ fun k => match k with
    | .int n => (match ixN xs.length n with
      | some j => if keeps i E d then .nx ((frzIf d E ρ).set i (some (.lst (xs.set j (.sh d))))) else .st
      | none => .st)
    | _ => .st
theorem RepOL.setSh {P : Wd} {G H : Hp} {v : V} {d : DL.D} (q : Rep P G v d) : ∀ {xs : List OD} {vs : List V} {A : List Addr} (j : Nat), RepOL P G H vs xs A → ∃ A', A'.Sublist A ∧ RepOL P G H (vs.set j v) (xs.set j (.sh d)) A'
  | [], _, _, j, h => by cases h; exact ⟨[], List.Sublist.refl _, .nil⟩
  | x :: xs, _, _, 0, h => by
    cases h with
    | cons h1 h2 => exact ⟨_, List.sublist_append_right _ _, .cons (A := []) (.sh q) h2⟩
  | x :: xs, _, _, j + 1, h => by
    cases h with
    | cons h1 h2 =>
      obtain ⟨A', s, r⟩ := RepOL.setSh q j h2
      exact ⟨_, List.Sublist.append (List.Sublist.refl _) s, .cons h1 r⟩
theorem s_sub (i : Nat) {x : Str} {px tpos : Pos} {ix : Expr} {g : En → R DL.D} {E2 : List Nat} (h0 : PE X (.Name x px) (tVar i)) (h : PE X e (tD B W E f)) (hg : PE X ix (tD B W E2 g))
    (ha : ∀ v, assign (.Subscript (.Name x px) ix tpos) X.env v = (do
      let ov ← holding [v] (eval (.Name x px) X.env)
      let iv ← holding [v, ov] (eval ix X.env)
      standAt tpos
      holding [v, ov, iv] (setItem ov iv v)
      release [v, ov, iv] []) := by intro _; rfl)
    (hs : swapsWithSole [.Subscript (.Name x px) ix tpos] e pos.line X.env = pure false := by rfl) (hw : swappedStores [.Subscript (.Name x px) ix tpos] e X.env = pure none := by rfl)
    (h1 : (assignEach [.Subscript (.Name x px) ix tpos] X.env).map (·.2) = [assign (.Subscript (.Name x px) ix tpos) X.env] := by rfl) : PS X (.Assign [.Subscript (.Name x px) ix tpos] e pos) (tS B W [i] (subS i E f g)) :=
  (ps_asg h (pg_sub h0 hg set_list ha) hs hw h1).imp fun D σ H ⟨ρ, As, S, h⟩ => by
    refine tD_out S h fun d v H1 s1 S1 r1 q => ?_
    cases eo : ownL i ρ with
    | none => rw [eo] at q; exact q.elim
    | some xs =>
      rw [eo] at q
      have eρ := ownL_eq eo
      obtain ⟨l, vs, A, e1, eA, hl, r⟩ := S1.list eρ
      refine ⟨_, e1, tD_out S1 q fun k w H2 s2 S2 r2 q => ?_⟩
      cases r2 with
      | int n =>
        cases ej : ixN xs.length n with
        | none => simp only [ej] at q; exact q.elim
        | some j =>
          simp only [ej] at q
          cases c2 : keeps i E d with
          | false => rw [c2] at q; exact q.elim
          | true =>
            rw [c2] at q
            obtain ⟨A1, S3, r3, kk⟩ := rep_frz S2 (r1.up (cut_mono s2 fun _ z => z))
            have e3 : (frzIf d E ρ)[i]? = some (some (.lst xs)) := (frzIf_keep c2).trans eρ
            obtain ⟨l', vs', A', e1', eA', hl', r'⟩ := S3.list e3
            rw [e1] at e1'; cases e1'
            rw [s2 _ _ hl] at hl'; cases hl'
            obtain ⟨A2, sl, r4⟩ := RepOL.setSh r3 j r'
            have nA := nodup_of S3 eA'
            have sub : ∀ a ∈ A2, a ∈ A' ∨ H2 a = none := fun a ha => .inl (sl.subset ha)
            have T := S3.relist (A' := A2) e1 eA' (List.nodup_cons.mpr ⟨fun z => (List.nodup_cons.mp nA).1 (sl.subset z), (List.nodup_cons.mp nA).2.sublist sl⟩) sub (RepOL.hide (B := B) (σ := σ) eA' r4 sub)
            refine ⟨l, vs, n, j, rfl, rfl, s2 _ _ hl, by rw [r.len]; exact ej, ?_⟩
            exact q _ _ _ T (kk.trans (kp_list (σ := σ) eA' (by rw [s2 _ _ hl]; exact nofun) sub))
      | _ => exact q.elim
end
end DL
set_option Elab.async false
set_option linter.all false
set_option maxRecDepth 100000
namespace DL
open PySem PySem.Spec PyProof.Rows L2
abbrev Bs.wo (B : Bs) (O : Addr → Prop) : Bs := { B with O := O }
abbrev W0 : WX := fun _ _ _ _ => False
/-- no exception is told of -/
def R.nox {α : Type} : R α → R α
  | .ok a => .ok a
  | _ => .st
@[simp] theorem R.nox_ok {α : Type} (a : α) : (R.ok a).nox = .ok a := rfl
def allSh (E : List Nat) (ρ : En) : Bool := E.all fun i => match ρ[i]? with
  | some (some (.sh _)) => true
  | _ => false
/-- a comprehension's items -/
def lcL (bnd : D → En → Option En) (t : En → R Bool) (f : En → R D) (ρ : En) : List D → R (List D)
  | [] => .ok []
  | d :: ds => match bnd d ρ with
    | none => .st
    | some ρ1 => (t ρ1).nox.bind fun b => if b then (f ρ1).nox.bind fun y => (lcL bnd t f ρ ds).bind fun ys => .ok (y :: ys) else lcL bnd t f ρ ds
def lcE (Ee : List Nat) (vs : List Nat) (bnd : D → En → Option En) (it : En → R (List D)) (t : En → R Bool) (f : En → R D) : En → R OD := fun ρ => (it ρ).bind fun ds =>
  if (ds.all D.flat || allSh Ee ρ) && okLen ds.length then (lcL bnd t f (fgt vs ρ) ds).bind fun ys => .ok (.lst (ys.map .sh)) else .st
theorem lcL_len {bnd : D → En → Option En} {t : En → R Bool} {f : En → R D} {ρ : En} : ∀ {ds ys : List D}, lcL bnd t f ρ ds = .ok ys → ys.length ≤ ds.length
  | [], ys, h => by cases h; exact Nat.le_refl _
  | d :: ds, ys, h => by
    rw [lcL] at h
    cases e : bnd d ρ with
    | none => rw [e] at h; cases h
    | some ρ1 =>
      rw [e] at h
      simp only at h
      cases e1 : t ρ1 with
      | ok b =>
        rw [e1, R.nox_ok, R.bind_ok] at h
        cases b with
        | true =>
          simp only [if_true] at h
          cases e2 : f ρ1 with
          | ok y =>
            rw [e2, R.nox_ok, R.bind_ok] at h
            cases e3 : lcL bnd t f ρ ds with
            | ok zs =>
              rw [e3, R.bind_ok] at h
              cases h
              have := lcL_len e3
              simp only [List.length_cons]
              omega
            | ex c fs => rw [e3] at h; cases h
            | st => rw [e3] at h; cases h
          | ex c fs => rw [e2] at h; cases h
          | st => rw [e2] at h; cases h
        | false =>
          simp only [Bool.false_eq_true, if_false] at h
          have := lcL_len h
          simp only [List.length_cons]
          omega
      | ex c fs => rw [e1] at h; cases h
      | st => rw [e1] at h; cases h
theorem fgt_get (F : List Nat) (ρ : En) (i : Nat) : (fgt F ρ)[i]? = (ρ[i]?).map fun o => if i ∈ F then none else o := by
  have h := fgt1_get F ρ 0 i
  rw [Nat.zero_add] at h
  exact h
theorem wipe_get (σ : L2.St) (i : Nat) : ∀ vs : List Nat, (wipe σ vs)[i]? = if i ∈ vs then (σ[i]?).map fun _ => none else σ[i]?
  | [] => by rw [if_neg List.not_mem_nil]; rfl
  | v :: vs => by
    have ih := wipe_get σ i vs
    unfold wipe
    by_cases e : v = i
    · subst e
      rw [if_pos List.mem_cons_self]
      by_cases hl : v < σ.length
      · rw [List.getElem?_set_self (by rw [wipe_length]; exact hl), List.getElem?_eq_getElem hl]
        rfl
      · rw [List.getElem?_eq_none (by rw [List.length_set, wipe_length]; omega), List.getElem?_eq_none (by omega)]
        rfl
    · rw [List.getElem?_set_ne e, ih]
      by_cases hi : i ∈ vs
      · rw [if_pos hi, if_pos (List.mem_cons_of_mem _ hi)]
      · rw [if_neg hi, if_neg]
        intro z
        rcases List.mem_cons.mp z with z | z
        · exact e z.symm
        · exact hi z
theorem wipe_eq {σ σ' : L2.St} {vs : List Nat} (hl : σ'.length = (wipe σ vs).length) (h : ∀ i, i ∉ vs → σ'[i]? = (wipe σ vs)[i]?) : wipe σ' vs = wipe σ vs := by
  apply List.ext_getElem?
  intro i
  rw [wipe_get, wipe_get]
  by_cases hi : i ∈ vs
  · rw [if_pos hi, if_pos hi]
    rw [wipe_length] at hl
    by_cases hj : i < σ.length
    · rw [List.getElem?_eq_getElem hj, List.getElem?_eq_getElem (by omega)]
      rfl
    · rw [List.getElem?_eq_none (by omega), List.getElem?_eq_none (by omega)]
  · rw [if_neg hi, if_neg hi, h i hi, wipe_get, if_neg hi]
section
variable {B : Bs} {σ : L2.St} {H H' : Hp} {ρ : En} {As : Ow} {E vs : List Nat}
/-- what a block hides: the callers', and what its own names' slots hold around it -/
def blO (B : Bs) (As : Ow) (vs : List Nat) : Addr → Prop := fun a => B.O a ∨ ∃ i, i ∈ vs ∧ a ∈ As i
theorem hid_blk {B : Bs} {As : Ow} {vs E : List Nat} : ∀ a, hid (B.wo (blO B As vs)) (exAs vs As) E a ↔ hid B As (E.filter fun i => !vs.contains i) a := fun a => by
  constructor
  · rintro ((h | ⟨i, hi, h⟩) | ⟨i, hi, h⟩)
    · exact .inl h
    · refine .inr ⟨i, fun z => ?_, h⟩
      have := (List.mem_filter.mp z).2
      rw [List.contains_iff_mem.mpr hi] at this
      cases this
    · exact .inr ⟨i, fun z => hi (List.mem_filter.mp z).1, exAs_sub h⟩
  · rintro (h | ⟨i, hi, h⟩)
    · exact .inl (.inl h)
    · by_cases hv : i ∈ vs
      · exact .inl (.inr ⟨i, hv, h⟩)
      · refine .inr ⟨i, fun z => hi (List.mem_filter.mpr ⟨z, ?_⟩), ?_⟩
        · rw [Bool.not_eq_true', Bool.eq_false_iff]
          exact fun q => hv (List.contains_iff_mem.mp q)
        · unfold exAs
          rw [if_neg hv]
          exact h
theorem Sta.blk (S : Sta B σ H ρ As) (vs : List Nat) : Sta (B.wo (blO B As vs)) (wipe σ vs) H (DL.fgt vs ρ) (exAs vs As) where
  len := by rw [wipe_length, DL.fgt, fgt1_len]; exact S.len
  pt := fun i od e => by
    rw [fgt_get] at e
    cases q : ρ[i]? with
    | none => rw [q] at e; cases e
    | some o =>
      rw [q, Option.map_some] at e
      have e := Option.some.inj e
      split at e
      · cases e
      · rename_i hi
        subst e
        obtain ⟨v, e1, r⟩ := S.pt i od q
        refine ⟨v, by rw [wipe_get, if_neg hi]; exact e1, ?_⟩
        have ea : exAs vs As i = As i := by unfold exAs; rw [if_neg hi]
        rw [ea]
        exact RepO.mono (cut_mono (Same.refl _) fun a h => by
          have := (hid_blk (E := []) a).mp h
          exact this) _ _ _ r fun _ _ => rfl
  nd := fun i => by unfold exAs; split; exact List.nodup_nil; exact S.nd i
  dj := fun i j a h1 h2 => S.dj i j a (exAs_sub h1) (exAs_sub h2)
  ow := fun i a h => S.ow i a (exAs_sub h)
  no := fun i a h z => by
    rcases z with z | ⟨j, hj, z⟩
    · exact S.no i a (exAs_sub h) z
    · have e := S.dj i j a (exAs_sub h) z
      subst e
      unfold exAs at h
      rw [if_pos hj] at h
      cases h
  hs := fun i a h => S.hs i a (exAs_sub h)
  ob := fun a h => by
    rcases h with h | ⟨i, _, h⟩
    · exact S.ob a h
    · exact S.hs i a h
  fr := S.fr
  th := S.th
theorem Sta.hide1 (S : Sta B σ H ρ As) {Dl : Addr} (n : H Dl = none) (s : Same H H') (t : H' Dl ≠ none) : Sta (B.wo fun a => B.O a ∨ a = Dl) σ H' ρ As where
  len := S.len
  pt := fun i od e => by
    obtain ⟨v, e1, r⟩ := S.pt i od e
    refine ⟨v, e1, RepO.mono (fun a o h => ?_) _ _ _ r fun a ha => ?_⟩
    · obtain ⟨h1, h2⟩ := cut_some h
      refine cut_of (fun z => ?_) (s a o h2)
      rcases z with (z | z) | z
      · exact h1 (.inl z)
      · rw [z, n] at h2; cases h2
      · exact h1 (.inr z)
    · obtain ⟨o, eo⟩ := ne_none (S.hs i a ha)
      rw [eo, s a o eo]
  nd := S.nd
  dj := S.dj
  ow := S.ow
  no := fun i a h z => by
    rcases z with z | z
    · exact S.no i a h z
    · exact S.hs i a h (by rw [z]; exact n)
  hs := fun i a h => same_ne s (S.hs i a h)
  ob := fun a h => by
    rcases h with h | h
    · exact same_ne s (S.ob a h)
    · rw [h]; exact t
  fr := fun a o e h => s _ _ (S.fr a o e h)
  th := fun a h => same_ne s (S.th a h)
theorem allSh_hid (S : Sta B σ H ρ As) (h : allSh E ρ = true) : ∀ a, hid B As [] a → hid B As E a := fun a z => by
  rcases z with z | ⟨i, _, z⟩
  · exact .inl z
  · refine .inr ⟨i, fun hi => ?_, z⟩
    have q := List.all_eq_true.mp h i hi
    split at q
    · rename_i d e
      obtain ⟨v, _, r⟩ := S.pt i _ e
      generalize As i = A at r z
      cases r with
      | sh _ => cases z
    · cases q
end
section
variable {X : Cx} {B : Bs} {W : WX} {E Ee E1 vs Mg : List Nat} {elt tg iter : Expr} {ifs : List Expr} {scope : Scope} {own : List (Str × Nat)} {pos : Pos} {it : En → R (List D)} {bnd : D → En → Option En} {tt : En → R Bool} {f : En → R D}
theorem R.go_nox {α : Type} {r : R α} {K : α → Prop} {Ex : Str → List (Str × D) → Prop} (h : r.nox.go K Ex) : r.go K fun _ _ => False := by
  cases r with
  | ok a => exact h
  | ex c fs => exact h
  | st => exact h
theorem lc_imp (hm : ∀ i ∈ Mg, i ∈ vs) {σ : L2.St} {H : Hp} {Q : VK} (h : tF B W (E1.filter fun i => !vs.contains i) (lcE Ee vs bnd it tt f) σ H Q) :
    tLc (tI B W E Ee it) (fun v σ H Q => ∃ O, tG (B.wo O) Mg bnd v σ H Q) (fun σ H Q => ∃ O, tT (B.wo O) W0 tt σ H Q) (fun σ H Q => ∃ O, tD (B.wo O) W0 E1 f σ H Q) vs σ H Q := by
  obtain ⟨ρ, As, S, h⟩ := h
  refine ⟨ρ, As, S, ?_⟩
  unfold lcE at h
  cases e : it ρ with
  | st => rw [e] at h; exact h
  | ex c fs => rw [e] at h; exact h
  | ok ds =>
    rw [e, R.bind_ok] at h
    intro J H1 s1 wk Dl hDl
    have S1 := S.same s1
    cases c : ((ds.all D.flat || allSh Ee ρ) && okLen ds.length) with
    | false => rw [c] at h; exact h.elim
    | true =>
      rw [c] at h
      obtain ⟨c1, c2⟩ := Bool.and_eq_true_iff.mp c
      simp only [if_true] at h
      -- elements may be bound in the block
      have hv : (∀ d ∈ ds, d.flat = true) ∨ ∀ a, hid B As [] a → hid B As Ee a := by
        rcases Bool.or_eq_true_iff.mp c1 with c1 | c1
        · exact .inl (List.all_eq_true.mp c1)
        · exact .inr (allSh_hid S1 c1)
      have SB := S1.blk vs
      cases el : lcL bnd tt f (fgt vs ρ) ds with
      | ex c fs =>
        exfalso
        have : ∀ {ds c fs}, lcL bnd tt f (fgt vs ρ) ds ≠ .ex c fs := by
          intro ds
          induction ds with
          | nil => exact fun z => nomatch z
          | cons d ds ih =>
            intro c fs z
            rw [lcL] at z
            cases eb : bnd d (fgt vs ρ) with
            | none => rw [eb] at z; cases z
            | some ρ1 =>
              rw [eb] at z
              simp only at z
              cases et : tt ρ1 with
              | ex c fs => rw [et] at z; cases z
              | st => rw [et] at z; cases z
              | ok b =>
                rw [et, R.nox_ok, R.bind_ok] at z
                cases b with
                | false => simp only [Bool.false_eq_true, if_false] at z; exact ih z
                | true =>
                  simp only [if_true] at z
                  cases ef : f ρ1 with
                  | ex c fs => rw [ef] at z; cases z
                  | st => rw [ef] at z; cases z
                  | ok y =>
                    rw [ef, R.nox_ok, R.bind_ok] at z
                    cases er : lcL bnd tt f (fgt vs ρ) ds with
                    | ex c fs => exact ih er
                    | st => rw [er] at z; cases z
                    | ok ys => rw [er] at z; cases z
        exact this el
      | st => rw [el] at h; exact h.elim
      | ok ys =>
        rw [el, R.bind_ok] at h
        have nDl : ∀ a, hid B As [] a → a ≠ Dl := fun a z q => S1.hth a z (by rw [q]; exact hDl)
        -- W: what is made so far and what is left
        refine ⟨fun i m Ht => m = ds.length - i ∧ i ≤ ds.length ∧ Same H1 Ht ∧ ∃ acc done left, Ht Dl = some (.lst acc) ∧ done.length ≤ i ∧ lcL bnd tt f (fgt vs ρ) (ds.drop i) = .ok left ∧ ys = done ++ left ∧ RepL B.P (cut Ht fun a => hid B As (E1.filter fun i => !vs.contains i) a ∨ a = Dl) acc done,
          ⟨ds.length, rfl, Nat.zero_le _, fun a o ha => by rw [upd_ne (ne_of_none ha hDl)]; exact ha, [], [], ys, upd_same, Nat.le_refl _, el, rfl, .nil⟩, ?_⟩
        rintro i m Ht ⟨rfl, hle, sH, acc, done, left, hacc, hdone, hleft, hys, racc⟩
        have sG : Same (cut H1 (hid B As E)) Ht := fun a o ha => sH a o (cut_some ha).2
        by_cases hlt : i < ds.length
        · refine .inr ⟨wk.go i Ht sG hlt, fun H' => i + 1 ≤ ds.length ∧ Same H1 H' ∧ ∃ acc done left, H' Dl = some (.lst acc) ∧ done.length ≤ i + 1 ∧ lcL bnd tt f (fgt vs ρ) (ds.drop (i + 1)) = .ok left ∧ ys = done ++ left ∧ RepL B.P (cut H' fun a => hid B As (E1.filter fun i => !vs.contains i) a ∨ a = Dl) acc done, fun H' h' => ⟨ds.length - (i + 1), by omega, rfl, h'⟩, fun x H2 y => ?_⟩
          have ed : ds[i]? = some ds[i] := List.getElem?_eq_getElem hlt
          obtain ⟨s2, G', g1, g2, g3, r⟩ := wk.yld i Ht x H2 ds[i] sG y ed
          rw [List.drop_eq_getElem_cons hlt, lcL] at hleft
          have SB2 := (SB.hide1 hDl sH (by rw [hacc]; exact nofun)).same s2
          refine ⟨fun a => blO B As vs a ∨ a = Dl, fgt vs ρ, exAs vs As, ds[i], SB2, ?_, ?_⟩
          · rcases hv with hv | hv
            · exact r.flat (hv _ (List.getElem_mem hlt))
            · refine r.up fun a o ha => cut_of (fun z => ?_) (g2 a o ha)
              have z' : hid B As [] a ∨ a = Dl := by
                rcases z with (z | z) | z
                · exact .inl ((hid_blk (E := []) a).mp (.inl z))
                · exact .inr z
                · exact .inl ((hid_blk (E := []) a).mp (.inr z))
              rcases g3 a o ha with q | q
              · obtain ⟨q1, q2⟩ := cut_some q
                rcases z' with z' | z'
                · exact q1 (hv a z')
                · rw [z', hDl] at q2; cases q2
              · rcases z' with z' | z'
                · exact (S1.same sH).hth a z' q
                · rw [z', hacc] at q; cases q
          · cases eb : bnd ds[i] (fgt vs ρ) with
            | none => rw [eb] at hleft; cases hleft
            | some ρ1 =>
              rw [eb] at hleft
              simp only at hleft
              intro σ2 A2 S2 k2 eA2
              refine ⟨wipe_eq k2.k0 fun j hj => k2.k1 j fun z => hj (hm j z), fun a => blO B As vs a ∨ a = Dl, ρ1, A2, S2, ?_⟩
              cases et : tt ρ1 with
              | ex c fs => rw [et] at hleft; cases hleft
              | st => rw [et] at hleft; cases hleft
              | ok b =>
                rw [et, R.nox_ok, R.bind_ok] at hleft
                intro H3 s3
                have acc3 : H3 Dl = some (.lst acc) := s3 _ _ (s2 _ _ hacc)
                cases b with
                | false =>
                  simp only [Bool.false_eq_true, if_false] at hleft ⊢
                  exact ⟨hlt, (sH.trans s2).trans s3, acc, done, left, acc3, by omega, hleft, hys, racc.up (cut_mono (s2.trans s3) fun _ z => z)⟩
                | true =>
                  simp only [if_true] at hleft ⊢
                  refine ⟨fun a => blO B As vs a ∨ a = Dl, ρ1, A2, S2.same s3, ?_⟩
                  cases ef : f ρ1 with
                  | ex c fs => rw [ef] at hleft; cases hleft
                  | st => rw [ef] at hleft; cases hleft
                  | ok y =>
                    rw [ef, R.nox_ok, R.bind_ok] at hleft
                    cases er : lcL bnd tt f (fgt vs ρ) (ds.drop (i + 1)) with
                    | ex c fs => rw [er] at hleft; cases hleft
                    | st => rw [er] at hleft; cases hleft
                    | ok left' =>
                      rw [er, R.bind_ok] at hleft
                      cases hleft
                      intro yv H4 s4 r4
                      have acc4 : H4 Dl = some (.lst acc) := s4 _ _ acc3
                      have ra : acc.length < sizeLine := by
                        rw [racc.len]
                        exact Nat.lt_trans (Nat.lt_of_le_of_lt hdone hlt) (okLen_lt c2)
                      refine ⟨acc, acc4, ra, hlt, fun a o ha => ?_, acc ++ [yv], done ++ [y], left', upd_same, by rw [List.length_append]; simp; omega, rfl, by rw [hys, List.append_assoc]; rfl, ?_⟩
                      · rw [upd_ne (ne_of_none ha hDl)]
                        exact (((sH.trans s2).trans s3).trans s4) a o ha
                      · refine RepL.append (racc.up fun a o ha => ?_) (.cons (r4.up fun a o ha => ?_) .nil)
                        · obtain ⟨n1, n2⟩ := cut_some ha
                          refine cut_of n1 ?_
                          rw [upd_ne fun z => n1 (.inr z)]
                          exact ((s2.trans s3).trans s4) a o n2
                        · obtain ⟨n1, n2⟩ := cut_some ha
                          have nD : a ≠ Dl := fun z => n1 (.inl (.inr z))
                          refine cut_of (fun z => ?_) (by rw [upd_ne nD]; exact n2)
                          rcases z with z | z
                          · rcases (hid_blk (E := E1) a).mpr z with z | ⟨k, hk, z⟩
                            · exact n1 (.inl (.inl z))
                            · by_cases hkm : k ∈ Mg
                              · have := hm k hkm
                                unfold exAs at z
                                rw [if_pos this] at z
                                cases z
                              · exact n1 (.inr ⟨k, hk, by rw [eA2 k hkm]; exact z⟩)
                          · exact nD z
        · have e2 : i = ds.length := by omega
          subst e2
          rw [List.drop_length, lcL] at hleft
          cases hleft
          rw [List.append_nil] at hys
          subst hys
          refine .inl ⟨wk.stop _ Ht sG (Nat.le_refl _), h (.ref Dl) [Dl] Ht (s1.trans sH) (List.nodup_cons.mpr ⟨List.not_mem_nil, List.nodup_nil⟩) (fun a ha => ?_) ?_⟩
          · rw [List.mem_singleton.mp ha]
            exact s1.free hDl
          · exact .lst hacc (RepOL.sh (racc.up (cut_mono (Same.refl _) fun a z => z.imp id List.mem_singleton.mp)))
end
end DL
set_option Elab.async false
set_option linter.all false
set_option maxRecDepth 100000
namespace DL
open PySem PySem.Spec PyProof.Rows L2

/-! ## operations on data -/
theorem Rep.tick {P : Wd} {G : Hp} {x : V} {s : List Nat} (h : Rep P G x (.str s)) : ∃ z : Str, x = .str z ∧ z.cps.toList = s := by
  cases h with
  | str z => exact ⟨z, rfl, rfl⟩
theorem Rep.intE {P : Wd} {G : Hp} {x : V} {i : Int} (h : Rep P G x (.int i)) : x = .int i := by cases h; rfl
theorem Rep.blE {P : Wd} {G : Hp} {x : V} {i : Bool} (h : Rep P G x (.bl i)) : x = .bl i := by cases h; rfl
theorem Rep.nonE {P : Wd} {G : Hp} {x : V} (h : Rep P G x .non) : x = .non := by cases h; rfl
theorem Rep.lstE {P : Wd} {G : Hp} {x : V} {ds : List D} (h : Rep P G x (.lst ds)) : ∃ a xs, x = .ref a ∧ Rd G a (.lst xs) ∧ RepL P G xs ds := by
  cases h with
  | lst h1 h2 => exact ⟨_, _, rfl, .of h1, h2⟩
theorem Rep.lstG {P : Wd} {G : Hp} {x : V} {ds : List D} (h : Rep P G x (.lst ds)) : ∃ a xs, x = .ref a ∧ G a = some (.lst xs) ∧ RepL P G xs ds := by
  cases h with
  | lst h1 h2 => exact ⟨_, _, rfl, h1, h2⟩
theorem Rep.tupE {P : Wd} {G : Hp} {x : V} {ds : List D} (h : Rep P G x (.tup ds)) : ∃ a xs, x = .ref a ∧ SqT P.K G a xs ∧ RepL P G xs ds := by
  cases h with
  | tup h1 h2 => exact ⟨_, _, rfl, h1, h2⟩
theorem rep_of {P : Wd} {G : Hp} {z : Str} {s : List Nat} (h : z.cps.toList = s) : Rep P G (.str z) (.str s) := by subst h; exact .str z
theorem slen {z : Str} {s : List Nat} (h : z.cps.toList = s) : z.length = s.length := by rw [← h]; exact (Array.length_toList).symm
def okSz (n : Nat) : Bool := decide (n ≤ 16777216)
theorem okSz_le {n : Nat} (h : okSz n = true) : n ≤ sizeLine := by rw [sizeLine_eq]; exact of_decide_eq_true h

/-- new lists -/
def AdF2 (P : Wd) (r : R2) (g : D → D → Option OD) : Prop := ∀ (p : Addr → Prop) (H : Hp) (x y : V) (a b : D) (d : OD) (Q : VK), (∀ a, p a → H a ≠ none) → Rep P (cut H p) x a → Rep P (cut H p) y b → g a b = some d →
  (∀ v A H', Same H H' → A.Nodup → (∀ a ∈ A, H a = none) → RepO P (cut H' fun a => p a ∨ a ∈ A) H' v d A → Q v H') → r x y H Q
def AdFA (P : Wd) (r : List V → Hp → VK → Prop) (g : List D → Option OD) : Prop := ∀ (p : Addr → Prop) (H : Hp) (x : List V) (a : List D) (d : OD) (Q : VK), (∀ a, p a → H a ≠ none) → RepL P (cut H p) x a → g a = some d →
  (∀ v A H', Same H H' → A.Nodup → (∀ a ∈ A, H a = none) → RepO P (cut H' fun a => p a ∨ a ∈ A) H' v d A → Q v H') → r x H Q
theorem er_new {P : Wd} {p : Addr → Prop} {H H' : Hp} {v : V} {od : OD} {A : List Addr} (hp : ∀ a, p a → H a ≠ none) (fA : ∀ a ∈ A, H a = none) (r : RepO P (cut H' fun a => p a ∨ a ∈ A) H' v od A) : Rep P (cut H' p) v od.er :=
  RepO.rep (cut_mono (Same.refl _) fun a h => .inl h) _ _ _ r fun a ha o eo => cut_of (fun z => hp a z (fA a ha)) eo
theorem Ad2.ofF {P : Wd} {r : R2} {g : D → D → Option OD} (h : AdF2 P r g) : Ad2 P r (fun a b => (g a b).map OD.er) := fun p H x y a b d Q hp r1 r2 e q => by
  have e : (g a b).map OD.er = some d := e
  cases e1 : g a b with
  | none => rw [e1] at e; cases e
  | some od =>
    rw [e1] at e
    cases e
    exact h p H x y a b od Q hp r1 r2 e1 fun v A H' s nA fA ro => q v H' s (er_new hp fA ro)
theorem AdA.ofF {P : Wd} {r : List V → Hp → VK → Prop} {g : List D → Option OD} (h : AdFA P r g) : AdA P r (fun a => (g a).map OD.er) := fun p H x a d Q hp r1 e q => by
  have e : (g a).map OD.er = some d := e
  cases e1 : g a with
  | none => rw [e1] at e; cases e
  | some od =>
    rw [e1] at e
    cases e
    exact h p H x a od Q hp r1 e1 fun v A H' s nA fA ro => q v H' s (er_new hp fA ro)
def lstF (xs : List D) : OD := .lst (xs.map .sh)
@[simp] theorem lstF_er (xs : List D) : (lstF xs).er = .lst xs := OD.er_lst_sh xs
/-- a list just laid -/
theorem new_lst {P : Wd} {p : Addr → Prop} {H : Hp} {a : Addr} {vs : List V} {ds : List D} {Q : VK} (hp : ∀ a, p a → H a ≠ none) (hn : H a = none) (r : RepL P (cut H p) vs ds)
    (q : ∀ v A H', Same H H' → A.Nodup → (∀ a ∈ A, H a = none) → RepO P (cut H' fun a => p a ∨ a ∈ A) H' v (lstF ds) A → Q v H') : Q (.ref a) (upd H a (.lst vs)) := by
  have s : Same H (upd H a (.lst vs)) := fun b o e => by rw [upd_ne (ne_of_none e hn)]; exact e
  refine q _ [a] _ s (List.nodup_cons.mpr ⟨List.not_mem_nil, List.nodup_nil⟩) (fun b hb => by rw [List.mem_singleton.mp hb]; exact hn) (.lst upd_same (RepOL.sh (r.up fun b o e => ?_)))
  obtain ⟨h1, h2⟩ := cut_some e
  refine cut_of (fun z => ?_) (s b o h2)
  rcases z with z | z
  · exact h1 z
  · rw [List.mem_singleton.mp z, hn] at h2; cases h2
theorem new_tup {P : Wd} {p : Addr → Prop} {H : Hp} {a : Addr} {vs : List V} {ds : List D} {Q : VK} (hp : ∀ a, p a → H a ≠ none) (hn : H a = none) (r : RepL P (cut H p) vs ds)
    (q : ∀ v H', Same H H' → Rep P (cut H' p) v (.tup ds) → Q v H') : Q (.ref a) (upd H a (.tup vs)) := by
  have s : Same H (upd H a (.tup vs)) := fun b o e => by rw [upd_ne (ne_of_none e hn)]; exact e
  exact q _ _ s (.tup (.of (cut_of (fun z => hp a z hn) upd_same)) (r.up (cut_mono s fun _ z => z)))

/-! ### + -/
def dAddI : D → D → Option D
  | .int i, .int j => some (.int (i + j))
  | _, _ => none
theorem ad_addI {P : Wd} : Ad2 P (rI0 fun i j => .int (i + j)) dAddI := fun p H x y a b d Q hp r1 r2 e q => by
  unfold dAddI at e
  split at e
  · cases e; cases r1; cases r2; exact ⟨_, _, rfl, rfl, q _ _ (Same.refl _) (.int _)⟩
  · cases e
def dAddS : D → D → Option D
  | .str s, .str t => if okSz (s.length + t.length) then some (.str (s ++ t)) else none
  | _, _ => none
theorem ad_addS {P : Wd} : Ad2 P (fun x y H Q => ∃ i j : Str, x = .str i ∧ y = .str j ∧ i.length + j.length ≤ sizeLine ∧ Q (.str (i ++ j)) H) dAddS := fun p H x y a b d Q hp r1 r2 e q => by
  unfold dAddS at e
  split at e
  · obtain ⟨z, rfl, hz⟩ := r1.tick
    obtain ⟨w, rfl, hw⟩ := r2.tick
    split at e
    · rename_i h
      cases e
      refine ⟨z, w, rfl, rfl, by rw [slen hz, slen hw]; exact okSz_le h, q _ _ (Same.refl _) (rep_of ?_)⟩
      rw [← hz, ← hw]
      show (z.cps ++ w.cps).toList = _
      rw [Array.toList_append]
    · cases e
  · cases e
section
variable {X : Cx} {pins : List (Addr × Obj)} {σ : L2.St} {H : Hp} {s : Shared}
/-- a text times an int -/
def rRepS : R2 := fun x y H Q => ∃ (z : Str) (k : Int), x = .str z ∧ y = .int k ∧ k < 1000000 ∧ z.length * k.toNat ≤ sizeLine ∧ -1000000 < k ∧ ∀ z' : Str, z'.cps.toList = (List.replicate k.toNat z.cps.toList).flatten → Q (.str z') H
theorem txt_mul (z : Str) (k : Int) : (Txt.mul z k).cps.toList = (List.replicate k.toNat z.cps.toList).flatten := by
  have f0 : ∀ (m : Nat) (acc : Array Nat), (List.foldl (fun x1 x2 => x1 ++ x2) acc (List.replicate m z.cps)).toList = acc.toList ++ (List.replicate m z.cps.toList).flatten := by
    intro m
    induction m with
    | zero => intro acc; simp
    | succ m ih =>
      intro acc
      rw [List.replicate_succ, List.foldl_cons, ih, Array.toList_append, List.replicate_succ, List.flatten_cons, List.append_assoc]
  unfold Txt.mul
  split
  · rename_i h
    have : k.toNat = 0 := by omega
    rw [this]; rfl
  · split
    · rename_i h1 h2
      rcases Bool.or_eq_true_iff.mp h2 with h | h
      · have : k = 1 := by simpa using h
        subst this
        simp
      · have h0 : z.cps.size = 0 := eq_of_beq h
        have h3 : z.cps.toList = [] := by
          apply List.eq_nil_of_length_eq_zero
          rw [Array.length_toList]; exact h0
        rw [h3]
        simp
    · have := f0 k.toNat #[]
      simpa using this
theorem op_repS : OpR X (binaryOp .Mult) rRepS := by
  intro pins s σ H x y v u Q I rx ry h
  obtain ⟨z, k, rfl, rfl, h1, h2, h3, q⟩ := h
  obtain ⟨t, rfl⟩ := rx
  obtain ⟨t', rfl⟩ := ry
  refine SB.mul ⟨?_, fun a b => ?_, fun a b => ?_⟩ fun t2 k2 => ⟨.str _, H, I.tok _, ⟨t2, rfl⟩, q _ (txt_mul z k)⟩
  · rw [decide_eq_false (by omega), decide_eq_false (by omega)]; rfl
  · have e1 : z.length * k.toNat ≤ 16777216 := by rw [sizeLine_eq] at h2; exact h2
    have e2 : z.length ≤ 16777216 := Nat.le_trans (Nat.le_mul_of_pos_right _ (by omega)) e1
    have e3 : (16777216 : Int) ≤ (2 ^ 63 - 1) / k := (Int.le_ediv_iff_mul_le (by omega)).mpr (by omega)
    omega
  · unfold Builtin.Str.tooLong
    exact decide_eq_false (by omega)
end
def dRepS : D → D → Option D
  | .str s, .int k => if okSz (s.length * k.toNat) && (decide (k < 1000000) && decide (-1000000 < k)) then some (.str (List.replicate k.toNat s).flatten) else none
  | _, _ => none
theorem ad_repS {P : Wd} : Ad2 P rRepS dRepS := fun p H x y a b d Q hp r1 r2 e q => by
  unfold dRepS at e
  split at e
  · obtain ⟨z, rfl, hz⟩ := r1.tick
    have := r2.intE; subst this
    split at e
    · rename_i h
      obtain ⟨h1, h2⟩ := Bool.and_eq_true_iff.mp h
      obtain ⟨h2, h3⟩ := Bool.and_eq_true_iff.mp h2
      cases e
      exact ⟨z, _, rfl, rfl, of_decide_eq_true h2, by rw [slen hz]; exact okSz_le h1, of_decide_eq_true h3, fun z' h' => q _ _ (Same.refl _) (rep_of (by rw [h', hz]))⟩
    · cases e
  · cases e
def fCat : D → D → Option OD
  | .lst xs, .lst ys => if okSz (xs.length + ys.length) then some (lstF (xs ++ ys)) else none
  | _, _ => none
theorem rd_cut {H : Hp} {p : Addr → Prop} {a : Addr} {u : HO} (h : Rd (cut H p) a u) : Rd H a u := Rd.same cut_same h
theorem sqT_cut {K : PySem.W.Frag} {H : Hp} {p : Addr → Prop} {a : Addr} {u : List V} (h : SqT K (cut H p) a u) : SqT K H a u := SqT.same cut_same h
theorem ad_catF {P : Wd} : AdF2 P rCat fCat := fun p H x y a b d Q hp r1 r2 e q => by
  unfold fCat at e
  split at e
  · obtain ⟨l, vs, rfl, hl, rl⟩ := r1.lstG
    obtain ⟨m, ws, rfl, hm, rm⟩ := r2.lstG
    split at e
    · rename_i h
      cases e
      exact ⟨l, m, vs, ws, rfl, rfl, (cut_some hl).2, (cut_some hm).2, by rw [rl.len, rm.len]; exact okSz_le h, fun p' hn => new_lst hp hn (rl.append rm) q⟩
    · cases e
  · cases e
def fRep : D → D → Option OD
  | .lst xs, .int k => if okSz (xs.length * k.toNat) && (decide (k < 1000000) && decide (-1000000 < k)) then some (lstF (List.replicate k.toNat xs).flatten) else none
  | _, _ => none
theorem ad_repF {P : Wd} : AdF2 P rRep fRep := fun p H x y a b d Q hp r1 r2 e q => by
  unfold fRep at e
  split at e
  · obtain ⟨l, vs, rfl, hl, rl⟩ := r1.lstG
    have := r2.intE; subst this
    split at e
    · rename_i h
      obtain ⟨h1, h2⟩ := Bool.and_eq_true_iff.mp h
      obtain ⟨h2, h3⟩ := Bool.and_eq_true_iff.mp h2
      have h2 := of_decide_eq_true h2
      have h3 := of_decide_eq_true h3
      cases e
      exact ⟨l, _, vs, rfl, rfl, (cut_some hl).2, by omega, by omega, by rw [rl.len]; exact okSz_le h1, fun p' hn => new_lst hp hn (rl.rep _) q⟩
    · cases e
  · cases e
/-- + : ints, texts, lists -/
def dAdd (a b : D) : Option D := (dAddI a b).or ((dAddS a b).or ((fCat a b).map OD.er))
abbrev rAddA : R2 := fun x y H Q => rI0 (fun i j => .int (i + j)) x y H Q ∨ ((∃ i j : Str, x = .str i ∧ y = .str j ∧ i.length + j.length ≤ sizeLine ∧ Q (.str (i ++ j)) H) ∨ rCat x y H Q)
theorem ad_add {P : Wd} : Ad2 P rAddA dAdd := Ad2.or ad_addI (Ad2.or ad_addS (Ad2.ofF ad_catF))
section
variable {X : Cx}
theorem op_addA : OpR X (binaryOp .Add) rAddA := op_add.or (op_add_str.or op_cat)
end
@[simp] theorem dAdd_int (i j : Int) : dAdd (.int i) (.int j) = some (.int (i + j)) := rfl
@[simp] theorem dAdd_str (s t : List Nat) : dAdd (.str s) (.str t) = if okSz (s.length + t.length) then some (.str (s ++ t)) else none := by
  show (none : Option D).or ((dAddS (.str s) (.str t)).or none) = _
  rw [Option.none_or, Option.or_none]; rfl
@[simp] theorem dAdd_lst (s t : List D) : dAdd (.lst s) (.lst t) = if okSz (s.length + t.length) then some (.lst (s ++ t)) else none := by
  show (none : Option D).or ((none : Option D).or ((fCat (.lst s) (.lst t)).map OD.er)) = _
  rw [Option.none_or, Option.none_or, fCat]
  split
  · rw [Option.map_some, lstF_er]
  · rfl

/-! ### -, *, //, % -/
def dSub : D → D → Option D
  | .int i, .int j => some (.int (i - j))
  | _, _ => none
theorem ad_sub {P : Wd} : Ad2 P (rI0 fun i j => .int (i - j)) dSub := fun p H x y a b d Q hp r1 r2 e q => by
  unfold dSub at e
  split at e
  · cases e; cases r1; cases r2; exact ⟨_, _, rfl, rfl, q _ _ (Same.refl _) (.int _)⟩
  · cases e
theorem fl_sub : Flat2 dSub := fun a b d e => by
  unfold dSub at e
  split at e
  · cases e; rfl
  · cases e
/-- the size of a product -/
def mulOk (i j : Int) : Bool := decide (i.natAbs < 18446744073709551616) || (decide (j.natAbs < 18446744073709551616) || decide (i.natAbs.log2 + j.natAbs.log2 < 1000000))
theorem mulOk_ok {i j : Int} (h : mulOk i j = true) : IntMulOk i j := by
  unfold mulOk at h
  rcases Bool.or_eq_true_iff.mp h with h | h
  · have h := of_decide_eq_true h
    exact .of_left (intBits_le_64 (by omega) (by omega))
  · rcases Bool.or_eq_true_iff.mp h with h | h
    · have h := of_decide_eq_true h
      exact .of_right (intBits_le_64 (by omega) (by omega))
    · have h : i.natAbs.log2 + j.natAbs.log2 < 1000000 := of_decide_eq_true h
      exact CMulW.ok h
def dMulI : D → D → Option D
  | .int i, .int j => if mulOk i j then some (.int (i * j)) else none
  | _, _ => none
theorem op_mulA {X : Cx} : OpR X (binaryOp .Mult) (rI (fun i j => mulOk i j = true) fun i j => .int (i * j)) := opI fun _ _ _ _ _ _ _ hc q => mul_int q (mulOk_ok hc)
theorem ad_mulI {P : Wd} : Ad2 P (rI (fun i j => mulOk i j = true) fun i j => .int (i * j)) dMulI := fun p H x y a b d Q hp r1 r2 e q => by
  unfold dMulI at e
  split at e
  · cases r1; cases r2
    split at e
    · rename_i h
      cases e
      exact ⟨_, _, rfl, rfl, h, q _ _ (Same.refl _) (.int _)⟩
    · cases e
  · cases e
def dMul (a b : D) : Option D := (dMulI a b).or ((dRepS a b).or ((fRep a b).map OD.er))
abbrev rMulA : R2 := fun x y H Q => rI (fun i j => mulOk i j = true) (fun i j => .int (i * j)) x y H Q ∨ (rRepS x y H Q ∨ rRep x y H Q)
theorem ad_mul {P : Wd} : Ad2 P rMulA dMul := Ad2.or ad_mulI (Ad2.or ad_repS (Ad2.ofF ad_repF))
theorem op_mulAA {X : Cx} : OpR X (binaryOp .Mult) rMulA := op_mulA.or (op_repS.or op_rep)
@[simp] theorem dMul_int (i j : Int) : dMul (.int i) (.int j) = if mulOk i j then some (.int (i * j)) else none := by
  show (dMulI (.int i) (.int j)).or ((none : Option D).or none) = _
  rw [Option.none_or, Option.or_none]; rfl
@[simp] theorem dMul_str (s : List Nat) (k : Int) : dMul (.str s) (.int k) = if okSz (s.length * k.toNat) && (decide (k < 1000000) && decide (-1000000 < k)) then some (.str (List.replicate k.toNat s).flatten) else none := by
  show (none : Option D).or ((dRepS (.str s) (.int k)).or none) = _
  rw [Option.none_or, Option.or_none]; rfl
@[simp] theorem dMul_lst (s : List D) (k : Int) : dMul (.lst s) (.int k) = if okSz (s.length * k.toNat) && (decide (k < 1000000) && decide (-1000000 < k)) then some (.lst (List.replicate k.toNat s).flatten) else none := by
  show (none : Option D).or ((none : Option D).or ((fRep (.lst s) (.int k)).map OD.er)) = _
  rw [Option.none_or, Option.none_or, fRep]
  split
  · rw [Option.map_some, lstF_er]
  · rfl
/-- // -/
def divW (j : Int) : Bool := decide (0 < j) && decide (j.natAbs.log2 < 9000)
def dDiv : D → D → Option D
  | .int i, .int j => if divW j then some (.int (i / j)) else if decide (j ≠ 0) && decide (j.natAbs < 1073741824) then some (.int (i.fdiv j)) else none
  | _, _ => none
abbrev rDivA : R2 := fun x y H Q => rI CDivW (fun i j => .int (i / j)) x y H Q ∨ rI CDivN (fun i j => .int (i.fdiv j)) x y H Q
theorem op_divA {X : Cx} : OpR X (binaryOp .FloorDiv) rDivA := op_fdivW.or op_fdivN
theorem ad_div {P : Wd} : Ad2 P rDivA dDiv := fun p H x y a b d Q hp r1 r2 e q => by
  unfold dDiv at e
  split at e
  · cases r1; cases r2
    split at e
    · rename_i h
      obtain ⟨h1, h2⟩ := Bool.and_eq_true_iff.mp h
      cases e
      exact .inl ⟨_, _, rfl, rfl, ⟨of_decide_eq_true h1, of_decide_eq_true h2⟩, q _ _ (Same.refl _) (.int _)⟩
    · split at e
      · rename_i h
        obtain ⟨h1, h2⟩ := Bool.and_eq_true_iff.mp h
        cases e
        exact .inr ⟨_, _, rfl, rfl, ⟨of_decide_eq_true h1, of_decide_eq_true h2⟩, q _ _ (Same.refl _) (.int _)⟩
      · cases e
  · cases e
theorem fl_div : Flat2 dDiv := fun a b d e => by
  unfold dDiv at e
  split at e
  · split at e
    · cases e; rfl
    · split at e
      · cases e; rfl
      · cases e
  · cases e
/-- % -/
def dMod : D → D → Option D
  | .int i, .int j => if decide (0 < j) then some (.int (i % j)) else if decide (j ≠ 0) then some (.int (i.fmod j)) else none
  | _, _ => none
abbrev rModA : R2 := fun x y H Q => rI (fun _ j => 0 < j) (fun i j => .int (i % j)) x y H Q ∨ rI (fun _ j => j ≠ 0) (fun i j => .int (i.fmod j)) x y H Q
theorem op_modA {X : Cx} : OpR X (binaryOp .Mod) rModA := op_mod.or op_modN
theorem ad_mod {P : Wd} : Ad2 P rModA dMod := fun p H x y a b d Q hp r1 r2 e q => by
  unfold dMod at e
  split at e
  · cases r1; cases r2
    split at e
    · rename_i h
      cases e
      exact .inl ⟨_, _, rfl, rfl, of_decide_eq_true h, q _ _ (Same.refl _) (.int _)⟩
    · split at e
      · rename_i h
        cases e
        exact .inr ⟨_, _, rfl, rfl, of_decide_eq_true h, q _ _ (Same.refl _) (.int _)⟩
      · cases e
  · cases e
theorem fl_mod : Flat2 dMod := fun a b d e => by
  unfold dMod at e
  split at e
  · split at e
    · cases e; rfl
    · split at e
      · cases e; rfl
      · cases e
  · cases e
def dNeg : D → Option D
  | .int i => some (.int (-i))
  | _ => none
theorem ad_neg {P : Wd} : Ad1 P (rU fun i => .int (-i)) dNeg := fun p H x a d Q hp r1 e q => by
  unfold dNeg at e
  split at e
  · cases e; cases r1; exact ⟨_, rfl, q _ _ (Same.refl _) (.int _)⟩
  · cases e

end DL
set_option Elab.async false
set_option linter.all false
set_option maxRecDepth 100000
namespace DL
open PySem PySem.Spec PyProof.Rows L2

/-! ### == -/
mutual
def D.py : D → PyData
  | .non => .none
  | .bl b => .bool b
  | .int i => .int i
  | .str s => .str ⟨s.toArray⟩
  | .lst xs => .list (D.pyL xs)
  | .tup xs => .tuple (D.pyL xs)
  | _ => .none
def D.pyL : List D → List PyData
  | [] => []
  | x :: xs => x.py :: D.pyL xs
end
/- plain data, at most so deep -/
mutual
def D.dt : Nat → D → Bool
  | _, .non => true
  | _, .bl _ => true
  | _, .int _ => true
  | _, .str _ => true
  | n + 1, .lst xs => D.dtL n xs
  | n + 1, .tup xs => D.dtL n xs
  | _, _ => false
def D.dtL : Nat → List D → Bool
  | _, [] => true
  | n, x :: xs => x.dt n && D.dtL n xs
end

theorem D.dtL_all : ∀ (n : Nat) (xs : List D), D.dtL n xs = xs.all (D.dt n)
  | n, [] => by rw [D.dtL]; rfl
  | n, x :: xs => by rw [D.dtL, D.dtL_all n xs]; rfl
@[simp] theorem D.dt_non (n : Nat) : D.dt n .non = true := by cases n <;> rw [D.dt]
@[simp] theorem D.dt_bl (n : Nat) (b : Bool) : D.dt n (.bl b) = true := by cases n <;> rw [D.dt]
@[simp] theorem D.dt_int (n : Nat) (b : Int) : D.dt n (.int b) = true := by cases n <;> rw [D.dt]
@[simp] theorem D.dt_str (n : Nat) (b : List Nat) : D.dt n (.str b) = true := by cases n <;> rw [D.dt]
@[simp] theorem D.dt_lst (n : Nat) (b : List D) : D.dt (n + 1) (.lst b) = b.all (D.dt n) := by rw [D.dt, D.dtL_all]
@[simp] theorem D.dt_tup (n : Nat) (b : List D) : D.dt (n + 1) (.tup b) = b.all (D.dt n) := by rw [D.dt, D.dtL_all]
mutual
theorem D.dp {P : Wd} {H : Hp} {p : Addr → Prop} : ∀ (n : Nat) (d : D) (v : V), d.dt n = true → Rep P (cut H p) v d → Dp P.K H v d.py ∧ d.py.plain = true ∧ d.py.depth ≤ n
  | n, .non, v, h, r => by cases r; rw [D.py]; exact ⟨.non, rfl, Nat.zero_le _⟩
  | n, .bl b, v, h, r => by cases r; rw [D.py]; exact ⟨.bl b, rfl, Nat.zero_le _⟩
  | n, .int b, v, h, r => by cases r; rw [D.py]; exact ⟨.int b, rfl, Nat.zero_le _⟩
  | n, .str b, v, h, r => by
    obtain ⟨z, rfl, hz⟩ := r.tick
    rw [D.py]
    have e : (⟨b.toArray⟩ : Str) = z := by rw [← hz]
    rw [e]
    exact ⟨.str z, rfl, Nat.zero_le _⟩
  | n + 1, .lst xs, v, h, r => by
    obtain ⟨a, vs, rfl, h1, h2⟩ := r.lstE
    rw [D.dt] at h
    obtain ⟨q1, q2, q3⟩ := D.dpL n xs vs h h2
    rw [D.py]
    exact ⟨.lst (.inl (rd_cut h1)) q1, by rw [PyData.plain]; exact q2, by rw [PyData.depth]; omega⟩
  | n + 1, .tup xs, v, h, r => by
    obtain ⟨a, vs, rfl, h1, h2⟩ := r.tupE
    rw [D.dt] at h
    obtain ⟨q1, q2, q3⟩ := D.dpL n xs vs h h2
    rw [D.py]
    exact ⟨.tup (sqT_cut h1) q1, by rw [PyData.plain]; exact q2, by rw [PyData.depth]; omega⟩
  | 0, .lst xs, v, h, r => by simp [D.dt] at h
  | 0, .tup xs, v, h, r => by simp [D.dt] at h
  | n, .dic _, v, h, r => by simp [D.dt] at h
  | n, .obj _ _, v, h, r => by simp [D.dt] at h
  | n, .exn _ _, v, h, r => by simp [D.dt] at h
  | n, .scr _, v, h, r => by simp [D.dt] at h
theorem D.dpL {P : Wd} {H : Hp} {p : Addr → Prop} : ∀ (n : Nat) (d : List D) (v : List V), D.dtL n d = true → RepL P (cut H p) v d → DpAll P.K H v (D.pyL d) ∧ PyData.plainAll (D.pyL d) = true ∧ PyData.depthAll (D.pyL d) ≤ n
  | n, [], v, h, r => by cases r; rw [D.pyL]; exact ⟨.nil, by rw [PyData.plainAll], Nat.zero_le _⟩
  | n, x :: xs, v, h, r => by
    cases r with
    | cons r1 r2 =>
      rw [D.dtL, Bool.and_eq_true] at h
      obtain ⟨q1, q2, q3⟩ := D.dp n x _ h.1 r1
      obtain ⟨p1, p2, p3⟩ := D.dpL n xs _ h.2 r2
      rw [D.pyL]
      exact ⟨.cons q1 p1, by rw [PyData.plainAll, q2, p2]; rfl, by rw [PyData.depthAll]; exact Nat.max_le.mpr ⟨q3, p3⟩⟩
end
/-- == of data -/
def D.eqv (a b : D) : Bool := PyData.eqv a.py b.py
def D.eqvL : List D → List D → Bool
  | [], [] => true
  | x :: xs, y :: ys => D.eqv x y && D.eqvL xs ys
  | _, _ => false
theorem eqvAll_pyL : ∀ xs ys : List D, PyData.eqvAll (D.pyL xs) (D.pyL ys) = D.eqvL xs ys
  | [], [] => by rw [D.pyL, PyData.eqvAll, D.eqvL]
  | [], y :: ys => by simp [D.pyL, PyData.eqvAll, D.eqvL]
  | x :: xs, [] => by simp [D.pyL, PyData.eqvAll, D.eqvL]
  | x :: xs, y :: ys => by rw [D.pyL, D.pyL, PyData.eqvAll, D.eqvL, eqvAll_pyL xs ys]; rfl
@[simp] theorem eqv_int (i j : Int) : D.eqv (.int i) (.int j) = (i == j) := by unfold D.eqv; rw [D.py, D.py, PyData.eqv]
@[simp] theorem eqv_bl (i j : Bool) : D.eqv (.bl i) (.bl j) = (i == j) := by unfold D.eqv; rw [D.py, D.py, PyData.eqv]
@[simp] theorem eqv_str (i j : List Nat) : D.eqv (.str i) (.str j) = (i == j) := by
  unfold D.eqv; rw [D.py, D.py, PyData.eqv]
  rw [Bool.eq_iff_iff]
  simp
@[simp] theorem eqv_non : D.eqv .non .non = true := by unfold D.eqv; rw [D.py, PyData.eqv]
@[simp] theorem eqv_lst (i j : List D) : D.eqv (.lst i) (.lst j) = D.eqvL i j := by unfold D.eqv; rw [D.py, D.py, PyData.eqv, eqvAll_pyL]
@[simp] theorem eqv_tup (i j : List D) : D.eqv (.tup i) (.tup j) = D.eqvL i j := by unfold D.eqv; rw [D.py, D.py, PyData.eqv, eqvAll_pyL]
@[simp] theorem eqv_non_int (i : Int) : D.eqv .non (.int i) = false := by unfold D.eqv; rw [D.py, D.py, PyData.eqv]
@[simp] theorem eqv_int_non (i : Int) : D.eqv (.int i) .non = false := by unfold D.eqv; rw [D.py, D.py, PyData.eqv]
@[simp] theorem eqv_non_str (i : List Nat) : D.eqv .non (.str i) = false := by unfold D.eqv; rw [D.py, D.py, PyData.eqv]
@[simp] theorem eqv_str_non (i : List Nat) : D.eqv (.str i) .non = false := by unfold D.eqv; rw [D.py, D.py, PyData.eqv]
@[simp] theorem eqv_int_str (j : Int) (i : List Nat) : D.eqv (.int j) (.str i) = false := by unfold D.eqv; rw [D.py, D.py, PyData.eqv]
@[simp] theorem eqv_str_int (j : Int) (i : List Nat) : D.eqv (.str i) (.int j) = false := by unfold D.eqv; rw [D.py, D.py, PyData.eqv]
@[simp] theorem eqv_non_lst (i : List D) : D.eqv .non (.lst i) = false := by unfold D.eqv; rw [D.py, D.py, PyData.eqv]
@[simp] theorem eqv_lst_non (i : List D) : D.eqv (.lst i) .non = false := by unfold D.eqv; rw [D.py, D.py, PyData.eqv]
@[simp] theorem eqv_non_tup (i : List D) : D.eqv .non (.tup i) = false := by unfold D.eqv; rw [D.py, D.py, PyData.eqv]
@[simp] theorem eqv_tup_non (i : List D) : D.eqv (.tup i) .non = false := by unfold D.eqv; rw [D.py, D.py, PyData.eqv]
@[simp] theorem eqv_lst_tup (i j : List D) : D.eqv (.lst i) (.tup j) = false := by unfold D.eqv; rw [D.py, D.py, PyData.eqv]
@[simp] theorem eqv_tup_lst (i j : List D) : D.eqv (.tup i) (.lst j) = false := by unfold D.eqv; rw [D.py, D.py, PyData.eqv]
@[simp] theorem eqvL_nil : D.eqvL [] [] = true := rfl
@[simp] theorem eqvL_cons (x y : D) (xs ys : List D) : D.eqvL (x :: xs) (y :: ys) = (D.eqv x y && D.eqvL xs ys) := rfl
@[simp] theorem eqvL_nil_cons (y : D) (ys : List D) : D.eqvL [] (y :: ys) = false := rfl
@[simp] theorem eqvL_cons_nil (y : D) (ys : List D) : D.eqvL (y :: ys) [] = false := rfl
/-- lists of one kind -/
theorem eqvL_map {α : Type} [DecidableEq α] (f : α → D) (h : ∀ a b, D.eqv (f a) (f b) = decide (a = b)) : ∀ xs ys : List α, D.eqvL (xs.map f) (ys.map f) = decide (xs = ys)
  | [], [] => by simp
  | [], y :: ys => by simp
  | x :: xs, [] => by simp
  | x :: xs, y :: ys => by
    rw [List.map_cons, List.map_cons, eqvL_cons, h, eqvL_map f h xs ys, Bool.eq_iff_iff]
    simp
def dEq (a b : D) : Option D := if a.dt 20 && b.dt 20 then some (.bl (D.eqv a b)) else none
def dNe (a b : D) : Option D := if a.dt 20 && b.dt 20 then some (.bl (!D.eqv a b)) else none
theorem fl_eq : Flat2 dEq := fun a b d e => by
  unfold dEq at e; split at e
  · cases e; rfl
  · cases e
theorem fl_ne : Flat2 dNe := fun a b d e => by
  unfold dNe at e; split at e
  · cases e; rfl
  · cases e
def rEqP (P : Wd) (neg : Bool) : R2 := fun x y H Q => ∃ p d e, Rep P (cut H p) x d ∧ Rep P (cut H p) y e ∧ d.dt 20 = true ∧ e.dt 20 = true ∧ Q (.bl (if neg then !D.eqv d e else D.eqv d e)) H
section
variable {X : Cx} {P : Wd}
theorem op_eqP (hK : P.K = X.K) (hu : X.A.units + 64 < cLine) : OpR X (compareOp .Eq) (rEqP P false) := by
  intro pins s σ H x y v u Q I rx ry h
  obtain ⟨p, d, e, hd, he, sd, se, q⟩ := h
  obtain ⟨d1, d2, d3⟩ := D.dp 20 d x sd hd
  obtain ⟨e1, e2, e3⟩ := D.dp 20 e y se he
  rw [hK] at d1 e1
  obtain ⟨as, r1⟩ := Dp.reads I _ x v d1 rx
  obtain ⟨bs, r2⟩ := Dp.reads I _ y u e1 ry
  refine SeqAt.eq_plain r1 r2 d2 e2 ?_ ⟨.bl _, H, I, rfl, q⟩
  have : min d.py.depth e.py.depth ≤ 20 := Nat.le_trans (Nat.min_le_left _ _) d3
  omega
theorem op_neP (hK : P.K = X.K) (hu : X.A.units + 64 < cLine) : OpR X (compareOp .NotEq) (rEqP P true) := by
  intro pins s σ H x y v u Q I rx ry h
  obtain ⟨p, d, e, hd, he, sd, se, q⟩ := h
  obtain ⟨d1, d2, d3⟩ := D.dp 20 d x sd hd
  obtain ⟨e1, e2, e3⟩ := D.dp 20 e y se he
  rw [hK] at d1 e1
  obtain ⟨as, r1⟩ := Dp.reads I _ x v d1 rx
  obtain ⟨bs, r2⟩ := Dp.reads I _ y u e1 ry
  refine SeqAt.ne_plain r1 r2 d2 e2 ?_ ⟨.bl _, H, I, rfl, q⟩
  have : min d.py.depth e.py.depth ≤ 20 := Nat.le_trans (Nat.min_le_left _ _) d3
  omega
theorem ad_eq : Ad2 P (rEqP P false) dEq := fun p H x y a b d Q hp r1 r2 e q => by
  unfold dEq at e
  split at e
  · rename_i h
    obtain ⟨h1, h2⟩ := Bool.and_eq_true_iff.mp h
    cases e
    exact ⟨p, a, b, r1, r2, h1, h2, q _ _ (Same.refl _) (.bl _)⟩
  · cases e
theorem ad_ne : Ad2 P (rEqP P true) dNe := fun p H x y a b d Q hp r1 r2 e q => by
  unfold dNe at e
  split at e
  · rename_i h
    obtain ⟨h1, h2⟩ := Bool.and_eq_true_iff.mp h
    cases e
    exact ⟨p, a, b, r1, r2, h1, h2, q _ _ (Same.refl _) (.bl _)⟩
  · cases e
end
end DL
set_option Elab.async false
set_option linter.all false
set_option maxRecDepth 100000
namespace DL
open PySem PySem.Spec PyProof.Rows L2

/-! ### order -/
def strLt (s t : List Nat) : Bool := decide (s < t)
def dCmp (fi : Int → Int → Bool) (fs : List Nat → List Nat → Bool) : D → D → Option D
  | .int i, .int j => some (.bl (fi i j))
  | .str s, .str t => some (.bl (fs s t))
  | _, _ => none
def dLt : D → D → Option D := dCmp (fun i j => decide (i < j)) (fun s t => decide (s < t))
def dLe : D → D → Option D := dCmp (fun i j => decide (i ≤ j)) (fun s t => !decide (t < s))
def dGt : D → D → Option D := dCmp (fun i j => decide (j < i)) (fun s t => decide (t < s))
def dGe : D → D → Option D := dCmp (fun i j => decide (j ≤ i)) (fun s t => !decide (s < t))
@[simp] theorem dLt_int (i j : Int) : dLt (.int i) (.int j) = some (.bl (decide (i < j))) := rfl
@[simp] theorem dLe_int (i j : Int) : dLe (.int i) (.int j) = some (.bl (decide (i ≤ j))) := rfl
@[simp] theorem dGt_int (i j : Int) : dGt (.int i) (.int j) = some (.bl (decide (j < i))) := rfl
@[simp] theorem dGe_int (i j : Int) : dGe (.int i) (.int j) = some (.bl (decide (j ≤ i))) := rfl
@[simp] theorem dLt_str (i j : List Nat) : dLt (.str i) (.str j) = some (.bl (decide (i < j))) := rfl
@[simp] theorem dLe_str (i j : List Nat) : dLe (.str i) (.str j) = some (.bl (!decide (j < i))) := rfl
@[simp] theorem dGt_str (i j : List Nat) : dGt (.str i) (.str j) = some (.bl (decide (j < i))) := rfl
@[simp] theorem dGe_str (i j : List Nat) : dGe (.str i) (.str j) = some (.bl (!decide (i < j))) := rfl
theorem fl_cmp {fi : Int → Int → Bool} {fs : List Nat → List Nat → Bool} : Flat2 (dCmp fi fs) := fun a b d e => by
  unfold dCmp at e
  split at e
  · cases e; rfl
  · cases e; rfl
  · cases e
abbrev rCmp (fi : Int → Int → Bool) (fs : List Nat → List Nat → Bool) : R2 := fun x y H Q => rI0 (fun i j => .bl (fi i j)) x y H Q ∨ ∃ i j : Str, x = .str i ∧ y = .str j ∧ Q (.bl (fs i.cps.toList j.cps.toList)) H
theorem ad_cmp {P : Wd} {fi : Int → Int → Bool} {fs : List Nat → List Nat → Bool} : Ad2 P (rCmp fi fs) (dCmp fi fs) := fun p H x y a b d Q hp r1 r2 e q => by
  unfold dCmp at e
  split at e
  · cases e; cases r1; cases r2; exact .inl ⟨_, _, rfl, rfl, q _ _ (Same.refl _) (.bl _)⟩
  · cases e
    obtain ⟨z, rfl, hz⟩ := r1.tick
    obtain ⟨w, rfl, hw⟩ := r2.tick
    exact .inr ⟨z, w, rfl, rfl, q _ _ (Same.refl _) (by rw [hz, hw]; exact .bl _)⟩
  · cases e
section
variable {X : Cx}
theorem op_ltA : OpR X (compareOp .Lt) (rCmp (fun i j => decide (i < j)) (fun s t => decide (s < t))) := op_lt.or op_lt_str
theorem op_leA : OpR X (compareOp .LtE) (rCmp (fun i j => decide (i ≤ j)) (fun s t => !decide (t < s))) := op_le.or op_le_str
theorem op_gtA : OpR X (compareOp .Gt) (rCmp (fun i j => decide (j < i)) (fun s t => decide (t < s))) := op_gt.or op_gt_str
theorem op_geA : OpR X (compareOp .GtE) (rCmp (fun i j => decide (j ≤ i)) (fun s t => !decide (s < t))) := op_ge.or op_ge_str
end
/-! ### is None -/
def dIsN : D → D → Option D
  | .non, .non => some (.bl true)
  | .bl _, .non | .int _, .non | .str _, .non | .lst _, .non | .tup _, .non | .dic _, .non | .obj _ _, .non => some (.bl false)
  | _, _ => none
def dNotN : D → D → Option D
  | .non, .non => some (.bl false)
  | .bl _, .non | .int _, .non | .str _, .non | .lst _, .non | .tup _, .non | .dic _, .non | .obj _ _, .non => some (.bl true)
  | _, _ => none
@[simp] theorem dIsN_non : dIsN .non .non = some (.bl true) := rfl
@[simp] theorem dIsN_int (i : Int) : dIsN (.int i) .non = some (.bl false) := rfl
@[simp] theorem dIsN_bl (i : Bool) : dIsN (.bl i) .non = some (.bl false) := rfl
@[simp] theorem dIsN_str (i : List Nat) : dIsN (.str i) .non = some (.bl false) := rfl
@[simp] theorem dIsN_lst (i : List D) : dIsN (.lst i) .non = some (.bl false) := rfl
@[simp] theorem dIsN_tup (i : List D) : dIsN (.tup i) .non = some (.bl false) := rfl
@[simp] theorem dIsN_obj (c : Str) (i : List (Str × D)) : dIsN (.obj c i) .non = some (.bl false) := rfl
@[simp] theorem dNotN_non : dNotN .non .non = some (.bl false) := rfl
@[simp] theorem dNotN_int (i : Int) : dNotN (.int i) .non = some (.bl true) := rfl
@[simp] theorem dNotN_bl (i : Bool) : dNotN (.bl i) .non = some (.bl true) := rfl
@[simp] theorem dNotN_str (i : List Nat) : dNotN (.str i) .non = some (.bl true) := rfl
@[simp] theorem dNotN_lst (i : List D) : dNotN (.lst i) .non = some (.bl true) := rfl
@[simp] theorem dNotN_tup (i : List D) : dNotN (.tup i) .non = some (.bl true) := rfl
@[simp] theorem dNotN_obj (c : Str) (i : List (Str × D)) : dNotN (.obj c i) .non = some (.bl true) := rfl
theorem rep_nn {P : Wd} {G : Hp} {x : V} {d : D} (r : Rep P G x d) : decide (x = .non) = (match d with | .non => true | _ => false) := by
  cases r <;> simp
theorem ad_isN {P : Wd} : Ad2 P (fun x y H Q => y = .non ∧ Q (.bl (decide (x = .non))) H) dIsN := fun p H x y a b d Q hp r1 r2 e q => by
  cases b with
  | non =>
    have := r2.nonE; subst this
    refine ⟨rfl, ?_⟩
    rw [rep_nn r1]
    cases a <;> first | (cases e; exact q _ _ (Same.refl _) (.bl _)) | cases e
  | _ => cases a <;> cases e
theorem ad_notN {P : Wd} : Ad2 P (fun x y H Q => y = .non ∧ Q (.bl (!decide (x = .non))) H) dNotN := fun p H x y a b d Q hp r1 r2 e q => by
  cases b with
  | non =>
    have := r2.nonE; subst this
    refine ⟨rfl, ?_⟩
    rw [rep_nn r1]
    cases a <;> first | (cases e; exact q _ _ (Same.refl _) (.bl _)) | cases e
  | _ => cases a <;> cases e
theorem fl_isN : Flat2 dIsN := fun a b d e => by
  cases b <;> cases a <;> cases e <;> rfl
theorem fl_notN : Flat2 dNotN := fun a b d e => by
  cases b <;> cases a <;> cases e <;> rfl
end DL
set_option Elab.async false
set_option linter.all false
set_option maxRecDepth 100000
namespace DL
open PySem PySem.Spec PyProof.Rows L2

/-! ## getting at the items of data -/
def erE (f : En → R OD) : En → R D := fun ρ => (f ρ).bind fun od => .ok od.er
section
variable {X : Cx} {B : Bs} {W : WX} {E E1 E2 : List Nat} {f f1 f2 : En → R D} {fo : En → R OD} {fa : En → R (List D)} {e e1 e2 e3 : Expr} {es : List Expr} {pos : Pos}
theorem imp_ofF {σ : L2.St} {H : Hp} {Q : VK} (h : tD B W E (erE fo) σ H Q) : tF B W E fo σ H Q := by
  obtain ⟨ρ, As, S, h⟩ := h
  refine ⟨ρ, As, S, ?_⟩
  unfold erE at h
  cases e : fo ρ with
  | ok d =>
    rw [e, R.bind_ok] at h
    exact fun v A H' s nA fA ro => h v H' s (er_new S.hth fA ro)
  | ex c fs => rw [e] at h; exact h
  | st => rw [e] at h; exact h
theorem d_ofF (h : PE X e (tF B W E fo)) : PE X e (tD B W E (erE fo)) := h.imp fun _ _ _ => imp_ofF
def op2F (g : D → D → Option OD) (f1 f2 : En → R D) : En → R OD := fun ρ => (f1 ρ).bind fun a => (f2 ρ).bind fun b => .ofO (g a b)
def opAF (g : List D → Option OD) (f : En → R (List D)) : En → R OD := fun ρ => (f ρ).bind fun a => .ofO (g a)
theorem imp_o2F {r : R2} {g : D → D → Option OD} (hg : AdF2 B.P r g) {σ : L2.St} {H : Hp} {Q : VK} (h : tF B W (E1 ++ E2) (op2F g f1 f2) σ H Q) : tOp r (tD B W E1 f1) (tD B W E2 f2) σ H Q := by
  obtain ⟨ρ, As, S, h⟩ := h
  refine tD_bind S h fun a v H1 s1 S1 r1 h1 => ?_
  refine tD_bind S1 h1 fun b u H2 s2 S2 r2 h2 => ?_
  cases e : g a b with
  | none => rw [e] at h2; exact h2.elim
  | some d =>
    rw [e] at h2
    refine hg (hid B As (E1 ++ E2)) H2 v u a b d Q S2.hth (r1.up (cut_mono s2 (hid_mono fun i hi => List.mem_append_left _ hi))) (r2.up (cut_mono (Same.refl _) (hid_mono fun i hi => List.mem_append_right _ hi))) e fun w A H3 s3 nA fA r3 => ?_
    exact h2 w A H3 ((s1.trans s2).trans s3) nA (fun a ha => (s1.trans s2).free (fA a ha)) r3
theorem imp_oAF {r : List V → Hp → VK → Prop} {g : List D → Option OD} (hg : AdFA B.P r g) {σ : L2.St} {H : Hp} {Q : VK} (h : tF B W E (opAF g fa) σ H Q) : tA B W E fa σ H (fun x H1 => r x H1 Q) := by
  obtain ⟨ρ, As, S, h⟩ := h
  refine tA_bind S h fun a v H1 s1 S1 r1 h1 => ?_
  cases e : g a with
  | none => rw [e] at h1; exact h1.elim
  | some d =>
    rw [e] at h1
    exact hg (hid B As E) H1 v a d Q S1.hth r1 e fun w A H3 s3 nA fA r3 => h1 w A H3 (s1.trans s3) nA (fun a ha => s1.free (fA a ha)) r3
theorem f_op {op : Operator} {r : R2} {g : D → D → Option OD} (ho : OpR X (binaryOp op) r) (hg : AdF2 B.P r g) (h1 : PE X e1 (tD B W E1 f1)) (h2 : PE X e2 (tD B W E2 f2)) : PE X (.BinOp e1 op e2 pos) (tF B W (E1 ++ E2) (op2F g f1 f2)) :=
  (pe_op ho h1 h2).imp fun _ _ _ => imp_o2F hg
/-- + and * of lists that are new -/
theorem f_cat (h1 : PE X e1 (tD B W E1 f1)) (h2 : PE X e2 (tD B W E2 f2)) : PE X (.BinOp e1 .Add e2 pos) (tF B W (E1 ++ E2) (op2F fCat f1 f2)) := f_op op_cat ad_catF h1 h2
theorem f_rep (h1 : PE X e1 (tD B W E1 f1)) (h2 : PE X e2 (tD B W E2 f2)) : PE X (.BinOp e1 .Mult e2 pos) (tF B W (E1 ++ E2) (op2F fRep f1 f2)) := f_op op_rep ad_repF h1 h2
theorem d_add (h1 : PE X e1 (tD B W E1 f1)) (h2 : PE X e2 (tD B W E2 f2)) : PE X (.BinOp e1 .Add e2 pos) (tD B W (E1 ++ E2) (op2 dAdd f1 f2)) := d_op op_addA ad_add h1 h2
theorem d_mul (h1 : PE X e1 (tD B W E1 f1)) (h2 : PE X e2 (tD B W E2 f2)) : PE X (.BinOp e1 .Mult e2 pos) (tD B W (E1 ++ E2) (op2 dMul f1 f2)) := d_op op_mulAA ad_mul h1 h2
theorem d_sub (h1 : PE X e1 (tD B W E1 f1)) (h2 : PE X e2 (tD B W E2 f2)) : PE X (.BinOp e1 .Sub e2 pos) (tD B W [] (op2 dSub f1 f2)) := d_opF op_sub ad_sub fl_sub h1 h2
theorem d_div (h1 : PE X e1 (tD B W E1 f1)) (h2 : PE X e2 (tD B W E2 f2)) : PE X (.BinOp e1 .FloorDiv e2 pos) (tD B W [] (op2 dDiv f1 f2)) := d_opF op_divA ad_div fl_div h1 h2
theorem d_mod (h1 : PE X e1 (tD B W E1 f1)) (h2 : PE X e2 (tD B W E2 f2)) : PE X (.BinOp e1 .Mod e2 pos) (tD B W [] (op2 dMod f1 f2)) := d_opF op_modA ad_mod fl_mod h1 h2
theorem d_neg (h1 : PE X e1 (tD B W E1 f1)) : PE X (.UnaryOp .USub e1 pos) (tD B W E1 (op1 dNeg f1)) := d_un un_neg ad_neg h1

/-! ### a[i] -/
theorem atI_map {α β : Type} (g : α → β) {xs : List α} {i : Int} {x : α} (h : L2.atI xs i = some x) : L2.atI (xs.map g) i = some (g x) := by
  unfold L2.atI at h ⊢
  rw [List.length_map]
  cases e1 : ixN xs.length i with
  | none => rw [e1] at h; cases h
  | some j =>
    rw [e1, Option.bind_some] at h
    rw [Option.bind_some, List.getElem?_map, h]; rfl
theorem RepL.atI {P : Wd} {G : Hp} {vs : List V} {ds : List D} (h : RepL P G vs ds) {i : Int} {d : D} (e : L2.atI ds i = some d) : ∃ v, L2.atI vs i = some v ∧ Rep P G v d := by
  unfold L2.atI at e ⊢
  rw [h.len]
  cases e1 : ixN ds.length i with
  | none => rw [e1] at e; cases e
  | some j =>
    rw [e1, Option.bind_some] at e
    rw [Option.bind_some]
    exact h.getD e
def dIx : D → D → Option D
  | .scr ns, .int i => (L2.atI ns i).map D.int
  | .lst xs, .int i => L2.atI xs i
  | .tup xs, .int i => L2.atI xs i
  | .str s, .int i => if okSz s.length then (L2.atI s i).map fun c => .str [c] else none
  | _, _ => none
@[simp] theorem dIx_scr (ns : List Int) (i : Int) : dIx (.scr ns) (.int i) = (L2.atI ns i).map D.int := rfl
@[simp] theorem dIx_lst (xs : List D) (i : Int) : dIx (.lst xs) (.int i) = L2.atI xs i := rfl
@[simp] theorem dIx_tup (xs : List D) (i : Int) : dIx (.tup xs) (.int i) = L2.atI xs i := rfl
@[simp] theorem dIx_str (xs : List Nat) (i : Int) : dIx (.str xs) (.int i) = if okSz xs.length then (L2.atI xs i).map fun c => .str [c] else none := rfl
theorem ad_ix {P : Wd} : Ad2 P (rIx P.K) dIx := fun p H x y a b d Q hp r1 r2 e q => by
  unfold dIx at e
  split at e
  · rename_i ns i
    cases r1 with
    | @scr l _ h =>
    have := r2.intE; subst this
    cases e1 : L2.atI ns i with
    | none => rw [e1] at e; cases e
    | some j =>
      rw [e1] at e
      cases e
      refine .inl ⟨l, ns.map V.int, _, .int j, rfl, rfl, Same.seq cut_same h, ?_, q _ _ (Same.refl _) (.int _)⟩
      exact atI_map V.int e1
  · obtain ⟨l, vs, rfl, hl, rl⟩ := r1.lstE
    have := r2.intE; subst this
    obtain ⟨v, e1, rv⟩ := rl.atI e
    exact .inl ⟨l, vs, _, v, rfl, rfl, .inl (rd_cut hl), e1, q _ _ (Same.refl _) rv⟩
  · obtain ⟨l, vs, rfl, hl, rl⟩ := r1.tupE
    have := r2.intE; subst this
    obtain ⟨v, e1, rv⟩ := rl.atI e
    exact .inr (.inl ⟨l, vs, _, v, rfl, rfl, sqT_cut hl, e1, q _ _ (Same.refl _) rv⟩)
  · obtain ⟨z, rfl, hz⟩ := r1.tick
    have := r2.intE; subst this
    split at e
    · rename_i hk
      rw [← hz] at e
      cases e1 : L2.atI z.cps.toList _ with
      | none => rw [e1] at e; cases e
      | some c =>
        rw [e1] at e
        cases e
        exact .inr (.inr ⟨z, _, c, rfl, rfl, by rw [slen hz]; exact okSz_le hk, e1, q _ _ (Same.refl _) (rep_of rfl)⟩)
    · cases e
  · cases e
theorem d_ix (hK : B.P.K = X.K) (hs : PlainIx e2) (h1 : PE X e1 (tD B W E1 f1)) (h2 : PE X e2 (tD B W E2 f2)) : PE X (.Subscript e1 e2 pos) (tD B W (E1 ++ E2) (op2 dIx f1 f2)) :=
  (pe_ix (by rw [hK]; exact ix_seq) h1 h2 hs).imp fun _ _ _ => imp_op2 ad_ix

/-! ### slices -/
def cutN {α : Type} (xs : List α) (lo hi : Option Int) : List α := (xs.drop (HT.sIx xs.length 0 lo)).take (HT.sIx xs.length xs.length hi - HT.sIx xs.length 0 lo)
theorem RepL.cutN {P : Wd} {G : Hp} {vs : List V} {ds : List D} (h : RepL P G vs ds) (lo hi : Option Int) : RepL P G (cutV vs lo hi) (DL.cutN ds lo hi) := by
  unfold cutV DL.cutN
  rw [h.len]
  exact (h.drop _).take _
theorem cutS_list {z : Str} {s : List Nat} (hz : z.cps.toList = s) (lo hi : Option Int) : (cutS z lo hi).cps.toList = cutN s lo hi := by
  unfold cutS cutN
  rw [slen hz, hz]
def tP (B : Bs) (W : WX) (f : En → R (Option Int)) : TO := fun σ H Q => ∃ ρ As, Sta B σ H ρ As ∧ (f ρ).go (fun o => ∀ H', Same H H' → Q o H') (Exk B W σ H)
def pN : En → R (Option Int) := fun _ => .ok none
def asI : D → Option Int
  | .int i => some i
  | _ => none
def pI (f : En → R D) : En → R (Option Int) := fun ρ => (f ρ).bind fun d => .ofO ((asI d).map some)
theorem _root_.L2.PO.imp {o : Option Expr} {t t' : TO} (h : PO X o t) (i : ∀ σ H Q, t' σ H Q → t σ H Q) : PO X o t' := ⟨fun p s σ H Q I q => h.run p s σ H Q I (i σ H Q q)⟩
theorem p_none : PO X none (tP B W pN) := po_none.imp fun σ H Q ⟨ρ, As, S, h⟩ => h H (Same.refl _)
theorem p_some (h : PE X e (tD B W E f)) : PO X (some e) (tP B W (pI f)) := (po_some h).imp fun σ H Q ⟨ρ, As, S, q⟩ => tD_bind S q fun d v H1 s1 S1 r1 q1 => by
  cases d with
  | int i => cases r1; exact ⟨i, rfl, q1 H1 s1⟩
  | _ => exact q1.elim
theorem tP_bind {β : Type} {σ : L2.St} {H : Hp} {ρ : En} {As : Ow} {f : En → R (Option Int)} {k : Option Int → R β} {KO : β → Prop} {T : Option Int → Hp → Prop} (S : Sta B σ H ρ As) (h : ((f ρ).bind k).go KO (Exk B W σ H))
    (hk : ∀ d H1, Same H H1 → Sta B σ H1 ρ As → (k d).go KO (Exk B W σ H1) → T d H1) : tP B W f σ H T := by
  refine ⟨ρ, As, S, ?_⟩
  cases e : f ρ with
  | ok d =>
    rw [e] at h
    intro H1 s
    refine hk d H1 s (S.same s) ?_
    revert h
    rw [R.bind_ok]
    cases k d with
    | ok b => exact fun z => z
    | ex c fs => exact fun z => Exk.same z s
    | st => exact fun z => z
  | ex c fs => rw [e] at h; exact h
  | st => rw [e] at h; exact h
def sliceV : D → Option Int → Option Int → Option D
  | .lst xs, lo, hi => some (.lst (cutN xs lo hi))
  | .str s, lo, hi => if okSz s.length then some (.str (cutN s lo hi)) else none
  | _, _, _ => none
@[simp] theorem sliceV_lst (xs : List D) (lo hi : Option Int) : sliceV (.lst xs) lo hi = some (.lst (cutN xs lo hi)) := rfl
@[simp] theorem sliceV_str (s : List Nat) (lo hi : Option Int) : sliceV (.str s) lo hi = if okSz s.length then some (.str (cutN s lo hi)) else none := rfl
def sliceE (f : En → R D) (lo hi : En → R (Option Int)) : En → R D := fun ρ => (f ρ).bind fun d => (lo ρ).bind fun l => (hi ρ).bind fun h => .ofO (sliceV d l h)
def sliceF (f : En → R D) (lo hi : En → R (Option Int)) : En → R OD := fun ρ => (f ρ).bind fun d => (lo ρ).bind fun l => (hi ρ).bind fun h => match d with
  | .lst xs => .ok (lstF (cutN xs l h))
  | _ => .st
theorem f_sl {lo hi : Option Expr} {fl fh : En → R (Option Int)} {p2 : Pos} (hK : B.P.K = X.K) (h1 : PE X e (tD B W E f)) (hl : PO X lo (tP B W fl)) (hh : PO X hi (tP B W fh)) : PE X (.Subscript e (.Slice lo hi none p2) pos) (tF B W E (sliceF f fl fh)) :=
  (pe_slice sl_list h1 hl hh).imp fun σ H Q ⟨ρ, As, S, q⟩ => by
    refine tD_bind S q fun d v H1 s1 S1 r1 q1 => ?_
    refine tP_bind S1 q1 fun l H2 s2 S2 q2 => ?_
    refine tP_bind S2 q2 fun u H3 s3 S3 q3 => ?_
    cases d with
    | lst xs =>
      obtain ⟨a, vs, rfl, ha, ra⟩ := r1.lstE
      have s23 := s2.trans s3
      refine ⟨a, vs, rfl, .inl (Rd.same s23 (rd_cut ha)), fun p hp => ?_⟩
      refine new_lst S3.hth hp (RepL.cutN (ra.up (cut_mono s23 fun _ z => z)) l u) fun v A H' s nA fA ro => ?_
      exact q3 v A H' (s1.trans (s23.trans s)) nA (fun a ha => (s1.trans s23).free (fA a ha)) ro
    | _ => exact q3.elim
theorem d_sl {lo hi : Option Expr} {fl fh : En → R (Option Int)} {p2 : Pos} (hK : B.P.K = X.K) (h1 : PE X e (tD B W E f)) (hl : PO X lo (tP B W fl)) (hh : PO X hi (tP B W fh)) : PE X (.Subscript e (.Slice lo hi none p2) pos) (tD B W E (sliceE f fl fh)) :=
  (pe_slice (sl_list.or sl_str) h1 hl hh).imp fun σ H Q ⟨ρ, As, S, q⟩ => by
    refine tD_bind S q fun d v H1 s1 S1 r1 q1 => ?_
    refine tP_bind S1 q1 fun l H2 s2 S2 q2 => ?_
    refine tP_bind S2 q2 fun u H3 s3 S3 q3 => ?_
    have s23 := s2.trans s3
    cases d with
    | lst xs =>
      obtain ⟨a, vs, rfl, ha, ra⟩ := r1.lstE
      refine .inl ⟨a, vs, rfl, .inl (Rd.same s23 (rd_cut ha)), fun p hp => ?_⟩
      refine new_lst S3.hth hp (RepL.cutN (ra.up (cut_mono s23 fun _ z => z)) l u) fun v A H' s nA fA ro => ?_
      exact q3 v H' (s1.trans (s23.trans s)) (by have := er_new S3.hth fA ro; rwa [lstF_er] at this)
    | str z =>
      obtain ⟨z, rfl, hz⟩ := r1.tick
      rw [sliceV_str] at q3
      split at q3
      · rename_i hk
        exact .inr ⟨z, rfl, by rw [slen hz]; exact okSz_le hk, q3 _ H3 (s1.trans s23) (rep_of (cutS_list hz l u))⟩
      · exact q3.elim
    | _ => exact q3.elim

/-! ### displays -/
def lstE (fa : En → R (List D)) : En → R OD := fun ρ => (fa ρ).bind fun ds => if okSz ds.length then .ok (lstF ds) else .st
def tupE (fa : En → R (List D)) : En → R D := fun ρ => (fa ρ).bind fun ds => if okSz ds.length then .ok (.tup ds) else .st
theorem f_lst (h : PA X es (tA B W E fa)) : PE X (.List es pos) (tF B W E (lstE fa)) := (pe_lst h).imp fun σ H Q ⟨ρ, As, S, q⟩ => tA_bind S q fun ds vs H1 s1 S1 r1 q1 => by

  split at q1
  · rename_i hk
    refine ⟨by rw [r1.len]; exact okSz_le hk, fun p hp => new_lst S1.hth hp r1 fun v A H' s nA fA ro => ?_⟩
    exact q1 v A H' (s1.trans s) nA (fun a ha => s1.free (fA a ha)) ro
  · exact q1.elim
theorem d_tup {x1 : Nat} (h : PA X es (tA B W E fa)) : PE X (.Tuple es x1 pos) (tD B W E (tupE fa)) := (pe_tup h).imp fun σ H Q ⟨ρ, As, S, q⟩ => tA_bind S q fun ds vs H1 s1 S1 r1 q1 => by

  split at q1
  · rename_i hk
    exact ⟨by rw [r1.len]; exact okSz_le hk, fun p hp => new_tup S1.hth hp r1 fun v H' s ro => q1 v H' (s1.trans s) ro⟩
  · exact q1.elim
end
end DL
set_option Elab.async false
set_option linter.all false
set_option maxRecDepth 100000
namespace DL
open PySem PySem.Spec PyProof.Rows L2

/-! ## in, is -/
theorem pyL_any (d : D) : ∀ ys : List D, (D.pyL ys).any (fun z => PyData.eqv z d.py) = ys.any fun y => D.eqv y d
  | [] => by rw [D.pyL]; rfl
  | y :: ys => by rw [D.pyL, List.any_cons, List.any_cons, pyL_any d ys]; rfl
def dIn : D → D → Option D
  | x, .lst ys => if x.dt 20 && ys.all (D.dt 20) then some (.bl (ys.any fun y => D.eqv y x)) else none
  | x, .tup ys => if x.dt 20 && ys.all (D.dt 20) then some (.bl (ys.any fun y => D.eqv y x)) else none
  | .str [c], .str s => some (.bl (decide (c ∈ s)))
  | _, _ => none
def dNotIn (x y : D) : Option D := (dIn x y).bind fun d => match d with
  | .bl b => some (.bl (!b))
  | _ => none
@[simp] theorem dIn_lst (x : D) (ys : List D) : dIn x (.lst ys) = if x.dt 20 && ys.all (D.dt 20) then some (.bl (ys.any fun y => D.eqv y x)) else none := by cases x <;> rfl
@[simp] theorem dIn_tup (x : D) (ys : List D) : dIn x (.tup ys) = if x.dt 20 && ys.all (D.dt 20) then some (.bl (ys.any fun y => D.eqv y x)) else none := by cases x <;> rfl
@[simp] theorem dIn_str (c : Nat) (s : List Nat) : dIn (.str [c]) (.str s) = some (.bl (decide (c ∈ s))) := rfl
theorem dIn_bl {x y d : D} (h : dIn x y = some d) : ∃ b, d = .bl b := by
  unfold dIn at h
  split at h
  · split at h
    · cases h; exact ⟨_, rfl⟩
    · cases h
  · split at h
    · cases h; exact ⟨_, rfl⟩
    · cases h
  · cases h; exact ⟨_, rfl⟩
  · cases h
theorem fl_in : Flat2 dIn := fun a b d e => by
  obtain ⟨c, rfl⟩ := dIn_bl e
  rfl
theorem fl_notIn : Flat2 dNotIn := fun a b d e => by
  unfold dNotIn at e
  cases e1 : dIn a b with
  | none => rw [e1] at e; cases e
  | some z =>
    obtain ⟨c, rfl⟩ := dIn_bl e1
    rw [e1] at e
    cases e; rfl
theorem str_one {z : Str} {c : Nat} (h : z.cps.toList = [c]) : z = ⟨#[c]⟩ := by
  obtain ⟨a⟩ := z
  have : a = #[c] := by rw [← Array.toArray_toList (xs := a), show a.toList = [c] from h]
  rw [this]
def rInA (P : Wd) (neg : Bool) : R2 := fun x y H Q => ∃ p d e b, Rep P (cut H p) x d ∧ Rep P (cut H p) y e ∧ dIn d e = some (.bl b) ∧ Q (.bl (if neg then !b else b)) H
section
variable {X : Cx} {P : Wd}
theorem op_inA (hK : P.K = X.K) (hu : X.A.units + 64 < cLine) : OpR X (compareOp .In) (rInA P false) := by
  intro pins s σ H x y v u Q I rx ry h
  obtain ⟨p, d, e, b, hd, he, hb, q⟩ := h
  unfold dIn at hb
  split at hb
  · rename_i ys
    split at hb
    · rename_i hk
      obtain ⟨k1, k2⟩ := Bool.and_eq_true_iff.mp hk
      obtain ⟨d1, d2, d3⟩ := D.dp 20 d x k1 hd
      obtain ⟨e1, e2, e3⟩ := D.dp 21 (.lst ys) y (by rw [D.dt_lst]; exact k2) he
      rw [D.py] at e1 e2
      rw [hK] at d1 e1
      obtain ⟨as, r1⟩ := Dp.reads I _ x v d1 rx
      obtain ⟨bs, r2⟩ := Dp.reads I _ y u e1 ry
      refine SeqAt.in_list_data r2 r1 (by rw [PyData.plain] at e2; exact e2) d2 ?_ ?_
      · have : min (PyData.depthAll (D.pyL ys)) d.py.depth ≤ 20 := Nat.le_trans (Nat.min_le_right _ _) d3
        omega
      · rw [pyL_any]
        cases hb
        exact ⟨.bl _, H, I, rfl, q⟩
    · cases hb
  · rename_i ys
    split at hb
    · rename_i hk
      obtain ⟨k1, k2⟩ := Bool.and_eq_true_iff.mp hk
      obtain ⟨d1, d2, d3⟩ := D.dp 20 d x k1 hd
      obtain ⟨e1, e2, e3⟩ := D.dp 21 (.tup ys) y (by rw [D.dt_tup]; exact k2) he
      rw [D.py] at e1 e2
      rw [hK] at d1 e1
      obtain ⟨as, r1⟩ := Dp.reads I _ x v d1 rx
      obtain ⟨bs, r2⟩ := Dp.reads I _ y u e1 ry
      refine SeqAt.in_tuple_data r2 r1 (by rw [PyData.plain] at e2; exact e2) d2 ?_ ?_
      · have : min (PyData.depthAll (D.pyL ys)) d.py.depth ≤ 20 := Nat.le_trans (Nat.min_le_right _ _) d3
        omega
      · rw [pyL_any]
        cases hb
        exact ⟨.bl _, H, I, rfl, q⟩
    · cases hb
  · obtain ⟨z, rfl, hz⟩ := hd.tick
    obtain ⟨w, rfl, hw⟩ := he.tick
    cases hb
    refine op_in_sign pins s σ H _ _ v u Q I rx ry ⟨_, w, ?_, rfl, by rw [hw]; exact q⟩
    rw [str_one hz]
  · cases hb
theorem op_notInA (hK : P.K = X.K) (hu : X.A.units + 64 < cLine) : OpR X (compareOp .NotIn) (rInA P true) := by
  intro pins s σ H x y v u Q I rx ry h
  obtain ⟨p, d, e, b, hd, he, hb, q⟩ := h
  unfold dIn at hb
  split at hb
  · rename_i ys
    split at hb
    · rename_i hk
      obtain ⟨k1, k2⟩ := Bool.and_eq_true_iff.mp hk
      obtain ⟨d1, d2, d3⟩ := D.dp 20 d x k1 hd
      obtain ⟨e1, e2, e3⟩ := D.dp 21 (.lst ys) y (by rw [D.dt_lst]; exact k2) he
      rw [D.py] at e1 e2
      rw [hK] at d1 e1
      obtain ⟨as, r1⟩ := Dp.reads I _ x v d1 rx
      obtain ⟨bs, r2⟩ := Dp.reads I _ y u e1 ry
      refine SeqAt.notIn_list_data r2 r1 (by rw [PyData.plain] at e2; exact e2) d2 ?_ ?_
      · have : min (PyData.depthAll (D.pyL ys)) d.py.depth ≤ 20 := Nat.le_trans (Nat.min_le_right _ _) d3
        omega
      · rw [pyL_any]
        cases hb
        exact ⟨.bl _, H, I, rfl, q⟩
    · cases hb
  · rename_i ys
    split at hb
    · rename_i hk
      obtain ⟨k1, k2⟩ := Bool.and_eq_true_iff.mp hk
      obtain ⟨d1, d2, d3⟩ := D.dp 20 d x k1 hd
      obtain ⟨e1, e2, e3⟩ := D.dp 21 (.tup ys) y (by rw [D.dt_tup]; exact k2) he
      rw [D.py] at e1 e2
      rw [hK] at d1 e1
      obtain ⟨as, r1⟩ := Dp.reads I _ x v d1 rx
      obtain ⟨bs, r2⟩ := Dp.reads I _ y u e1 ry
      refine SeqAt.notIn_tuple_data r2 r1 (by rw [PyData.plain] at e2; exact e2) d2 ?_ ?_
      · have : min (PyData.depthAll (D.pyL ys)) d.py.depth ≤ 20 := Nat.le_trans (Nat.min_le_right _ _) d3
        omega
      · rw [pyL_any]
        cases hb
        exact ⟨.bl _, H, I, rfl, q⟩
    · cases hb
  · obtain ⟨z, rfl, hz⟩ := hd.tick
    obtain ⟨w, rfl, hw⟩ := he.tick
    cases hb
    refine op_notIn_sign pins s σ H _ _ v u Q I rx ry ⟨_, w, ?_, rfl, by rw [hw]; exact q⟩
    rw [str_one hz]
  · cases hb
theorem ad_in : Ad2 P (rInA P false) dIn := fun p H x y a b d Q hp r1 r2 e q => by
  obtain ⟨c, rfl⟩ := dIn_bl e
  exact ⟨p, a, b, c, r1, r2, e, q _ _ (Same.refl _) (.bl _)⟩
theorem ad_notIn : Ad2 P (rInA P true) dNotIn := fun p H x y a b d Q hp r1 r2 e q => by
  unfold dNotIn at e
  cases e1 : dIn a b with
  | none => rw [e1] at e; cases e
  | some z =>
    obtain ⟨c, rfl⟩ := dIn_bl e1
    rw [e1] at e
    cases e
    exact ⟨p, a, b, c, r1, r2, e1, q _ _ (Same.refl _) (.bl _)⟩
end
/-- is, of None and of bools -/
def dIs (x y : D) : Option D := match x, y with
  | .bl a, .bl b => some (.bl (decide (a = b)))
  | .non, .bl _ => none
  | x, y => dIsN x y
def dIsNot (x y : D) : Option D := match x, y with
  | .bl a, .bl b => some (.bl (!decide (a = b)))
  | .non, .bl _ => none
  | x, y => dNotN x y
@[simp] theorem dIs_bl (a b : Bool) : dIs (.bl a) (.bl b) = some (.bl (decide (a = b))) := rfl
@[simp] theorem dIs_non (x : D) : dIs x .non = dIsN x .non := by cases x <;> rfl
@[simp] theorem dIsNot_bl (a b : Bool) : dIsNot (.bl a) (.bl b) = some (.bl (!decide (a = b))) := rfl
@[simp] theorem dIsNot_non (x : D) : dIsNot x .non = dNotN x .non := by cases x <;> rfl
theorem fl_is : Flat2 dIs := fun a b d e => by
  unfold dIs at e
  split at e
  · cases e; rfl
  · cases e
  · exact fl_isN _ _ _ e
theorem fl_isNot : Flat2 dIsNot := fun a b d e => by
  unfold dIsNot at e
  split at e
  · cases e; rfl
  · cases e
  · exact fl_notN _ _ _ e
theorem ad_is {P : Wd} : Ad2 P (fun x y H Q => (∃ a b, x = .bl a ∧ y = .bl b ∧ Q (.bl (decide (a = b))) H) ∨ (y = .non ∧ Q (.bl (decide (x = .non))) H)) dIs := fun p H x y a b d Q hp r1 r2 e q => by
  unfold dIs at e
  split at e
  · cases e; cases r1; cases r2; exact .inl ⟨_, _, rfl, rfl, q _ _ (Same.refl _) (.bl _)⟩
  · cases e
  · exact .inr (ad_isN p H x y _ _ d Q hp r1 r2 e q)
theorem ad_isNot {P : Wd} : Ad2 P (fun x y H Q => (∃ a b : Bool, x = .bl a ∧ y = .bl b ∧ Q (.bl (!decide (a = b))) H) ∨ (y = .non ∧ Q (.bl (!decide (x = .non))) H)) dIsNot := fun p H x y a b d Q hp r1 r2 e q => by
  unfold dIsNot at e
  split at e
  · cases e; cases r1; cases r2; exact .inl ⟨_, _, rfl, rfl, q _ _ (Same.refl _) (.bl _)⟩
  · cases e
  · exact .inr (ad_notN p H x y _ _ d Q hp r1 r2 e q)
section
variable {X : Cx} {B : Bs} {W : WX} {E1 E2 : List Nat} {f1 f2 : En → R D} {e1 e2 : Expr} {pos : Pos}
theorem d_eq (hK : B.P.K = X.K) (hu : X.A.units + 64 < cLine) (h1 : PE X e1 (tD B W E1 f1)) (h2 : PE X e2 (tD B W E2 f2)) : PE X (.Compare e1 [.Eq] [e2] pos) (tD B W [] (op2 dEq f1 f2)) := d_cmp (op_eqP hK hu) ad_eq fl_eq h1 h2 (nomark _)
theorem d_ne (hK : B.P.K = X.K) (hu : X.A.units + 64 < cLine) (h1 : PE X e1 (tD B W E1 f1)) (h2 : PE X e2 (tD B W E2 f2)) : PE X (.Compare e1 [.NotEq] [e2] pos) (tD B W [] (op2 dNe f1 f2)) := d_cmp (op_neP hK hu) ad_ne fl_ne h1 h2 (nomark _)
theorem d_lt (h1 : PE X e1 (tD B W E1 f1)) (h2 : PE X e2 (tD B W E2 f2)) : PE X (.Compare e1 [.Lt] [e2] pos) (tD B W [] (op2 dLt f1 f2)) := d_cmp op_ltA ad_cmp fl_cmp h1 h2 (nomark _)
theorem d_le (h1 : PE X e1 (tD B W E1 f1)) (h2 : PE X e2 (tD B W E2 f2)) : PE X (.Compare e1 [.LtE] [e2] pos) (tD B W [] (op2 dLe f1 f2)) := d_cmp op_leA ad_cmp fl_cmp h1 h2 (nomark _)
theorem d_gt (h1 : PE X e1 (tD B W E1 f1)) (h2 : PE X e2 (tD B W E2 f2)) : PE X (.Compare e1 [.Gt] [e2] pos) (tD B W [] (op2 dGt f1 f2)) := d_cmp op_gtA ad_cmp fl_cmp h1 h2 (nomark _)
theorem d_ge (h1 : PE X e1 (tD B W E1 f1)) (h2 : PE X e2 (tD B W E2 f2)) : PE X (.Compare e1 [.GtE] [e2] pos) (tD B W [] (op2 dGe f1 f2)) := d_cmp op_geA ad_cmp fl_cmp h1 h2 (nomark _)
theorem d_is (h1 : PE X e1 (tD B W E1 f1)) (h2 : PE X e2 (tD B W E2 f2)) : PE X (.Compare e1 [.Is] [e2] pos) (tD B W [] (op2 dIs f1 f2)) := d_cmp (op_isBl.or op_isN) ad_is fl_is h1 h2 (nomark _)
theorem d_isNot (h1 : PE X e1 (tD B W E1 f1)) (h2 : PE X e2 (tD B W E2 f2)) : PE X (.Compare e1 [.IsNot] [e2] pos) (tD B W [] (op2 dIsNot f1 f2)) := d_cmp (op_notBl.or op_notN) ad_isNot fl_isNot h1 h2 (nomark _)
theorem d_in (hK : B.P.K = X.K) (hu : X.A.units + 64 < cLine) (h1 : PE X e1 (tD B W E1 f1)) (h2 : PE X e2 (tD B W E2 f2)) (hm : behindInMarks .In e2 = false := by rfl) : PE X (.Compare e1 [.In] [e2] pos) (tD B W [] (op2 dIn f1 f2)) := d_cmp (op_inA hK hu) ad_in fl_in h1 h2 hm
theorem d_notIn (hK : B.P.K = X.K) (hu : X.A.units + 64 < cLine) (h1 : PE X e1 (tD B W E1 f1)) (h2 : PE X e2 (tD B W E2 f2)) (hm : behindInMarks .NotIn e2 = false := by rfl) : PE X (.Compare e1 [.NotIn] [e2] pos) (tD B W [] (op2 dNotIn f1 f2)) := d_cmp (op_notInA hK hu) ad_notIn fl_notIn h1 h2 hm
theorem t_of (h : PE X e1 (tD B W E1 f1)) (he : ∀ whole, isTrue e1 X.env whole = (do let v ← whole; standAt e1.pos; holding [v] (truthy v)) := by intro _; rfl) : PT X e1 (tT B W (tst f1)) := d_tval h he
end
end DL
set_option Elab.async false
set_option linter.all false
set_option maxRecDepth 100000
namespace DL
open PySem PySem.Spec PyProof.Rows L2

/-! ## what is called: built-in functions and types -/
section
variable {X : Cx} {B : Bs} {W : WX} {E E1 E2 : List Nat} {f f1 f2 : En → R D} {fa : En → R (List D)} {e e1 e2 e3 : Expr} {es : List Expr} {pos p : Pos} {x : Str} {id T : String}
theorem imp_opA0 {r : List V → Hp → VK → Prop} {g : List D → Option D} (hg : AdA B.P r g) (hf : FlatA g) {σ : L2.St} {H : Hp} {Q : VK} (h : tD B W [] (opA g fa) σ H Q) : tA B W E fa σ H (fun x H1 => r x H1 Q) := by
  refine imp_opA hg (tD_flat (fun ρ d e => ?_) h)
  unfold opA at e
  cases e1 : fa ρ with
  | ok a =>
    rw [e1, R.bind_ok] at e
    cases e2 : g a with
    | none => rw [e2] at e; cases e
    | some z => rw [e2] at e; cases e; exact hf a _ e2
  | ex c fs => rw [e1] at e; cases e
  | st => rw [e1] at e; cases e
theorem d_callB {r : List V → Hp → VK → Prop} {g : List D → Option D} (hc : CallR X (.builtin id) r) (hg : AdA B.P r g) (hf : FlatA g) (gl : Gl X x) (hm : X.mg x = none) (hv : bootBuiltins x = some (.builtin id)) (ha : PA X (e :: es) (tA B W E fa)) (hn : x ≠ "__name__" := by decide) (hdb : (x == ("__debug__" : Str)) = false := by decide)
    (he : starEach (e :: es) X.env = (false, eval e X.env) :: starEach es X.env := by rfl) (hpl : (backTo pos (starEach es X.env)).any (·.1) = false := by rfl) : PE X (.Call (.Name x p) (e :: es) [] pos) (tD B W [] (opA g fa)) :=
  (pe_callB hc gl hm hv ha hn hdb he hpl).imp fun _ _ _ => imp_opA0 hg hf
theorem d_callT {r : List V → Hp → VK → Prop} {g : List D → Option D} (hc : CallR X (.type T) r) (hg : AdA B.P r g) (hf : FlatA g) (gl : Gl X x) (hm : X.mg x = none) (hv : bootBuiltins x = some (.type T)) (ha : PA X (e :: es) (tA B W E fa)) (hn : x ≠ "__name__" := by decide) (hdb : (x == ("__debug__" : Str)) = false := by decide)
    (he : starEach (e :: es) X.env = (false, eval e X.env) :: starEach es X.env := by rfl) (hpl : (backTo pos (starEach es X.env)).any (·.1) = false := by rfl) : PE X (.Call (.Name x p) (e :: es) [] pos) (tD B W [] (opA g fa)) :=
  (pe_callTy hc gl hm hv ha hn hdb he hpl).imp fun _ _ _ => imp_opA0 hg hf
theorem d_callTD {r : List V → Hp → VK → Prop} {g : List D → Option D} (hc : CallR X (.type T) r) (hg : AdA B.P r g) (gl : Gl X x) (hm : X.mg x = none) (hv : bootBuiltins x = some (.type T)) (ha : PA X (e :: es) (tA B W E fa)) (hn : x ≠ "__name__" := by decide) (hdb : (x == ("__debug__" : Str)) = false := by decide)
    (he : starEach (e :: es) X.env = (false, eval e X.env) :: starEach es X.env := by rfl) (hpl : (backTo pos (starEach es X.env)).any (·.1) = false := by rfl) : PE X (.Call (.Name x p) (e :: es) [] pos) (tD B W E (opA g fa)) :=
  (pe_callTy hc gl hm hv ha hn hdb he hpl).imp fun _ _ _ => imp_opA hg
theorem f_callT {r : List V → Hp → VK → Prop} {g : List D → Option OD} (hc : CallR X (.type T) r) (hg : AdFA B.P r g) (gl : Gl X x) (hm : X.mg x = none) (hv : bootBuiltins x = some (.type T)) (ha : PA X (e :: es) (tA B W E fa)) (hn : x ≠ "__name__" := by decide) (hdb : (x == ("__debug__" : Str)) = false := by decide)
    (he : starEach (e :: es) X.env = (false, eval e X.env) :: starEach es X.env := by rfl) (hpl : (backTo pos (starEach es X.env)).any (·.1) = false := by rfl) : PE X (.Call (.Name x p) (e :: es) [] pos) (tF B W E (opAF g fa)) :=
  (pe_callTy hc gl hm hv ha hn hdb he hpl).imp fun _ _ _ => imp_oAF hg
theorem f_callB {r : List V → Hp → VK → Prop} {g : List D → Option OD} (hc : CallR X (.builtin id) r) (hg : AdFA B.P r g) (gl : Gl X x) (hm : X.mg x = none) (hv : bootBuiltins x = some (.builtin id)) (ha : PA X (e :: es) (tA B W E fa)) (hn : x ≠ "__name__" := by decide) (hdb : (x == ("__debug__" : Str)) = false := by decide)
    (he : starEach (e :: es) X.env = (false, eval e X.env) :: starEach es X.env := by rfl) (hpl : (backTo pos (starEach es X.env)).any (·.1) = false := by rfl) : PE X (.Call (.Name x p) (e :: es) [] pos) (tF B W E (opAF g fa)) :=
  (pe_callB hc gl hm hv ha hn hdb he hpl).imp fun _ _ _ => imp_oAF hg
theorem RepL.oneE {P : Wd} {G : Hp} {vs : List V} {d : D} (h : RepL P G vs [d]) : ∃ v, vs = [v] ∧ Rep P G v d := by
  cases h with
  | cons h1 h2 => cases h2; exact ⟨_, rfl, h1⟩
theorem RepL.twoE {P : Wd} {G : Hp} {vs : List V} {d d' : D} (h : RepL P G vs [d, d']) : ∃ v w, vs = [v, w] ∧ Rep P G v d ∧ Rep P G w d' := by
  cases h with
  | cons h1 h2 =>
    obtain ⟨w, rfl, h3⟩ := h2.oneE
    exact ⟨_, w, rfl, h1, h3⟩
/-! ### len, abs, int, list, tuple -/
def dLen : List D → Option D
  | [.scr ns] => some (.int ns.length)
  | [.str s] => if okSz s.length then some (.int s.length) else none
  | [.lst s] => some (.int s.length)
  | [.tup s] => some (.int s.length)
  | _ => none
@[simp] theorem dLen_scr (s : List Int) : dLen [.scr s] = some (.int s.length) := rfl
@[simp] theorem dLen_str (s : List Nat) : dLen [.str s] = if okSz s.length then some (.int s.length) else none := rfl
@[simp] theorem dLen_lst (s : List D) : dLen [.lst s] = some (.int s.length) := rfl
@[simp] theorem dLen_tup (s : List D) : dLen [.tup s] = some (.int s.length) := rfl
theorem fl_len : FlatA dLen := fun a d e => by
  unfold dLen at e
  split at e
  · cases e; rfl
  · split at e
    · cases e; rfl
    · cases e
  · cases e; rfl
  · cases e; rfl
  · cases e
theorem ad_len {P : Wd} : AdA P (fun xs H Q => ∃ x n, xs = [x] ∧ LenV P.K x H n ∧ Q (.int n) H) dLen := fun p H vs a d Q hp r e q => by
  unfold dLen at e
  split at e
  · obtain ⟨v, rfl, rv⟩ := r.oneE
    cases rv with
    | @scr l _ h =>
    cases e
    exact ⟨_, _, rfl, .inl ⟨_, Same.seq cut_same h, rfl⟩, by rw [List.length_map]; exact q _ _ (Same.refl _) (.int _)⟩
  · obtain ⟨v, rfl, rv⟩ := r.oneE
    obtain ⟨z, rfl, hz⟩ := rv.tick
    split at e
    · rename_i hk
      cases e
      exact ⟨_, _, rfl, ⟨by rw [slen hz]; exact okSz_le hk, rfl⟩, by rw [slen hz]; exact q _ _ (Same.refl _) (.int _)⟩
    · cases e
  · obtain ⟨v, rfl, rv⟩ := r.oneE
    obtain ⟨l, ws, rfl, hl, rl⟩ := rv.lstE
    cases e
    exact ⟨_, _, rfl, .inl ⟨ws, .inl (rd_cut hl), rfl⟩, by rw [rl.len]; exact q _ _ (Same.refl _) (.int _)⟩
  · obtain ⟨v, rfl, rv⟩ := r.oneE
    obtain ⟨l, ws, rfl, hl, rl⟩ := rv.tupE
    cases e
    exact ⟨_, _, rfl, .inr ⟨ws, sqT_cut hl, rfl⟩, by rw [rl.len]; exact q _ _ (Same.refl _) (.int _)⟩
  · cases e
theorem d_len (hK : B.P.K = X.K) (gl : Gl X "len") (hm : X.mg "len" = none) (ha : PA X [e] (tA B W E fa)) (he : starEach [e] X.env = (false, eval e X.env) :: starEach [] X.env := by rfl) : PE X (.Call (.Name "len" p) [e] [] pos) (tD B W [] (opA dLen fa)) :=
  d_callB (r := fun xs H Q => ∃ x n, xs = [x] ∧ LenV B.P.K x H n ∧ Q (.int n) H) (by rw [hK]; exact call_len) ad_len fl_len gl hm (by rfl) ha (by decide) (by decide) he
def dAbs : List D → Option D
  | [.int i] => some (.int (if i < 0 then -i else i))
  | _ => none
theorem fl_abs : FlatA dAbs := fun a d e => by
  unfold dAbs at e; split at e
  · cases e; rfl
  · cases e
theorem ad_abs {P : Wd} : AdA P (fun xs H Q => ∃ i, xs = [.int i] ∧ Q (.int (if i < 0 then -i else i)) H) dAbs := fun p H vs a d Q hp r e q => by
  unfold dAbs at e
  split at e
  · obtain ⟨v, rfl, rv⟩ := r.oneE
    cases rv; cases e
    exact ⟨_, rfl, q _ _ (Same.refl _) (.int _)⟩
  · cases e
theorem d_abs (gl : Gl X "abs") (hm : X.mg "abs" = none) (ha : PA X [e] (tA B W E fa)) (he : starEach [e] X.env = (false, eval e X.env) :: starEach [] X.env := by rfl) : PE X (.Call (.Name "abs" p) [e] [] pos) (tD B W [] (opA dAbs fa)) :=
  d_callB call_abs ad_abs fl_abs gl hm (by rfl) ha (by decide) (by decide) he
def dInt : List D → Option D
  | [.int i] => some (.int i)
  | [.bl b] => some (.int (if b then 1 else 0))
  | _ => none
theorem fl_int : FlatA dInt := fun a d e => by
  unfold dInt at e; split at e
  · cases e; rfl
  · cases e; rfl
  · cases e
theorem ad_int {P : Wd} : AdA P (fun xs H Q => (∃ i, xs = [.int i] ∧ Q (.int i) H) ∨ ∃ k, xs = [.bl k] ∧ Q (.int (if k then 1 else 0)) H) dInt := fun p H vs a d Q hp r e q => by
  unfold dInt at e
  split at e
  · obtain ⟨v, rfl, rv⟩ := r.oneE
    cases rv; cases e
    exact .inl ⟨_, rfl, q _ _ (Same.refl _) (.int _)⟩
  · obtain ⟨v, rfl, rv⟩ := r.oneE
    cases rv; cases e
    exact .inr ⟨_, rfl, q _ _ (Same.refl _) (.int _)⟩
  · cases e
theorem d_toInt (gl : Gl X "int") (hm : X.mg "int" = none) (ha : PA X [e] (tA B W E fa)) (he : starEach [e] X.env = (false, eval e X.env) :: starEach [] X.env := by rfl) : PE X (.Call (.Name "int" p) [e] [] pos) (tD B W [] (opA dInt fa)) :=
  d_callT call_int1 ad_int fl_int gl hm (by rfl) ha (by decide) (by decide) he
def fList : List D → Option OD
  | [.lst xs] => some (lstF xs)
  | [.tup xs] => some (lstF xs)
  | _ => none
theorem ad_listF {P : Wd} : AdFA P (fun xs H Q => ∃ p ys, xs = [.ref p] ∧ (SqL P.K H p ys ∨ SqT P.K H p ys) ∧ ∀ l, H l = none → Q (.ref l) (upd H l (.lst ys))) fList := fun p H vs a d Q hp r e q => by
  unfold fList at e
  split at e
  · obtain ⟨v, rfl, rv⟩ := r.oneE
    obtain ⟨l, ws, rfl, hl, rl⟩ := rv.lstE
    cases e
    exact ⟨l, ws, rfl, .inl (.inl (rd_cut hl)), fun p' hn => new_lst hp hn rl q⟩
  · obtain ⟨v, rfl, rv⟩ := r.oneE
    obtain ⟨l, ws, rfl, hl, rl⟩ := rv.tupE
    cases e
    exact ⟨l, ws, rfl, .inr (sqT_cut hl), fun p' hn => new_lst hp hn rl q⟩
  · cases e
theorem f_list (hK : B.P.K = X.K) (gl : Gl X "list") (hm : X.mg "list" = none) (ha : PA X [e] (tA B W E fa)) (he : starEach [e] X.env = (false, eval e X.env) :: starEach [] X.env := by rfl) : PE X (.Call (.Name "list" p) [e] [] pos) (tF B W E (opAF fList fa)) :=
  f_callT (by rw [hK]; exact call_list_of) ad_listF gl hm (by rfl) ha (by decide) (by decide) he
def dTuple : List D → Option D
  | [.lst xs] => some (.tup xs)
  | [.tup xs] => some (.tup xs)
  | _ => none
theorem ad_tuple {P : Wd} : AdA P (fun xs H Q => ∃ p ys, xs = [.ref p] ∧ ((SqL P.K H p ys ∧ ∀ l, H l = none → Q (.ref l) (upd H l (.tup ys))) ∨ (SqT P.K H p ys ∧ Q (.ref p) H))) dTuple := fun p H vs a d Q hp r e q => by
  unfold dTuple at e
  split at e
  · obtain ⟨v, rfl, rv⟩ := r.oneE
    obtain ⟨l, ws, rfl, hl, rl⟩ := rv.lstE
    cases e
    exact ⟨l, ws, rfl, .inl ⟨.inl (rd_cut hl), fun p' hn => new_tup hp hn rl q⟩⟩
  · obtain ⟨v, rfl, rv⟩ := r.oneE
    have rv' := rv
    obtain ⟨l, ws, rfl, hl, rl⟩ := rv.tupE
    cases e
    exact ⟨l, ws, rfl, .inr ⟨sqT_cut hl, q _ _ (Same.refl _) rv'⟩⟩
  · cases e
theorem d_tuple (hK : B.P.K = X.K) (gl : Gl X "tuple") (hm : X.mg "tuple" = none) (ha : PA X [e] (tA B W E fa)) (he : starEach [e] X.env = (false, eval e X.env) :: starEach [] X.env := by rfl) : PE X (.Call (.Name "tuple" p) [e] [] pos) (tD B W E (opA dTuple fa)) :=
  d_callTD (by rw [hK]; exact call_tuple_of) ad_tuple gl hm (by rfl) ha (by decide) (by decide) he
/-! ### lists of ints -/
def intsOf : List D → Option (List Int)
  | [] => some []
  | .int i :: ds => (intsOf ds).map (i :: ·)
  | _ => none
theorem intsOf_eq : ∀ {ds : List D} {ns : List Int}, intsOf ds = some ns → ds = ns.map D.int
  | [], ns, h => by cases h; rfl
  | .int i :: ds, ns, h => by
    rw [intsOf] at h
    cases e : intsOf ds with
    | none => rw [e] at h; cases h
    | some ms => rw [e] at h; cases h; rw [intsOf_eq e]; rfl
  | .non :: ds, ns, h => by cases h
  | .bl _ :: ds, ns, h => by cases h
  | .str _ :: ds, ns, h => by cases h
  | .lst _ :: ds, ns, h => by cases h
  | .tup _ :: ds, ns, h => by cases h
  | .dic _ :: ds, ns, h => by cases h
  | .obj _ _ :: ds, ns, h => by cases h
  | .exn _ _ :: ds, ns, h => by cases h
  | .scr _ :: ds, ns, h => by cases h
@[simp] theorem intsOf_map : ∀ ns : List Int, intsOf (ns.map D.int) = some ns
  | [] => rfl
  | n :: ns => by rw [List.map_cons, intsOf, intsOf_map ns]; rfl
theorem RepL.ints {P : Wd} {G : Hp} : ∀ {ns : List Int} {vs : List V}, RepL P G vs (ns.map D.int) → vs = ns.map V.int
  | [], vs, h => by cases h; rfl
  | n :: ns, vs, h => by
    cases h with
    | cons h1 h2 => cases h1; rw [RepL.ints h2]; rfl
def maxI : List Int → Option Int
  | [] => none
  | n :: ns => some (ns.foldl max n)
def minI : List Int → Option Int
  | [] => none
  | n :: ns => some (ns.foldl min n)
theorem fold_max : ∀ (ns : List Int) (a : Int), (ns.foldl max a = a ∨ ns.foldl max a ∈ ns) ∧ a ≤ ns.foldl max a ∧ ∀ y ∈ ns, y ≤ ns.foldl max a
  | [], a => ⟨.inl rfl, Int.le_refl _, fun _ h => nomatch h⟩
  | n :: ns, a => by
    obtain ⟨h1, h2, h3⟩ := fold_max ns (max a n)
    rw [List.foldl_cons]
    refine ⟨?_, Int.le_trans (Int.le_max_left _ _) h2, fun y hy => ?_⟩
    · rcases h1 with h1 | h1
      · rw [h1]
        by_cases z : n ≤ a
        · exact .inl (Int.max_eq_left z)
        · exact .inr (by rw [Int.max_eq_right (by omega)]; exact List.mem_cons_self)
      · exact .inr (List.mem_cons_of_mem _ h1)
    · rcases List.mem_cons.mp hy with rfl | hy
      · exact Int.le_trans (Int.le_max_right _ _) h2
      · exact h3 y hy
theorem fold_min : ∀ (ns : List Int) (a : Int), (ns.foldl min a = a ∨ ns.foldl min a ∈ ns) ∧ ns.foldl min a ≤ a ∧ ∀ y ∈ ns, ns.foldl min a ≤ y
  | [], a => ⟨.inl rfl, Int.le_refl _, fun _ h => nomatch h⟩
  | n :: ns, a => by
    obtain ⟨h1, h2, h3⟩ := fold_min ns (min a n)
    rw [List.foldl_cons]
    refine ⟨?_, Int.le_trans h2 (Int.min_le_left _ _), fun y hy => ?_⟩
    · rcases h1 with h1 | h1
      · rw [h1]
        by_cases z : a ≤ n
        · exact .inl (Int.min_eq_left z)
        · exact .inr (by rw [Int.min_eq_right (by omega)]; exact List.mem_cons_self)
      · exact .inr (List.mem_cons_of_mem _ h1)
    · rcases List.mem_cons.mp hy with rfl | hy
      · exact Int.le_trans h2 (Int.min_le_right _ _)
      · exact h3 y hy
theorem maxI_is {ns : List Int} {m : Int} (h1 : m ∈ ns) (h2 : ∀ y ∈ ns, y ≤ m) : maxI ns = some m := by
  cases ns with
  | nil => cases h1
  | cons n ns =>
    obtain ⟨a, b, c⟩ := fold_max ns n
    refine congrArg some (Int.le_antisymm ?_ ?_)
    · rcases a with a | a
      · rw [a]; exact h2 _ List.mem_cons_self
      · exact h2 _ (List.mem_cons_of_mem _ a)
    · rcases List.mem_cons.mp h1 with rfl | h1
      · exact b
      · exact c _ h1
theorem minI_is {ns : List Int} {m : Int} (h1 : m ∈ ns) (h2 : ∀ y ∈ ns, m ≤ y) : minI ns = some m := by
  cases ns with
  | nil => cases h1
  | cons n ns =>
    obtain ⟨a, b, c⟩ := fold_min ns n
    refine congrArg some (Int.le_antisymm ?_ ?_)
    · rcases List.mem_cons.mp h1 with rfl | h1
      · exact b
      · exact c _ h1
    · rcases a with a | a
      · rw [a]; exact h2 _ List.mem_cons_self
      · exact h2 _ (List.mem_cons_of_mem _ a)
def onInts (g : List Int → Option Int) : List D → Option D
  | [.lst xs] => ((intsOf xs).bind g).map D.int
  | _ => none
@[simp] theorem onInts_lst (g : List Int → Option Int) (xs : List D) : onInts g [.lst xs] = ((intsOf xs).bind g).map D.int := rfl
theorem fl_onInts {g : List Int → Option Int} : FlatA (onInts g) := fun a d e => by
  unfold onInts at e
  split at e
  · cases e1 : (intsOf _).bind g with
    | none => rw [e1] at e; cases e
    | some z => rw [e1] at e; cases e; rfl
  · cases e
theorem onInts_inv {g : List Int → Option Int} {P : Wd} {p : Addr → Prop} {H : Hp} {vs : List V} {a : List D} {d : D} (r : RepL P (cut H p) vs a) (e : onInts g a = some d) : ∃ l ns i, vs = [.ref l] ∧ SqL P.K H l (ns.map V.int) ∧ g ns = some i ∧ d = .int i := by
  unfold onInts at e
  split at e
  · rename_i xs
    obtain ⟨v, rfl, rv⟩ := r.oneE
    obtain ⟨l, ws, rfl, hl, rl⟩ := rv.lstE
    cases e1 : intsOf xs with
    | none => rw [e1] at e; cases e
    | some ns =>
      rw [e1, Option.bind_some] at e
      rw [intsOf_eq e1] at rl
      have := rl.ints
      subst this
      cases e2 : g ns with
      | none => rw [e2] at e; cases e
      | some i => rw [e2] at e; cases e; exact ⟨l, ns, i, rfl, .inl (rd_cut hl), e2, rfl⟩
  · cases e
theorem ad_sum {P : Wd} : AdA P (rSum P.K) (onInts fun ns => some ns.sum) := fun p H vs a d Q hp r e q => by
  obtain ⟨l, ns, i, rfl, hl, e1, rfl⟩ := onInts_inv r e
  cases e1
  exact ⟨l, ns, rfl, hl, q _ _ (Same.refl _) (.int _)⟩
theorem ad_max {P : Wd} : AdA P (rMax P.K) (onInts maxI) := fun p H vs a d Q hp r e q => by
  obtain ⟨l, ns, i, rfl, hl, e1, rfl⟩ := onInts_inv r e
  refine ⟨l, ns, rfl, hl, by cases ns; cases e1; exact Nat.succ_pos _, fun m h1 h2 => ?_⟩
  rw [maxI_is h1 h2] at e1
  cases e1
  exact q _ _ (Same.refl _) (.int _)
theorem ad_min {P : Wd} : AdA P (rMin P.K) (onInts minI) := fun p H vs a d Q hp r e q => by
  obtain ⟨l, ns, i, rfl, hl, e1, rfl⟩ := onInts_inv r e
  refine ⟨l, ns, rfl, hl, by cases ns; cases e1; exact Nat.succ_pos _, fun m h1 h2 => ?_⟩
  rw [minI_is h1 h2] at e1
  cases e1
  exact q _ _ (Same.refl _) (.int _)
def dMax2 : List D → Option D
  | [.int i, .int j] => some (.int (max i j))
  | _ => none
def dMin2 : List D → Option D
  | [.int i, .int j] => some (.int (min i j))
  | _ => none
theorem ad_max2 {P : Wd} : AdA P (fun xs H Q => ∃ i j, xs = [.int i, .int j] ∧ Q (.int (if j > i then j else i)) H) dMax2 := fun p H vs a d Q hp r e q => by
  unfold dMax2 at e
  split at e
  · obtain ⟨v, w, rfl, rv, rw'⟩ := r.twoE
    cases rv; cases rw'; cases e
    refine ⟨_, _, rfl, ?_⟩
    rename_i i j
    have : (if j > i then j else i) = max i j := by rw [Int.max_def]; split <;> split <;> omega
    rw [this]
    exact q _ _ (Same.refl _) (.int _)
  · cases e
theorem ad_min2 {P : Wd} : AdA P (fun xs H Q => ∃ i j, xs = [.int i, .int j] ∧ Q (.int (if j < i then j else i)) H) dMin2 := fun p H vs a d Q hp r e q => by
  unfold dMin2 at e
  split at e
  · obtain ⟨v, w, rfl, rv, rw'⟩ := r.twoE
    cases rv; cases rw'; cases e
    refine ⟨_, _, rfl, ?_⟩
    rename_i i j
    have : (if j < i then j else i) = min i j := by rw [Int.min_def]; split <;> split <;> omega
    rw [this]
    exact q _ _ (Same.refl _) (.int _)
  · cases e
theorem AdA.or {P : Wd} {r r' : List V → Hp → VK → Prop} {g g' : List D → Option D} (h : AdA P r g) (h' : AdA P r' g') : AdA P (fun x H Q => r x H Q ∨ r' x H Q) (fun a => (g a).or (g' a)) := fun p H x a d Q hp r1 e q => by
  have e : (g a).or (g' a) = some d := e
  cases e1 : g a with
  | some z => rw [e1] at e; exact .inl (h p H x a d Q hp r1 (e1.trans e) q)
  | none => rw [e1] at e; exact .inr (h' p H x a d Q hp r1 e q)
theorem FlatA.or {g g' : List D → Option D} (h : FlatA g) (h' : FlatA g') : FlatA (fun a => (g a).or (g' a)) := fun a d e => by
  have e : (g a).or (g' a) = some d := e
  cases e1 : g a with
  | some z => rw [e1] at e; cases e; exact h a _ e1
  | none => rw [e1] at e; exact h' a _ e
theorem _root_.L2.CallR.or' {c : Value} {r r' : List V → Hp → VK → Prop} (h : CallR X c r) (h' : CallR X c r') : CallR X c (fun xs H Q => r xs H Q ∨ r' xs H Q) := by
  intro pins s σ H xs us Q I rx q
  rcases q with q | q
  · exact h pins s σ H xs us Q I rx q
  · exact h' pins s σ H xs us Q I rx q
def dMax (a : List D) : Option D := (onInts maxI a).or (dMax2 a)
def dMin (a : List D) : Option D := (onInts minI a).or (dMin2 a)
@[simp] theorem dMax_lst (xs : List D) : dMax [.lst xs] = ((intsOf xs).bind maxI).map D.int := Option.or_none ..
@[simp] theorem dMin_lst (xs : List D) : dMin [.lst xs] = ((intsOf xs).bind minI).map D.int := Option.or_none ..
@[simp] theorem dMax_two (i j : Int) : dMax [.int i, .int j] = some (.int (max i j)) := rfl
@[simp] theorem dMin_two (i j : Int) : dMin [.int i, .int j] = some (.int (min i j)) := rfl
theorem fl_max : FlatA dMax := FlatA.or fl_onInts fun a d e => by
  unfold dMax2 at e; split at e
  · cases e; rfl
  · cases e
theorem fl_min : FlatA dMin := FlatA.or fl_onInts fun a d e => by
  unfold dMin2 at e; split at e
  · cases e; rfl
  · cases e
def dSum : List D → Option D := onInts fun ns => some ns.sum
theorem d_sum (hK : B.P.K = X.K) (hc : X.calm = true) (gl : Gl X "sum") (hm : X.mg "sum" = none) (ha : PA X [e] (tA B W E fa)) (he : starEach [e] X.env = (false, eval e X.env) :: starEach [] X.env := by rfl) : PE X (.Call (.Name "sum" p) [e] [] pos) (tD B W [] (opA dSum fa)) :=
  d_callB (by rw [hK]; exact cr_sum hc) ad_sum fl_onInts gl hm (by rfl) ha (by decide) (by decide) he
theorem d_max (hK : B.P.K = X.K) (hc : X.calm = true) (gl : Gl X "max") (hm : X.mg "max" = none) (ha : PA X (e :: es) (tA B W E fa)) (he : starEach (e :: es) X.env = (false, eval e X.env) :: starEach es X.env := by rfl) (hpl : (backTo pos (starEach es X.env)).any (·.1) = false := by rfl) : PE X (.Call (.Name "max" p) (e :: es) [] pos) (tD B W [] (opA dMax fa)) :=
  d_callB (by rw [hK]; exact (cr_max hc).or' (call_max2 hc)) (AdA.or ad_max ad_max2) fl_max gl hm (by rfl) ha (by decide) (by decide) he hpl
theorem d_min (hK : B.P.K = X.K) (hc : X.calm = true) (gl : Gl X "min") (hm : X.mg "min" = none) (ha : PA X (e :: es) (tA B W E fa)) (he : starEach (e :: es) X.env = (false, eval e X.env) :: starEach es X.env := by rfl) (hpl : (backTo pos (starEach es X.env)).any (·.1) = false := by rfl) : PE X (.Call (.Name "min" p) (e :: es) [] pos) (tD B W [] (opA dMin fa)) :=
  d_callB (by rw [hK]; exact (cr_min hc).or' (call_min2 hc)) (AdA.or ad_min ad_min2) fl_min gl hm (by rfl) ha (by decide) (by decide) he hpl
/-! ### ''.join -/
def strsOf : List D → Option (List (List Nat))
  | [] => some []
  | .str i :: ds => (strsOf ds).map (i :: ·)
  | _ => none
theorem strsOf_eq : ∀ {ds : List D} {ns : List (List Nat)}, strsOf ds = some ns → ds = ns.map D.str
  | [], ns, h => by cases h; rfl
  | .str i :: ds, ns, h => by
    rw [strsOf] at h
    cases e : strsOf ds with
    | none => rw [e] at h; cases h
    | some ms => rw [e] at h; cases h; rw [strsOf_eq e]; rfl
  | .non :: ds, ns, h => by cases h
  | .bl _ :: ds, ns, h => by cases h
  | .int _ :: ds, ns, h => by cases h
  | .lst _ :: ds, ns, h => by cases h
  | .tup _ :: ds, ns, h => by cases h
  | .dic _ :: ds, ns, h => by cases h
  | .obj _ _ :: ds, ns, h => by cases h
  | .exn _ _ :: ds, ns, h => by cases h
  | .scr _ :: ds, ns, h => by cases h
@[simp] theorem strsOf_map : ∀ ns : List (List Nat), strsOf (ns.map D.str) = some ns
  | [] => rfl
  | n :: ns => by rw [List.map_cons, strsOf, strsOf_map ns]; rfl
theorem RepL.strs {P : Wd} {G : Hp} : ∀ {ns : List (List Nat)} {vs : List V}, RepL P G vs (ns.map D.str) → ∃ zs : List Str, vs = zs.map V.str ∧ zs.map (fun z => z.cps.toList) = ns
  | [], vs, h => by cases h; exact ⟨[], rfl, rfl⟩
  | n :: ns, vs, h => by
    cases h with
    | cons h1 h2 =>
      obtain ⟨z, rfl, hz⟩ := h1.tick
      obtain ⟨zs, rfl, e⟩ := RepL.strs h2
      exact ⟨z :: zs, rfl, by rw [List.map_cons, hz, e]⟩
def joinN (a : List Nat) : List (List Nat) → List Nat
  | [] => []
  | [x] => x
  | x :: y :: r => x ++ a ++ joinN a (y :: r)
theorem join_list (a : Str) : ∀ zs : List Str, (Txt.join a zs).cps.toList = joinN a.cps.toList (zs.map fun z => z.cps.toList) := fun zs => by
  show (Builtin.Str.glued a zs).cps.toList = _
  rw [PySem.StrLaws.glued_eq_join]
  induction zs with
  | nil => rfl
  | cons z zs ih =>
    cases zs with
    | nil => rfl
    | cons y zs =>
      show (z ++ a ++ Str.join a (y :: zs)).cps.toList = _
      rw [List.map_cons, List.map_cons, joinN, ← List.map_cons (f := fun z : Str => z.cps.toList), ← ih]
      show ((z.cps ++ a.cps) ++ (Str.join a (y :: zs)).cps).toList = _
      rw [Array.toList_append, Array.toList_append]
def joinOk (a : List Nat) (ns : List (List Nat)) : Bool := decide ((ns.map List.length).sum + ns.length * a.length ≤ 16777216)
def dJoin : D → D → Option D
  | .str a, .lst ds => (strsOf ds).bind fun ns => if joinOk a ns then some (.str (joinN a ns)) else none
  | _, _ => none
@[simp] theorem dJoin_lst (a : List Nat) (ds : List D) : dJoin (.str a) (.lst ds) = (strsOf ds).bind fun ns => if joinOk a ns then some (.str (joinN a ns)) else none := rfl
def asS : D → Option (List Nat)
  | .str s => some s
  | _ => none
def strOp (g : D → D → Option D) (f1 f2 : En → R D) : En → R D := fun ρ => (f1 ρ).bind fun a => (R.ofO (asS a)).bind fun _ => (f2 ρ).bind fun b => .ofO (g a b)
theorem d_join {o : Expr} {apos : Pos} (hK : B.P.K = X.K) (ho : PE X o (tD B W E1 f1)) (he : PE X e (tD B W E2 f2)) (hs : starEach [e] X.env = [(false, eval e X.env)] := by rfl) (hbase : attributeBase o "join" X.env (eval o X.env) = eval o X.env := by rfl) (hline : (apos.endLine == pos.line) = true := by rfl) :
    PE X (.Call (.Attribute o "join" apos) [e] [] pos) (tD B W [] (strOp dJoin f1 f2)) := (pe_join ho he hs hbase hline).imp fun σ H Q ⟨ρ, As, S, q⟩ => by
  refine tD_bind S q fun a v H1 s1 S1 r1 q1 => ?_
  cases a with
  | str a =>
    obtain ⟨z, rfl, hz⟩ := r1.tick
    refine ⟨⟨z, rfl⟩, ?_⟩
    refine tD_bind S1 q1 fun b u H2 s2 S2 r2 q2 => ?_
    cases b with
    | lst ds =>
      obtain ⟨l, ws, rfl, hl, rl⟩ := r2.lstE
      rw [dJoin_lst] at q2
      cases es : strsOf ds with
      | none => rw [es] at q2; exact q2.elim
      | some ns =>
        rw [es, Option.bind_some] at q2
        rw [strsOf_eq es] at rl
        obtain ⟨zs, rfl, en⟩ := rl.strs
        by_cases hk : joinOk a ns = true
        · rw [if_pos hk] at q2
          refine ⟨z, l, zs, rfl, rfl, .inl (.inl (rd_cut hl)), ?_, q2 _ H2 (s1.trans s2) (rep_of (by rw [join_list, hz, en]))⟩
          have h := of_decide_eq_true hk
          rw [← en, List.map_map, List.length_map, ← slen hz] at h
          have : (List.length ∘ fun z : Str => z.cps.toList) = fun z : Str => z.length := funext fun z => by show z.cps.toList.length = z.cps.size; exact Array.length_toList
          rw [this] at h
          exact h
        · rw [if_neg hk] at q2; exact q2.elim
    | _ => exact (show False from q2).elim
  | _ => exact q1.elim
end
end DL
set_option Elab.async false
set_option linter.all false
set_option maxRecDepth 100000
namespace DL
open PySem PySem.Spec PyProof.Rows L2

/-! ## isinstance, the module's constants -/
def tyD : D → Option String
  | .non => some "NoneType"
  | .bl _ => some "bool"
  | .int _ => some "int"
  | .str _ => some "str"
  | .lst _ => some "list"
  | .tup _ => some "tuple"
  | _ => none
inductive TyN where
  | bool | int | str | list | tuple
def TyN.s : TyN → String
  | .bool => "bool"
  | .int => "int"
  | .str => "str"
  | .list => "list"
  | .tuple => "tuple"
def isD : TyN → D → Option D
  | t, .non => some (.bl false)
  | .bool, .bl _ => some (.bl true)
  | .int, .bl _ => some (.bl true)
  | .int, .int _ => some (.bl true)
  | .str, .str _ => some (.bl true)
  | .list, .lst _ => some (.bl true)
  | .tuple, .tup _ => some (.bl true)
  | _, .dic _ => none
  | _, .obj _ _ => none
  | _, .exn _ _ => none
  | _, .scr _ => none
  | _, _ => some (.bl false)
section
variable {X : Cx} {B : Bs} {W : WX} {E E1 E2 Ee : List Nat} {f f1 f2 : En → R D} {fa : En → R (List D)} {e e1 e2 e3 tg iter : Expr} {es : List Expr} {pos p p' : Pos} {x : Str} {id T : String}
theorem pe_blt {u : String} (hg : Gl X x) (hm : X.mg x = none) (hv : bootBuiltins x = some (.type u)) (hn : x ≠ "__name__" := by decide) (hd : (x == ("__debug__" : Str)) = false := by decide) : PE X (.Name x pos) (tC (.ty u)) :=
  ⟨fun pins s σ H Q I h => ld_blt I hg hm hv ⟨.ty u, H, I, rfl, h⟩ hn hd⟩
theorem tyX_of {P : Wd} {p : Addr → Prop} {H : Hp} {v : V} {d : D} {t : TyN} {r : D} (h : Rep P (cut H p) v d) (e : isD t d = some r) : ∃ u b, TyX P.K H v u ∧ PySem.W.kitOne P.K u (.type t.s) = some b ∧ r = .bl b := by
  cases d with
  | non => cases h; cases t <;> cases e <;> exact ⟨_, _, .base .non, rfl, rfl⟩
  | bl b => cases h; cases t <;> cases e <;> exact ⟨_, _, .base (.bl _), rfl, rfl⟩
  | int b => cases h; cases t <;> cases e <;> exact ⟨_, _, .base (.int _), rfl, rfl⟩
  | str b => obtain ⟨z, rfl, hz⟩ := h.tick; cases t <;> cases e <;> exact ⟨_, _, .base (.str _), rfl, rfl⟩
  | lst b =>
    obtain ⟨a, vs, rfl, h1, h2⟩ := h.lstE
    have : TyX P.K H (.ref a) (.type "list") := by
      rcases rd_cut h1 with h | ⟨o, h⟩
      · exact .base (.lst h)
      · exact .base (.frz h)
    cases t <;> cases e <;> exact ⟨_, _, this, rfl, rfl⟩
  | tup b =>
    obtain ⟨a, vs, rfl, h1, h2⟩ := h.tupE
    have : TyX P.K H (.ref a) (.type "tuple") := by
      rcases sqT_cut h1 with (h | ⟨o, h⟩) | ⟨o, its, n, h, hc, _⟩
      · exact .base (.tup h)
      · exact .fTuple h
      · exact .kTuple h hc
    cases t <;> cases e <;> exact ⟨_, _, this, rfl, rfl⟩
  | dic _ => cases t <;> cases e
  | obj _ _ => cases t <;> cases e
  | exn _ _ => cases t <;> cases e
  | scr _ => cases t <;> cases e
theorem d_isi (t : TyN) {y : Str} {py : Pos} (hK : B.P.K = X.K) (gl : Gl X "isinstance") (hm : X.mg "isinstance" = none) (gy : Gl X y) (my : X.mg y = none) (hv : bootBuiltins y = some (.type t.s)) (h : PE X e (tD B W E f)) (hn : y ≠ "__name__" := by decide) (hd : (y == ("__debug__" : Str)) = false := by decide)
    (hs : starEach [.Name y py] X.env = (false, eval (.Name y py) X.env) :: starEach [] X.env := by rfl) (he : starEach [e, .Name y py] X.env = (false, eval e X.env) :: starEach [.Name y py] X.env := by rfl) (hpl : (backTo pos (starEach [.Name y py] X.env)).any (·.1) = false := by rfl) :
    PE X (.Call (.Name "isinstance" p) [e, .Name y py] [] pos) (tD B W [] (op1 (isD t) f)) :=
  (pe_callB (r := rIsi B.P.K) (by rw [hK]; exact call_isi) gl hm (by rfl) (pa_cons h (pa_cons (pe_blt gy my hv hn hd) pa_nil hs) he) (by decide) (by decide) he hpl).imp fun σ H Q ⟨ρ, As, S, q⟩ => tD_bind S q fun d v H1 s1 S1 r1 q1 => by
    cases ed : isD t d with
    | none => rw [ed] at q1; exact q1.elim
    | some r =>
      rw [ed] at q1
      obtain ⟨u, b, ty, k, rfl⟩ := tyX_of r1 ed
      exact ⟨v, .ty t.s, u, .type t.s, b, rfl, .ty _, ty, k, q1 _ H1 s1 (.bl _)⟩
theorem d_glob {v : V} {u : Value} {d : D} (hg : Gl X x) (hm : X.mg x = some u) (r : RelV v u) (rep : ∀ G, Rep B.P G v d) (hd : (x == ("__debug__" : Str)) = false := by decide) : PE X (.Name x pos) (tD B W [] (con d)) := d_con (pe_glob hg hm r hd) rep

/-! ## what is walked -/
theorem _root_.L2.PI.imp {t t' : TI} (h : PI X tg iter t) (i : ∀ σ H Q, t' σ H Q → t σ H Q) : PI X tg iter t' := ⟨fun p s σ H Q I q => h.run p s σ H Q I (i σ H Q q)⟩
theorem _root_.L2.PI.or {t t' : TI} (h : PI X tg iter t) (h' : PI X tg iter t') : PI X tg iter (fun σ H Q => t σ H Q ∨ t' σ H Q) := ⟨fun p s σ H Q I q => by
  rcases q with q | q
  · exact h.run p s σ H Q I q
  · exact h'.run p s σ H Q I q⟩
def seqD : D → Option (List D)
  | .lst ds => some ds
  | .tup ds => some ds
  | .str s => some (s.map fun c => .str [c])
  | _ => none
def itE (f : En → R D) : En → R (List D) := fun ρ => (f ρ).bind fun d => .ofO (seqD d)
theorem walks_list {P : Wd} {H : Hp} {p : Addr → Prop} {a : Addr} {vs : List V} {ds : List D} (ha : Rd (cut H p) a (.lst vs)) (r : RepL P (cut H p) vs ds) : Walks P (cut H p) (cut H p) (Itl P.K a) ds where
  go := fun i H' s h => by
    obtain ⟨v, e, _⟩ := r.getD (List.getElem?_eq_getElem h)
    exact ⟨vs, v, .inl (Rd.same s ha), e⟩
  stop := fun i H' s h => ⟨vs, .inl (Rd.same s ha), by rw [r.len]; exact h⟩
  yld := fun i H' x H2 d s y e => by
    obtain ⟨rfl, y⟩ := y
    obtain ⟨v, e1, rv⟩ := r.getD e
    have := y vs (.inl (Rd.same s ha))
    rw [e1] at this
    cases this
    exact ⟨Same.refl _, _, Same.refl _, s, fun a o h => .inl h, rv⟩
theorem walks_tup {P : Wd} {H : Hp} {p : Addr → Prop} {a : Addr} {vs : List V} {ds : List D} (ha : SqT P.K (cut H p) a vs) (r : RepL P (cut H p) vs ds) : Walks P (cut H p) (cut H p) (Itt P.K a) ds where
  go := fun i H' s h => by
    obtain ⟨v, e, _⟩ := r.getD (List.getElem?_eq_getElem h)
    exact ⟨vs, v, SqT.same s ha, e⟩
  stop := fun i H' s h => ⟨vs, SqT.same s ha, by rw [r.len]; exact h⟩
  yld := fun i H' x H2 d s y e => by
    obtain ⟨rfl, y⟩ := y
    obtain ⟨v, e1, rv⟩ := r.getD e
    have := y vs (SqT.same s ha)
    rw [e1] at this
    cases this
    exact ⟨Same.refl _, _, Same.refl _, s, fun a o h => .inl h, rv⟩
theorem walks_str {P : Wd} {G : Hp} {z : Str} {cs : List Nat} (hz : z.cps.toList = cs) : Walks P G G (Its z) (cs.map fun c => .str [c]) where
  go := fun i H' s h => by
    rw [List.length_map, ← slen hz] at h
    exact h
  stop := fun i H' s h => by
    rw [List.length_map, ← slen hz] at h
    exact h
  yld := fun i H' x H2 d s y e => by
    obtain ⟨rfl, c, y, rfl⟩ := y
    rw [← Array.getElem?_toList, hz] at y
    rw [List.getElem?_map, y] at e
    cases e
    exact ⟨Same.refl _, _, Same.refl _, s, fun a o h => .inl h, rep_of rfl⟩
theorem i_any (hK : B.P.K = X.K) (h : PE X iter (tD B W E f)) : PI X tg iter (tI B W E E (itE f)) :=
  (((pi_list h).or (pi_tup h)).or (pi_str h)).imp fun σ H Q ⟨ρ, As, S, q⟩ => by
    cases e : f ρ with
    | st => unfold itE at q; rw [e] at q; exact q.elim
    | ex c fs =>
      unfold itE at q; rw [e] at q
      exact .inl (.inl ⟨ρ, As, S, by rw [e]; exact q⟩)
    | ok d =>
      have q' := q
      unfold itE at q
      rw [e, R.bind_ok] at q
      unfold seqD at q
      split at q
      · refine .inl (.inl ⟨ρ, As, S, ?_⟩)
        rw [e]
        intro v H1 s1 r1
        obtain ⟨a, vs, rfl, ha, ra⟩ := r1.lstE
        exact ⟨a, rfl, ⟨vs, by rw [← hK]; exact .inl (rd_cut ha)⟩, by rw [← hK]; exact q _ H1 s1 (walks_list ha ra)⟩
      · refine .inl (.inr ⟨ρ, As, S, ?_⟩)
        rw [e]
        intro v H1 s1 r1
        obtain ⟨a, vs, rfl, ha, ra⟩ := r1.tupE
        exact ⟨a, rfl, ⟨vs, by rw [← hK]; exact sqT_cut ha⟩, by rw [← hK]; exact q _ H1 s1 (walks_tup ha ra)⟩
      · refine .inr ⟨ρ, As, S, ?_⟩
        rw [e]
        intro v H1 s1 r1
        obtain ⟨z, rfl, hz⟩ := r1.tick
        exact ⟨z, rfl, q _ H1 s1 (walks_str hz)⟩
      · exact q.elim
/-! ### ranges -/
def rngL (lo : Int) (n : Nat) : List D := (List.range n).map fun (k : Nat) => .int (lo + k)
def rngC (lo c : Int) (n : Nat) : List D := (List.range n).map fun (k : Nat) => .int (lo + k * c)
def rngOk (i : Int) : Bool := decide (-(2 ^ 62) ≤ i) && decide (i < 2 ^ 62)
theorem rngOk_iff {i : Int} (h : rngOk i = true) : -(2 ^ 62) ≤ i ∧ i < 2 ^ 62 := by
  obtain ⟨a, b⟩ := Bool.and_eq_true_iff.mp h
  exact ⟨of_decide_eq_true a, of_decide_eq_true b⟩
theorem walks_C {P : Wd} {G : Hp} {lo c : Int} {n : Nat} : Walks P G G (Itc lo c n) (rngC lo c n) where
  go := fun i H' s h => by unfold rngC at h; rw [List.length_map, List.length_range] at h; exact h
  stop := fun i H' s h => by unfold rngC at h; rw [List.length_map, List.length_range] at h; exact h
  yld := fun i H' x H2 d s y e => by
    obtain ⟨rfl, rfl⟩ := y
    unfold rngC at e
    rw [List.getElem?_map] at e
    cases e1 : (List.range n)[i]? with
    | none => rw [e1] at e; cases e
    | some k =>
      rw [e1] at e
      cases e
      have : k = i := by
        obtain ⟨h1, h2⟩ := List.getElem?_eq_some_iff.mp e1
        rw [← h2]; exact (List.getElem_range _).symm ▸ rfl
      subst this
      exact ⟨Same.refl _, _, Same.refl _, s, fun a o h => .inl h, .int _⟩
theorem walks_L {P : Wd} {G : Hp} {lo : Int} {n : Nat} : Walks P G G (Itr lo n) (rngL lo n) where
  go := fun i H' s h => by unfold rngL at h; rw [List.length_map, List.length_range] at h; exact h
  stop := fun i H' s h => by unfold rngL at h; rw [List.length_map, List.length_range] at h; exact h
  yld := fun i H' x H2 d s y e => by
    obtain ⟨rfl, rfl⟩ := y
    unfold rngL at e
    rw [List.getElem?_map] at e
    cases e1 : (List.range n)[i]? with
    | none => rw [e1] at e; cases e
    | some k =>
      rw [e1] at e
      cases e
      have : k = i := by
        obtain ⟨h1, h2⟩ := List.getElem?_eq_some_iff.mp e1
        rw [← h2]; exact (List.getElem_range _).symm ▸ rfl
      subst this
      exact ⟨Same.refl _, _, Same.refl _, s, fun a o h => .inl h, .int _⟩
def rgF1 : List D → R (List D)
  | [.int j] => if rngOk j then .ok (rngL 0 j.toNat) else .st
  | _ => .st
def rgF2 : List D → R (List D)
  | [.int i, .int j] => if rngOk i && rngOk j then .ok (rngL i (j - i).toNat) else .st
  | _ => .st
def rgOk3 (i j c : Int) : Bool := decide (c ≠ 0) && (decide (c.natAbs < 1073741824) && (Builtin.Range.small i j c && decide (0 ≤ Builtin.Range.rangeSize i j c)))
def rgF3 : List D → R (List D)
  | [.int i, .int j, .int c] => if rgOk3 i j c then .ok (rngC i c (Builtin.Range.rangeSize i j c).toNat) else .st
  | _ => .st
def rgE (g : List D → R (List D)) (fa : En → R (List D)) : En → R (List D) := fun ρ => (fa ρ).bind g
theorem i_range1 (gl : Gl X "range") (hm : X.mg "range" = none) (ha : PA X [e] (tA B W E fa)) (hs : starEach [e] X.env = [(false, eval e X.env)] := by rfl) : PI X tg (.Call (.Name "range" p) [e] [] pos) (tI B W [] [] (rgE rgF1 fa)) :=
  (pi_range1 gl hm ha hs).imp fun σ H Q ⟨ρ, As, S, q⟩ => tA_bind S q fun ds vs H1 s1 S1 r1 q1 => by
    unfold rgF1 at q1
    split at q1
    · obtain ⟨v, rfl, rv⟩ := r1.oneE
      cases rv
      split at q1
      · rename_i hk
        obtain ⟨h1, h2⟩ := rngOk_iff hk
        exact ⟨_, rfl, h1, h2, q1 _ H1 s1 walks_L⟩
      · exact q1.elim
    · exact q1.elim
theorem i_range2 (gl : Gl X "range") (hm : X.mg "range" = none) (ha : PA X [e1, e2] (tA B W E fa)) (hs : starEach [e1, e2] X.env = [(false, eval e1 X.env), (false, eval e2 X.env)] := by rfl) (hs2 : starEach [e2] X.env = [(false, eval e2 X.env)] := by rfl) : PI X tg (.Call (.Name "range" p) [e1, e2] [] pos) (tI B W [] [] (rgE rgF2 fa)) :=
  (pi_range2 gl hm ha hs hs2).imp fun σ H Q ⟨ρ, As, S, q⟩ => tA_bind S q fun ds vs H1 s1 S1 r1 q1 => by
    unfold rgF2 at q1
    split at q1
    · obtain ⟨v, w, rfl, rv, rw'⟩ := r1.twoE
      cases rv; cases rw'
      split at q1
      · rename_i hk
        obtain ⟨k1, k2⟩ := Bool.and_eq_true_iff.mp hk
        obtain ⟨h1, h2⟩ := rngOk_iff k1
        obtain ⟨h3, h4⟩ := rngOk_iff k2
        exact ⟨_, _, rfl, ⟨h1, h2, h3, h4⟩, q1 _ H1 s1 walks_L⟩
      · exact q1.elim
    · exact q1.elim
theorem i_range3 (gl : Gl X "range") (hm : X.mg "range" = none) (ha : PA X [e1, e2, e3] (tA B W E fa)) (hs : starEach [e1, e2, e3] X.env = (false, eval e1 X.env) :: starEach [e2, e3] X.env := by rfl) (hpl : (backTo pos (starEach [e2, e3] X.env)).any (·.1) = false := by rfl) : PI X tg (.Call (.Name "range" p) [e1, e2, e3] [] pos) (tI B W [] [] (rgE rgF3 fa)) :=
  (pi_range3 gl hm ha hs hpl).imp fun σ H Q ⟨ρ, As, S, q⟩ => tA_bind S q fun ds vs H1 s1 S1 r1 q1 => by
    unfold rgF3 at q1
    split at q1
    · cases r1 with
      | cons r1 r2 =>
      obtain ⟨v, w, rfl, rv, rw'⟩ := r2.twoE
      cases r1; cases rv; cases rw'
      split at q1
      · rename_i hk
        obtain ⟨k1, k2⟩ := Bool.and_eq_true_iff.mp hk
        obtain ⟨k2, k3⟩ := Bool.and_eq_true_iff.mp k2
        obtain ⟨k3, k4⟩ := Bool.and_eq_true_iff.mp k3
        exact ⟨_, _, _, _, rfl, ⟨of_decide_eq_true k1, of_decide_eq_true k2, k3, (Int.toNat_of_nonneg (of_decide_eq_true k4)).symm⟩, q1 _ H1 s1 walks_C⟩
      · exact q1.elim
    · exact q1.elim

/-! ## comprehensions -/
theorem _root_.L2.PG.ex {ι : Type} {t : ι → TG} (h : ∀ o, PG X tg (t o)) : PG X tg (fun v σ H Q => ∃ o, t o v σ H Q) := ⟨fun p s σ H v u Q I r ⟨o, q⟩ => (h o).run p s σ H v u Q I r q⟩
theorem _root_.L2.PE.ex {ι : Type} {t : ι → TE} (h : ∀ o, PE X e (t o)) : PE X e (fun σ H Q => ∃ o, t o σ H Q) := ⟨fun p s σ H Q I ⟨o, q⟩ => (h o).run p s σ H Q I q⟩
theorem _root_.L2.PTs.ex {ι : Type} {ifs : List Expr} {t : ι → TT} (h : ∀ o, PTs X ifs (t o)) : PTs X ifs (fun σ H Q => ∃ o, t o σ H Q) := ⟨fun p s σ H Q I ⟨o, q⟩ => (h o).run p s σ H Q I q⟩
theorem _root_.L2.PTs.imp {ifs : List Expr} {t t' : TT} (h : PTs X ifs t) (i : ∀ σ H Q, t' σ H Q → t σ H Q) : PTs X ifs t' := ⟨fun p s σ H Q I q => h.run p s σ H Q I (i σ H Q q)⟩
def tYesD : En → R Bool := fun _ => .ok true
theorem t_nil : PTs X [] (tT B W tYesD) := pts_nil.imp fun σ H Q ⟨ρ, As, S, q⟩ => q H (Same.refl _)
theorem t_one {ft : En → R Bool} (h : PT X e (tT B W ft)) : PTs X [e] (tT B W ft) := pts_one h
theorem f_lc {elt : Expr} {ifs : List Expr} {scope : Scope} {own : List (Str × Nat)} {it : En → R (List D)} {bnd : D → En → Option En} {tt : En → R Bool} {Mg : List Nat} (hc : X.calm = true) (hN : X.N.Nodup) (hi : PI X tg iter (tI B W E Ee it)) (ok : BlkOk X.N X.env.scope scope own)
    (hm : ∀ i ∈ Mg, i ∈ own.map (·.2)) (hg : ∀ (s : Shared) (H : Hp) (C : Addr) (cl : List (Str × Addr)) (fp : List Addr) (O : Addr → Prop), PG (X.blk s H scope (compEnvC scope cl C X.env) fp) tg (tG (B.wo O) Mg bnd))
    (ht : ∀ (s : Shared) (H : Hp) (C : Addr) (cl : List (Str × Addr)) (fp : List Addr) (O : Addr → Prop), PTs (X.blk s H scope (compEnvC scope cl C X.env) fp) ifs (tT (B.wo O) W0 tt))
    (he : ∀ (s : Shared) (H : Hp) (C : Addr) (cl : List (Str × Addr)) (fp : List Addr) (O : Addr → Prop), PE (X.blk s H scope (compEnvC scope cl C X.env) fp) elt (tD (B.wo O) W0 E1 f)) (hs : ∀ x, foldedSetIterable iter X.env x = pure x := by intro _; rfl) :
    PE X (.ListComp elt [⟨tg, iter, ifs, 0⟩] scope pos) (tF B W (E1.filter fun i => !(own.map (·.2)).contains i) (lcE Ee (own.map (·.2)) bnd it tt f)) :=
  (pe_lc hc hN hi ok (fun s H C cl fp => .ex (hg s H C cl fp)) (fun s H C cl fp => .ex (ht s H C cl fp)) (fun s H C cl fp => .ex (he s H C cl fp)) hs).imp fun σ H Q q => lc_imp hm q
/-- name = [..] -/
theorem s_setLc (i : Nat) {elt : Expr} {ifs : List Expr} {scope : Scope} {own : List (Str × Nat)} {it : En → R (List D)} {bnd : D → En → Option En} {tt : En → R Bool} {Mg : List Nat} (hN : X.N.Nodup) (hy : X.N[i]? = some x) (hyl : X.env.scope.names.lookup x = some .local)
    (hsw : swapsWith (.ListComp elt [⟨tg, iter, ifs, 0⟩] scope pos) (some (.Name x p')) p.line X.env = pure true) (hc : X.calm = true) (hi : PI X tg iter (tI B W E Ee it)) (ok : BlkOk X.N X.env.scope scope own)
    (hm : ∀ i ∈ Mg, i ∈ own.map (·.2)) (hg : ∀ (s : Shared) (H : Hp) (C : Addr) (cl : List (Str × Addr)) (fp : List Addr) (O : Addr → Prop), PG (X.blk s H scope (compEnvC scope cl C X.env) fp) tg (tG (B.wo O) Mg bnd))
    (ht : ∀ (s : Shared) (H : Hp) (C : Addr) (cl : List (Str × Addr)) (fp : List Addr) (O : Addr → Prop), PTs (X.blk s H scope (compEnvC scope cl C X.env) fp) ifs (tT (B.wo O) W0 tt))
    (he : ∀ (s : Shared) (H : Hp) (C : Addr) (cl : List (Str × Addr)) (fp : List Addr) (O : Addr → Prop), PE (X.blk s H scope (compEnvC scope cl C X.env) fp) elt (tD (B.wo O) W0 E1 f)) (hs : ∀ x, foldedSetIterable iter X.env x = pure x := by intro _; rfl) :
    PS X (.Assign [.Name x p'] (.ListComp elt [⟨tg, iter, ifs, 0⟩] scope pos) p) (tS B W [i] (setF i (E1.filter fun i => !(own.map (·.2)).contains i) (lcE Ee (own.map (·.2)) bnd it tt f))) :=
  (ps_setLc hc hN hy hyl hsw hi ok (fun s H C cl fp => .ex (hg s H C cl fp)) (fun s H C cl fp => .ex (ht s H C cl fp)) (fun s H C cl fp => .ex (he s H C cl fp)) hs).imp fun D σ H q => lc_imp hm (imp_setF i q)

/-! ## defs -/
/-- what a def promises: its answer is m of its arguments' data -/
def spD (P : Wd) (n : Nat) (m : List D → R OD) : Sp := fun vs H Q E => vs.length = n ∧ ∃ O ds, (∀ a, O a → H a ≠ none) ∧ RepL P (cut H O) vs ds ∧
  (m ds).go (fun od => ∀ v A H', Same H H' → A.Nodup → (∀ a ∈ A, H a = none) → RepO P (cut H' fun a => O a ∨ a ∈ A) H' v od A → Q v H')
    (fun c fs => ∀ C dx vfs H', Same H H' → H dx = none → P.mg c = some (.ref C) → H' dx = some (.xd vfs) → ExF vfs fs → E (.ref C) (some dx) H')
def callE (m : List D → R OD) (fa : En → R (List D)) : En → R OD := fun ρ => (fa ρ).bind m
theorem f_call {k n : Nat} {g : Addr} {fd : FuncData} {ps : List Str} {m : List D → R OD} (F : FnOk X.prog X.w X.K X.mg X.base (L2.CX X.prog X.w) k g fd ps (spD B.P n m)) (hr : Room k X.A) (gl : Gl X x) (hm : X.mg x = some (.ref g)) (hk : PySem.W.keepIn X.K (.ref g) = true) (hb : Binds X.K fd ps [])
    (tk : Takes X W) (ha : PA X (e :: es) (tA B W E fa)) (hl : ∀ ρ ds, fa ρ = .ok ds → ds.length = n) (hdb : (x == ("__debug__" : Str)) = false := by decide) (he : starEach (e :: es) X.env = (false, eval e X.env) :: starEach es X.env := by rfl) (hpl : (backTo pos (starEach es X.env)).any (·.1) = false := by rfl) :
    PE X (.Call (.Name x p) (e :: es) [] pos) (tF B W E (callE m fa)) :=
  (pe_callS (E := WE W) F hr gl hm hk hb (fun σ => passAt tk σ) ha hdb he hpl).imp fun σ H Q ⟨ρ, As, S, q⟩ => by
    have hl := hl ρ
    unfold callE at q
    refine ⟨ρ, As, S, ?_⟩
    cases ef : fa ρ with
    | st => rw [ef] at q; exact q
    | ex c fs => rw [ef] at q; exact q
    | ok ds =>
      rw [ef, R.bind_ok] at q
      intro vs H1 s1 r1
      have S1 := S.same s1
      refine ⟨by rw [r1.len]; exact hl ds ef, hid B As E, ds, S1.hth, r1, ?_⟩
      cases em : m ds with
      | st => rw [em] at q; exact q
      | ok od =>
        rw [em] at q
        exact fun v A H' s nA fA ro => q v A H' (s1.trans s) nA (fun a ha => s1.free (fA a ha)) ro
      | ex c fs =>
        rw [em] at q
        exact fun C dx vfs H' s nd mc hd xf => q C dx vfs H' (s1.trans s) (s1.free nd) mc hd xf
end
end DL
set_option Elab.async false
set_option linter.all false
set_option maxRecDepth 100000
namespace DL
open PySem PySem.Spec PyProof.Rows L2

/-! ## tuples as targets -/
def setAll : List Nat → List D → En → En
  | i :: is, d :: ds, ρ => setAll is ds (ρ.set i (some (.sh d)))
  | _, _, ρ => ρ
def bNames (is : List Nat) : D → En → Option En := fun d ρ => match d with
  | .tup ds => if ds.length = is.length then some (setAll is ds ρ) else none
  | .lst ds => if ds.length = is.length then some (setAll is ds ρ) else none
  | _ => none
def tGs (B : Bs) (is : List Nat) : TGs := fun vs σ H Q => ∃ ρ As ds, Sta B σ H ρ As ∧ RepL B.P (cut H (hid B As [])) vs ds ∧ ds.length = is.length ∧
  ∀ σ' As', Sta B σ' H (setAll is ds ρ) As' → Kp is σ H As σ' H As' → (∀ i, i ∉ is → As' i = As i) → Q σ' H
section
variable {X : Cx} {B : Bs} {W : WX} {E E1 E2 Ee : List Nat} {f f1 f2 : En → R D} {fa : En → R (List D)} {e e1 e2 e3 tg iter : Expr} {es : List Expr} {pos p p' : Pos} {x : Str} {id T : String}
theorem _root_.L2.PGs.imp {t t' : TGs} (h : PGs X es t) (i : ∀ v σ H Q, t' v σ H Q → t v σ H Q) : PGs X es t' := ⟨fun p s σ H v u Q I r q => h.run p s σ H v u Q I r (i v σ H Q q)⟩
theorem gs_nil : PGs X [] (tGs B []) := pgs_nil.imp fun vs σ H Q ⟨ρ, As, ds, S, r, hl, h⟩ => by
  cases ds with
  | nil => cases r; exact ⟨rfl, h σ As S (Kp.refl (Same.refl _)) fun _ _ => rfl⟩
  | cons d ds => cases hl
theorem gs_cons (i : Nat) {is : List Nat} (hN : X.N.Nodup) (hi : X.N[i]? = some x) (hx : Loc X.env.scope x) (h2 : PGs X es (tGs B is)) (hf : X.fn x = true ∨ X.env.scope.names.lookup x = some .local := by first | exact .inl rfl | exact .inr rfl | assumption)
    (hs : (assignEach (.Name x pos :: es) X.env).map (·.2) = assign (.Name x pos) X.env :: (assignEach es X.env).map (·.2) := by rfl) : PGs X (.Name x pos :: es) (tGs B (i :: is)) :=
  (pgs_cons (pg_name hN hi hx hf) h2 hs).imp fun vs σ H Q ⟨ρ, As, ds, S, r, hl, h⟩ => by
    cases r with
    | nil => cases hl
    | @cons v vs d ds r1 r2 =>
      refine ⟨v, vs, rfl, ?_⟩
      have S1 := S.setSh (i := i) r1
      refine ⟨_, _, ds, S1, r2.up (cut_mono (Same.refl _) fun a z => ?_), Nat.succ.inj hl, fun σ' As' S' k' h' => ?_⟩
      · rcases z with z | ⟨j, hj, z⟩
        · exact .inl z
        · rcases putA_mem z with ⟨_, z⟩ | ⟨_, z⟩
          · cases z
          · exact .inr ⟨j, hj, z⟩
      · refine h σ' As' S' ?_ fun j hj => ?_
        · have k0 : Kp [i] σ H As (σ.set i (some v)) H (putA As i []) := (Kp.refl (Same.refl _) : Kp [] σ H As σ H As).set fun _ h => nomatch h
          exact k0.trans k'
        · rw [h' j fun z => hj (List.mem_cons_of_mem _ z)]
          exact putA_ne fun z => hj (by rw [z]; exact List.mem_cons_self)
theorem bNames_inv {is : List Nat} {d : D} {ρ ρ' : En} (h : bNames is d ρ = some ρ') : ∃ ds, (d = .tup ds ∨ d = .lst ds) ∧ ds.length = is.length ∧ ρ' = setAll is ds ρ := by
  unfold bNames at h
  split at h
  · split at h
    · cases h; exact ⟨_, .inl rfl, by assumption, rfl⟩
    · cases h
  · split at h
    · cases h; exact ⟨_, .inr rfl, by assumption, rfl⟩
    · cases h
  · cases h
theorem _root_.L2.PG.or {t t' : TG} (h : PG X tg t) (h' : PG X tg t') : PG X tg (fun v σ H Q => t v σ H Q ∨ t' v σ H Q) := ⟨fun p s σ H v u Q I r q => by
  rcases q with q | q
  · exact h.run p s σ H v u Q I r q
  · exact h'.run p s σ H v u Q I r q⟩
/-- (a, b, ..) -/
theorem g_tup {is : List Nat} {k : Nat} (hK : B.P.K = X.K) (hc : X.calm = true) (h : PGs X es (tGs B is)) (hn : (assignEach es X.env).length = is.length := by rfl) (hst : (assignEach es X.env).findIdx? (·.1) = none := by rfl) : PG X (.Tuple es k pos) (tG B is (bNames is)) :=
  ((pg_tup hc h hn hst).or (pg_lst hc h hn hst)).imp fun v σ H Q ⟨ρ, As, d, S, r, h⟩ => by
    cases eb : bNames is d ρ with
    | none => rw [eb] at h; exact h.elim
    | some ρ' =>
      rw [eb] at h
      obtain ⟨ds, ed, hl, rfl⟩ := bNames_inv eb
      rcases ed with rfl | rfl
      · obtain ⟨a, vs, rfl, ha, ra⟩ := r.tupE
        exact .inl ⟨a, vs, rfl, by rw [← hK]; exact sqT_cut ha, ra.len.trans hl, ρ, As, ds, S, ra, hl, h⟩
      · obtain ⟨a, vs, rfl, ha, ra⟩ := r.lstE
        exact .inr ⟨a, vs, rfl, by rw [← hK]; exact .inl (rd_cut ha), ra.len.trans hl, ρ, As, ds, S, ra, hl, h⟩
/-- a, b = e -/
def asgS (bnd : D → En → Option En) (E : List Nat) (f : En → R D) : En → Out := fun ρ => (f ρ).out ρ fun d => match bnd d (frzIf d E ρ) with
  | some ρ' => .nx ρ'
  | none => .st
theorem s_asg {bnd : D → En → Option En} {M : List Nat} (h : PE X e (tD B W E f)) (hg : PG X tg (tG B M bnd)) (hs : swapsWithSole [tg] e pos.line X.env = pure false := by rfl) (hw : swappedStores [tg] e X.env = pure none := by rfl)
    (h1 : (assignEach [tg] X.env).map (·.2) = [assign tg X.env] := by rfl) : PS X (.Assign [tg] e pos) (tS B W M (asgS bnd E f)) :=
  (ps_asg h hg hs hw h1).imp fun D σ H ⟨ρ, As, S, h⟩ => tD_out S h fun d v H1 s1 S1 r q => by
    obtain ⟨A', S2, r2, k⟩ := rep_frz S1 r
    refine ⟨_, A', d, S2, r2, ?_⟩
    revert q
    cases bnd d (frzIf d E ρ) with
    | none => exact fun q => q
    | some ρ' => exact fun q σ' As' S' k' _ => q σ' H1 As' S' (k.trans k')
end

/-! ## a def by its body -/
def mOf (n N : Nat) (body : En → Out) : List D → R OD := fun ds => if ds.length = n then match body (ds.map (fun d => some (OD.sh d)) ++ List.replicate (N - n) none) with
    | .nx _ => .ok (.sh .non)
    | .rt od _ => .ok od
    | .ex c fs _ => .ex c fs
    | _ => .st
  else .st
section
variable {P : Program} {w : World} {K : PySem.W.Frag} {mg : Str → Option Value} {base : Heap}
theorem sta_start {O : Addr → Prop} {H : Hp} {N : Nat} {vs : List V} {ds : List D} (hO : ∀ a, O a → H a ≠ none) (r : RepL ⟨K, mg, none⟩ (cut H O) vs ds) :
    Sta ⟨⟨K, mg, none⟩, O, fun _ => False, H⟩ (vs.map some ++ List.replicate (N - vs.length) none) H (ds.map (fun d => some (OD.sh d)) ++ List.replicate (N - vs.length) none) (fun _ => []) where
  len := by rw [List.length_append, List.length_append, List.length_map, List.length_map, List.length_replicate, List.length_replicate, r.len]
  pt := fun i od e => by
    by_cases hi : i < ds.length
    · rw [List.getElem?_append_left (by rw [List.length_map]; exact hi), List.getElem?_map] at e
      cases e1 : ds[i]? with
      | none => rw [e1] at e; cases e
      | some d =>
        rw [e1] at e
        cases e
        obtain ⟨v, e2, rv⟩ := r.getD e1
        refine ⟨v, ?_, .sh (rv.up (cut_mono (Same.refl _) fun a z => ?_))⟩
        · rw [List.getElem?_append_left (by rw [List.length_map, r.len]; exact hi), List.getElem?_map, e2]; rfl
        · rcases z with z | ⟨j, _, z⟩
          · exact z
          · cases z
    · rw [List.getElem?_append_right (by rw [List.length_map]; omega)] at e
      rw [List.getElem?_replicate] at e
      split at e <;> cases e
  nd := fun _ => List.nodup_nil
  dj := fun _ _ _ h => nomatch h
  ow := fun _ _ h => nomatch h
  no := fun _ _ h => nomatch h
  hs := fun _ _ h => nomatch h
  ob := hO
  fr := fun a o e _ => e
  th := fun a h => h
theorem Sta.out {B : Bs} {σ : L2.St} {H : Hp} {ρ : En} {As : Ow} (S : Sta B σ H ρ As) (h0 : ∀ a, ¬ B.A0 a) : Same B.H0 H := fun a o e => S.fr a o e (h0 a)
theorem fn_ok {x qual : Str} {st : Stmt} {f : Addr} {fd : FuncData} {N ps : List Str} {k n : Nat} {M : List Nat} {body : En → Out} (F : Fun K x qual st f fd) (S : FnScope N ps (defScope st)) (hn : ps.length = n)
    (hbody : ∀ (cdv : Value) (A : Around) (outer : List Env) (s : Shared) (H : Hp) (E : XK) (O : Addr → Prop), Room k (A.deeper (envOfC qual (defScope st) s.heap.objs.size f cdv)) →
      PSs (cxOf (L2.CX P w) P w K mg base N qual (defScope st) f cdv A outer s H E) (defBody st) (tS ⟨⟨K, mg, none⟩, O, fun _ => False, H⟩ (fun c d _ H' => E c d H') M body)) :
    FnOk P w K mg base (L2.CX P w) (k + 1) f fd ps (spD ⟨K, mg, none⟩ n (mOf n N.length body)) := by
  subst hn
  refine F.okX S (fun vs H Q E h => h.1) fun cdv A outer s H vs Q E hr hsp => ?_
  obtain ⟨hl, O, ds, hO, r, q⟩ := hsp
  refine ⟨_, hbody cdv A outer s H E O hr, ?_⟩
  unfold mOf at q
  rw [if_pos (r.len.symm.trans hl)] at q
  have S0 := sta_start (N := N.length) hO r
  rw [hl] at S0
  refine ⟨_, _, by unfold L2.start; rw [hl]; exact S0, ?_⟩
  have no0 : ∀ a, ¬ (Bs.mk ⟨K, mg, none⟩ O (fun _ => False) H).A0 a := fun _ z => z
  revert q
  cases body (ds.map (fun d => some (OD.sh d)) ++ List.replicate (N.length - ps.length) none) with
  | st => exact fun q => q.elim
  | bk ρ => exact fun q => q.elim
  | ct ρ => exact fun q => q.elim
  | nx ρ' => exact fun q σ' H' As' S' k' => q .non [] H' (S'.out no0) List.nodup_nil (fun _ h => nomatch h) (.sh .non)
  | rt od ρ' => exact fun q v A' σ' H' As' S' k' nA fA dA ro => q v A' H' (S'.out no0) nA fA (RepO.mono (cut_mono (Same.refl _) fun a h => h.imp .inl id) _ _ _ ro fun _ _ => rfl)
  | ex c fs ρ' => exact fun q C dx vfs σ' H' As' S' k' nd mc hd na xf => q C dx vfs H' (S'.out no0) nd mc hd xf
end
section
variable {X : Cx} {B : Bs} {W : WX} {st : Stmt} {sts : List Stmt} {e : Expr} {E : List Nat} {x : Str} {pos px : Pos}
/-- what is not gone through -/
theorem s_stuck : PS X st (tS B W [] fun _ => .st) := ⟨fun p s σ H D I ⟨ρ, As, S, h⟩ => h.elim⟩
theorem ss_stuck : PSs X sts (tS B W [] fun _ => .st) := ⟨fun p s σ H D I ⟨ρ, As, S, h⟩ => h.elim⟩
theorem d_stuck : PE X e (tD B W [] fun _ => .st) := ⟨fun p s σ H D I ⟨ρ, As, S, h⟩ => h.elim⟩
theorem t_stuck : PT X e (tT B W fun _ => .st) := ⟨fun p s σ H D I ⟨ρ, As, S, h⟩ => h.elim⟩
theorem PTw {ft : En → R Bool} (h : PW X e (tT B W ft)) : PT X e (tT B W ft) := h.pt
/-- return of a name with all that it owns -/
def retV (i : Nat) : En → Out := fun ρ => match ρ[i]? with
  | some (some od) => .rt od (ρ.set i none)
  | _ => .st
theorem Sta.drop {σ : L2.St} {H : Hp} {ρ : En} {As : Ow} (S : Sta B σ H ρ As) (i : Nat) : Sta B σ H (ρ.set i none) (putA As i []) where
  len := by rw [List.length_set]; exact S.len
  pt := fun j od h => by
    by_cases hj : j = i
    · subst hj
      rw [List.getElem?_set_self'] at h
      cases e : ρ[j]? with
      | none => rw [e] at h; cases h
      | some z => rw [e] at h; cases h
    · rw [List.getElem?_set_ne (Ne.symm hj)] at h
      obtain ⟨v, e1, r⟩ := S.pt j od h
      rw [putA_ne hj]
      refine ⟨v, e1, RepO.mono (cut_mono (Same.refl _) fun a z => ?_) _ _ _ r fun _ _ => rfl⟩
      rcases z with z | ⟨m, hm, z⟩
      · exact .inl z
      · rcases putA_mem z with ⟨_, z⟩ | ⟨_, z⟩
        · cases z
        · exact .inr ⟨m, hm, z⟩
  nd := fun j => by
    by_cases hj : j = i
    · subst hj; rw [putA_same]; exact List.nodup_nil
    · rw [putA_ne hj]; exact S.nd j
  dj := fun j k a h1 h2 => by
    rcases putA_mem h1 with ⟨_, z⟩ | ⟨_, z1⟩
    · cases z
    · rcases putA_mem h2 with ⟨_, z⟩ | ⟨_, z2⟩
      · cases z
      · exact S.dj j k a z1 z2
  ow := fun j a h => by
    rcases putA_mem h with ⟨_, z⟩ | ⟨_, z⟩
    · cases z
    · exact S.ow j a z
  no := fun j a h => by
    rcases putA_mem h with ⟨_, z⟩ | ⟨_, z⟩
    · cases z
    · exact S.no j a z
  hs := fun j a h => by
    rcases putA_mem h with ⟨_, z⟩ | ⟨_, z⟩
    · cases z
    · exact S.hs j a z
  ob := S.ob
  fr := S.fr
  th := S.th
theorem s_retV (i : Nat) (h0 : ∀ a, ¬ B.A0 a) (h : PE X (.Name x px) (tVar i)) : PS X (.Return (some (.Name x px)) pos) (tS B W [] (retV i)) :=
  (ps_ret h).imp fun D σ H ⟨ρ, As, S, h⟩ => by
    unfold retV at h
    split at h
    · rename_i od e
      obtain ⟨v, e1, r⟩ := S.pt i od e
      have hsub : ∀ j a, a ∈ putA As i [] j → a ∈ As j := fun j a z => by
        rcases putA_mem z with ⟨_, z⟩ | ⟨_, z⟩
        · cases z
        · exact z
      refine ⟨v, e1, h v (As i) σ H _ (S.drop i) ⟨rfl, fun _ _ => rfl, fun j a z => .inl (hsub j a z), fun a o e _ => e, fun a h => h⟩ (S.nd i) (fun a ha => (S.ow i a ha).resolve_left (h0 a)) (fun a ha j z => ?_) (RepO.mono (cut_mono (Same.refl _) fun a z => ?_) _ _ _ r fun _ _ => rfl)⟩
      · rcases putA_mem z with ⟨_, z⟩ | ⟨hj, z⟩
        · cases z
        · exact hj (S.dj j i a z ha)
      · rcases z with (z | ⟨j, _, z⟩) | z
        · exact .inl z
        · exact .inr ⟨j, List.not_mem_nil, hsub j a z⟩
        · exact .inr ⟨i, List.not_mem_nil, z⟩
    · exact h.elim
end
end DL
set_option Elab.async false
set_option linter.all false
set_option maxRecDepth 100000
namespace DL
open PySem PySem.Spec PyProof.Rows L2

/-- a def of the text, ready to be called: its answer is m of the data -/
structure DefOk (P : Program) (w : World) (K : PySem.W.Frag) (mg : Str → Option Value) (base : Heap) (x : Str) (k n : Nat) (m : List D → R OD) : Prop where
  ex : ∃ (f : Addr) (fd : FuncData) (ps : List Str), mg x = some (.ref f) ∧ PySem.W.keepIn K (.ref f) = true ∧ Binds K fd ps [] ∧ FnOk P w K mg base (L2.CX P w) k f fd ps (spD ⟨K, mg, none⟩ n m)
section
variable {P : Program} {w : World} {K : PySem.W.Frag} {mg : Str → Option Value} {base : Heap}
theorem fn_okD {x qual : Str} {params : Arguments} {sts : List Stmt} {scope : Scope} {f : Addr} {fd : FuncData} {N ps : List Str} {k n : Nat} {M : List Nat} {body : En → Out} (F : FunD K x qual params sts scope [] [] f fd) (S : FnScope N ps scope) (hn : ps.length = n)
    (hbody : ∀ (cdv : Value) (A : Around) (outer : List Env) (s : Shared) (H : Hp) (E : XK) (O : Addr → Prop), Room k (A.deeper (envOfC qual scope s.heap.objs.size f cdv)) →
      PSs (cxOf (L2.CX P w) P w K mg base N qual scope f cdv A outer s H E) sts (tS ⟨⟨K, mg, none⟩, O, fun _ => False, H⟩ (fun c d _ H' => E c d H') M body)) :
    FnOk P w K mg base (L2.CX P w) (k + 1) f fd ps (spD ⟨K, mg, none⟩ n (mOf n N.length body)) := by
  subst hn
  refine F.ok S (fun vs H Q E h => h.1) fun cdv A outer s H vs Q E hr hsp => ?_
  obtain ⟨hl, O, ds, hO, r, q⟩ := hsp
  refine ⟨_, hbody cdv A outer s H E O hr, ?_⟩
  unfold mOf at q
  rw [if_pos (r.len.symm.trans hl)] at q
  have S0 := sta_start (N := N.length) hO r
  rw [hl] at S0
  refine ⟨_, _, by unfold L2.start; rw [hl]; exact S0, ?_⟩
  have no0 : ∀ a, ¬ (Bs.mk ⟨K, mg, none⟩ O (fun _ => False) H).A0 a := fun _ z => z
  revert q
  cases body (ds.map (fun d => some (OD.sh d)) ++ List.replicate (N.length - ps.length) none) with
  | st => exact fun q => q.elim
  | bk ρ => exact fun q => q.elim
  | ct ρ => exact fun q => q.elim
  | nx ρ' => exact fun q σ' H' As' S' k' => q .non [] H' (S'.out no0) List.nodup_nil (fun _ h => nomatch h) (.sh .non)
  | rt od ρ' => exact fun q v A' σ' H' As' S' k' nA fA dA ro => q v A' H' (S'.out no0) nA fA (RepO.mono (cut_mono (Same.refl _) fun a h => h.imp .inl id) _ _ _ ro fun _ _ => rfl)
  | ex c fs ρ' => exact fun q C dx vfs σ' H' As' S' k' nd mc hd na xf => q C dx vfs H' (S'.out no0) nd mc hd xf
theorem def_ok {x qual : Str} {params : Arguments} {sts : List Stmt} {scope : Scope} {f : Addr} {fd : FuncData} {N ps : List Str} {k n : Nat} {M : List Nat} {body : En → Out} (F : FunD K x qual params sts scope [] [] f fd) (hg : mg x = some (.ref f)) (S : FnScope N ps scope) (hn : ps.length = n) (hb : Binds K fd ps [])
    (hbody : ∀ (cdv : Value) (A : Around) (outer : List Env) (s : Shared) (H : Hp) (E : XK) (O : Addr → Prop), Room k (A.deeper (envOfC qual scope s.heap.objs.size f cdv)) →
      PSs (cxOf (L2.CX P w) P w K mg base N qual scope f cdv A outer s H E) sts (tS ⟨⟨K, mg, none⟩, O, fun _ => False, H⟩ (fun c d _ H' => E c d H') M body)) :
    DefOk P w K mg base x (k + 1) n (mOf n N.length body) := ⟨f, fd, ps, hg, F.kp, hb, fn_okD F S hn hbody⟩
theorem DefOk.imp {x : Str} {k n : Nat} {m m' : List D → R OD} (h : DefOk P w K mg base x k n m) (e : ∀ ds, m' ds = .st ∨ m' ds = m ds) : DefOk P w K mg base x k n m' := by
  obtain ⟨f, fd, ps, a, b, c, F⟩ := h.ex
  refine ⟨f, fd, ps, a, b, c, F.imp fun vs H Q E ⟨hl, O, ds, hO, r, q⟩ => ⟨hl, O, ds, hO, r, ?_⟩⟩
  rcases e ds with e | e
  · rw [e] at q; exact q.elim
  · rw [e] at q; exact q
end
section
variable {X : Cx} {B : Bs} {W : WX} {E E1 E2 Ee M M' : List Nat} {f f1 f2 : En → R D} {fa : En → R (List D)} {fo : En → R OD} {ft ft2 : En → R Bool} {e e1 e2 e3 tg iter : Expr} {es : List Expr} {pos p p' px : Pos} {x : Str} {id T : String}
theorem hu64 {A : Around} {k : Nat} (hr : Room k A) : A.units + 64 < cLine := by have := hr.un; omega
theorem f_fn {k k' n : Nat} {m : List D → R OD} {P' : Program} {w' : World} {K' : PySem.W.Frag} {mg' : Str → Option Value} {base' : Heap} (c : DefOk P' w' K' mg' base' x k n m) (hr : Room k' X.A) (hk : k ≤ k')
    (tk : Takes X W) (gl : Gl X x) (ha : PA X (e :: es) (tA B W E fa)) (hl : ∀ ρ ds, fa ρ = .ok ds → ds.length = n) (hP : X.prog = P' := by rfl) (hw : X.w = w' := by rfl) (hK : X.K = K' := by rfl) (hm : X.mg = mg' := by rfl) (hb : X.base = base' := by rfl) (hBK : B.P = ⟨X.K, X.mg, none⟩ := by rfl) (hdb : (x == ("__debug__" : Str)) = false := by decide) (he : starEach (e :: es) X.env = (false, eval e X.env) :: starEach es X.env := by rfl) (hpl : (backTo pos (starEach es X.env)).any (·.1) = false := by rfl) :
    PE X (.Call (.Name x p) (e :: es) [] pos) (tF B W E (callE m fa)) := by
  subst hP hw hK hm hb
  obtain ⟨f, fd, ps, a, b, c, F⟩ := c.ex
  rw [← hBK] at F
  exact f_call F (hr.mono hk) gl a b c tk ha hl hdb he hpl
theorem len_nil : ∀ ρ ds, aNil ρ = .ok ds → ds.length = 0 := fun ρ ds h => by cases h; rfl
theorem len_cons {n : Nat} (h : ∀ ρ ds, fa ρ = .ok ds → ds.length = n) : ∀ ρ ds, aCons f fa ρ = .ok ds → ds.length = n + 1 := fun ρ ds e => by
  unfold aCons at e
  cases e1 : f ρ with
  | ok a =>
    rw [e1, R.bind_ok] at e
    cases e2 : fa ρ with
    | ok b => rw [e2, R.bind_ok] at e; cases e; rw [List.length_cons, h ρ b e2]
    | ex c fs => rw [e2] at e; cases e
    | st => rw [e2] at e; cases e
  | ex c fs => rw [e1] at e; cases e
  | st => rw [e1] at e; cases e
theorem t_and1 (h : PT X e (tT B W ft)) : PW X (.BoolOp .And [e] pos) (tT B W ft) := pw_and1 h
theorem t_or1 (h : PT X e (tT B W ft)) : PW X (.BoolOp .Or [e] pos) (tT B W ft) := pw_or1 h
theorem t_eq (hK : B.P.K = X.K) (hu : X.A.units + 64 < cLine) (h1 : PE X e1 (tD B W E1 f1)) (h2 : PE X e2 (tD B W E2 f2)) : PT X (.Compare e1 [.Eq] [e2] pos) (tT B W (tst (op2 dEq f1 f2))) := d_tcmp (op_eqP hK hu) ad_eq fl_eq h1 h2 (nomark _)
theorem t_ne (hK : B.P.K = X.K) (hu : X.A.units + 64 < cLine) (h1 : PE X e1 (tD B W E1 f1)) (h2 : PE X e2 (tD B W E2 f2)) : PT X (.Compare e1 [.NotEq] [e2] pos) (tT B W (tst (op2 dNe f1 f2))) := d_tcmp (op_neP hK hu) ad_ne fl_ne h1 h2 (nomark _)
theorem t_lt (h1 : PE X e1 (tD B W E1 f1)) (h2 : PE X e2 (tD B W E2 f2)) : PT X (.Compare e1 [.Lt] [e2] pos) (tT B W (tst (op2 dLt f1 f2))) := d_tcmp op_ltA ad_cmp fl_cmp h1 h2 (nomark _)
theorem t_le (h1 : PE X e1 (tD B W E1 f1)) (h2 : PE X e2 (tD B W E2 f2)) : PT X (.Compare e1 [.LtE] [e2] pos) (tT B W (tst (op2 dLe f1 f2))) := d_tcmp op_leA ad_cmp fl_cmp h1 h2 (nomark _)
theorem t_gt (h1 : PE X e1 (tD B W E1 f1)) (h2 : PE X e2 (tD B W E2 f2)) : PT X (.Compare e1 [.Gt] [e2] pos) (tT B W (tst (op2 dGt f1 f2))) := d_tcmp op_gtA ad_cmp fl_cmp h1 h2 (nomark _)
theorem t_ge (h1 : PE X e1 (tD B W E1 f1)) (h2 : PE X e2 (tD B W E2 f2)) : PT X (.Compare e1 [.GtE] [e2] pos) (tT B W (tst (op2 dGe f1 f2))) := d_tcmp op_geA ad_cmp fl_cmp h1 h2 (nomark _)
theorem t_is (h1 : PE X e1 (tD B W E1 f1)) (h2 : PE X e2 (tD B W E2 f2)) : PT X (.Compare e1 [.Is] [e2] pos) (tT B W (tst (op2 dIs f1 f2))) := d_tcmp (op_isBl.or op_isN) ad_is fl_is h1 h2 (nomark _)
theorem t_isNot (h1 : PE X e1 (tD B W E1 f1)) (h2 : PE X e2 (tD B W E2 f2)) : PT X (.Compare e1 [.IsNot] [e2] pos) (tT B W (tst (op2 dIsNot f1 f2))) := d_tcmp (op_notBl.or op_notN) ad_isNot fl_isNot h1 h2 (nomark _)
theorem t_in (hK : B.P.K = X.K) (hu : X.A.units + 64 < cLine) (h1 : PE X e1 (tD B W E1 f1)) (h2 : PE X e2 (tD B W E2 f2)) (hm : behindInMarks .In e2 = false := by rfl) : PT X (.Compare e1 [.In] [e2] pos) (tT B W (tst (op2 dIn f1 f2))) := d_tcmp (op_inA hK hu) ad_in fl_in h1 h2 hm
theorem t_notIn (hK : B.P.K = X.K) (hu : X.A.units + 64 < cLine) (h1 : PE X e1 (tD B W E1 f1)) (h2 : PE X e2 (tD B W E2 f2)) (hm : behindInMarks .NotIn e2 = false := by rfl) : PT X (.Compare e1 [.NotIn] [e2] pos) (tT B W (tst (op2 dNotIn f1 f2))) := d_tcmp (op_notInA hK hu) ad_notIn fl_notIn h1 h2 hm
theorem d_one {op : BoolOp} (h1 : PE X e1 (tD B W E1 f1)) : PE X (.BoolOp op [e1] pos) (tD B W E1 f1) := pe_one h1
theorem v_and {rest : List Expr} (h1 : PE X e1 (tD B W E1 f1)) (h2 : PE X (.BoolOp .And (e2 :: rest) pos) (tD B W E2 f2)) : PE X (.BoolOp .And (e1 :: e2 :: rest) pos) (tD B W E2 (andV f1 f2)) :=
  (pe_and h1 h2).imp fun σ H Q ⟨ρ, As, S, q⟩ => tD_bind S q fun d v H1 s1 S1 r1 q1 => by
    cases d with
    | bl b =>
      cases r1
      refine ⟨b, rfl, ?_⟩
      cases b with
      | true => exact ⟨ρ, As, S1, imp_same s1 q1⟩
      | false => exact q1 _ H1 s1 (.bl _)
    | _ => exact q1.elim
theorem v_or {rest : List Expr} (h1 : PE X e1 (tD B W E1 f1)) (h2 : PE X (.BoolOp .Or (e2 :: rest) pos) (tD B W E2 f2)) : PE X (.BoolOp .Or (e1 :: e2 :: rest) pos) (tD B W E2 (orV f1 f2)) :=
  (pe_or h1 h2).imp fun σ H Q ⟨ρ, As, S, q⟩ => tD_bind S q fun d v H1 s1 S1 r1 q1 => by
    cases d with
    | bl b =>
      cases r1
      refine ⟨b, rfl, ?_⟩
      cases b with
      | false => exact ⟨ρ, As, S1, imp_same s1 q1⟩
      | true => exact q1 _ H1 s1 (.bl _)
    | _ => exact q1.elim
theorem d_globI {i : Int} (hg : Gl X x) (hm : ∃ t, X.mg x = some (.int i t)) (hd : (x == ("__debug__" : Str)) = false := by decide) : PE X (.Name x pos) (tD B W [] (con (.int i))) := by
  obtain ⟨t, hm⟩ := hm
  exact d_glob (v := .int i) hg hm ⟨t, rfl⟩ (fun _ => .int _) hd
theorem d_globS {z : Str} (hg : Gl X x) (hm : ∃ t, X.mg x = some (.str z t)) (cs : List Nat) (hz : z.cps.toList = cs) (hd : (x == ("__debug__" : Str)) = false := by decide) : PE X (.Name x pos) (tD B W [] (con (.str cs))) := by
  obtain ⟨t, hm⟩ := hm
  exact d_glob (v := .str z) hg hm ⟨t, rfl⟩ (fun _ => rep_of hz) hd
/-! ### x += e -/
def augS (i : Nat) (g : D → D → Option D) (E : List Nat) (f : En → R D) : En → Out := fun ρ => (var i ρ).out ρ fun a => (f ρ).out ρ fun b => match g a b with
  | some d => .nx ((frzIf d E ρ).set i (some (.sh d)))
  | none => .st
end

/-! ## the end of a law -/
section
theorem end_law {l : PySem.W.OpenLaw} {n k : Nat} {q : Program} {loose : List Str} {XP : (Str → Option Value) → Heap → Prop} {YP : World → Heap → Prop} {d : DefRec} {x : Str} {m : List D → R OD}
    (hn : l.most = some n) (hn2 : n ≤ sizeLine) (hdf : d.params.defaults = []) (hr : Room k callerA)
    (F : ∀ (w : World) (mg : Str → Option Value) (fa : Addr) (h : Heap), YP w h → h.Ns mainGlobals mg → mg d.name = some (.ref fa) →
      ∃ (K : PySem.W.Frag) (fd : FuncData), K.In h ∧ (∀ (s : Shared) (u : Value), BindsTo s fd ⟨[u], []⟩ [(x, u)]) ∧
        ∀ base : Heap, K.In base → base.Ns mainGlobals mg → FnOk l.prog w K mg base (L2.CX l.prog w) k fa fd [x] (spD ⟨K, mg, none⟩ 1 m))
    (hm : ∀ ns : List Int, ns.length ≤ n → (∀ z ∈ ns, Builtin.Int.intBits z ≤ 1048576) → m [.scr ns] = .ok (.sh (.bl true))) :
    PySem.W.WalkO q loose XP YP l.row.toRowW d [] (fun f vs => PySem.call f vs) :=
  Att.attach_callB hn hdf fun w sa sb mg mb fa o pm cd doc a vs ns G Y ho hd hcd hmg hobj hints hlen hbits hg => by
    obtain ⟨K, fd, KX, hb, hF⟩ := F w mg fa _ Y G.T.g hmg
    have big : ns.length ≤ sizeLine := Nat.le_trans hlen hn2
    apply law_call KX G.T.g G.T.b G.T.builtins G.T.nolimit hg hobj hints big hr hF hb
    · intro H hO hS
      have e : cut H (fun _ => False) = H := funext fun b => cut_out fun z => z
      refine ⟨rfl, fun _ => False, [.scr ns], fun _ z => z.elim, .cons (by rw [e]; exact .scr hS) .nil, ?_⟩
      rw [hm ns hlen hbits]
      intro v A H' _ _ _ r
      cases r with
      | sh r => cases r; rfl
    · intro H e s' z
      obtain ⟨_, _, _, _, _, _, _, _, _, _, z⟩ := z
      revert z
      simp
end
end DL
set_option Elab.async false
set_option linter.all false
set_option maxRecDepth 100000
namespace DL
open PySem PySem.Spec PyProof.Rows L2

/-! ## plain reasoning: what the readings answer -/
@[simp] theorem dlt_int (i j : Int) : op2 dLt (con (.int i)) (con (.int j)) [] = .ok (.bl (decide (i < j))) := rfl
theorem lstF_eq (xs : List D) : lstF xs = .lst (xs.map OD.sh) := rfl
/-- what a turn of a loop leaves: K of the slots, Z of an answer -/
@[irreducible] def Out.lk (K : En → Prop) (Z : OD → Prop) : Out → Prop
  | .nx ρ => K ρ
  | .ct ρ => K ρ
  | .rt od _ => Z od
  | _ => False
@[simp] theorem lk_nx (K : En → Prop) (Z : OD → Prop) (ρ : En) : (Out.nx ρ).lk K Z = K ρ := by unfold Out.lk; rfl
@[simp] theorem lk_ct (K : En → Prop) (Z : OD → Prop) (ρ : En) : (Out.ct ρ).lk K Z = K ρ := by unfold Out.lk; rfl
@[simp] theorem lk_rt (K : En → Prop) (Z : OD → Prop) (od : OD) (ρ : En) : (Out.rt od ρ).lk K Z = Z od := by unfold Out.lk; rfl
@[irreducible] def bk (o : Option En) (K : En → Prop) : Prop := match o with
  | some ρ => K ρ
  | none => False
@[simp] theorem bk_some (ρ : En) (K : En → Prop) : bk (some ρ) K = K ρ := by unfold bk; rfl
/-- a loop that may leave by a return: Z tells of the way out -/
theorem loop_rt {fg : List Nat} {bnd : D → En → Option En} {body : En → Out} : ∀ (ds : List D) (I : Nat → En → Prop) (Z : Nat → OD → Prop) (ρ : En), I 0 ρ →
    (∀ k d ρ, ds[k]? = some d → I k ρ → bk (bnd d ρ) fun ρ1 => (body ρ1).lk (fun ρ2 => I (k + 1) (fgt fg ρ2)) (Z k)) →
    (∃ ρ', loopS fg bnd body ds ρ = .nx ρ' ∧ I ds.length ρ') ∨ ∃ k od ρ2, k < ds.length ∧ loopS fg bnd body ds ρ = .rt od ρ2 ∧ Z k od
  | [], I, Z, ρ, h0, hs => .inl ⟨ρ, rfl, h0⟩
  | d :: ds, I, Z, ρ, h0, hs => by
    have h1 := hs 0 d ρ rfl h0
    cases e1 : bnd d ρ with
    | some ρ1 =>
      rw [e1, bk_some] at h1
      have next : ∀ ρ2, I (0 + 1) (fgt fg ρ2) → (body ρ1 = .nx ρ2 ∨ body ρ1 = .ct ρ2) → (∃ ρ', loopS fg bnd body (d :: ds) ρ = .nx ρ' ∧ I (d :: ds).length ρ') ∨ ∃ k od ρ2, k < (d :: ds).length ∧ loopS fg bnd body (d :: ds) ρ = .rt od ρ2 ∧ Z k od := fun ρ2 h1 e2 => by
        rcases loop_rt (fg := fg) (bnd := bnd) (body := body) ds (fun k => I (k + 1)) (fun k => Z (k + 1)) _ h1 fun k d ρ e h => hs (k + 1) d ρ (by rw [List.getElem?_cons_succ]; exact e) h with ⟨ρ', e3, h3⟩ | ⟨k, od, ρ3, hk, e3, h3⟩
        · refine .inl ⟨ρ', ?_, h3⟩
          rw [loopS, e1]
          rcases e2 with e2 | e2 <;> (simp only [e2]; exact e3)
        · refine .inr ⟨k + 1, od, ρ3, Nat.succ_lt_succ hk, ?_, h3⟩
          rw [loopS, e1]
          rcases e2 with e2 | e2 <;> (simp only [e2]; exact e3)
      cases e2 : body ρ1 with
      | nx ρ2 => rw [e2, lk_nx] at h1; exact next ρ2 h1 (.inl e2)
      | ct ρ2 => rw [e2, lk_ct] at h1; exact next ρ2 h1 (.inr e2)
      | rt od ρ2 =>
        rw [e2, lk_rt] at h1
        refine .inr ⟨0, od, ρ2, Nat.succ_pos _, ?_, h1⟩
        rw [loopS, e1]
        simp only [e2]
      | ex c fs ρ2 => rw [e2] at h1; unfold Out.lk at h1; exact h1.elim
      | bk ρ2 => rw [e2] at h1; unfold Out.lk at h1; exact h1.elim
      | st => rw [e2] at h1; unfold Out.lk at h1; exact h1.elim
    | none => rw [e1] at h1; unfold bk at h1; exact h1.elim
/-- a loop that runs to its end, by what stands ahead of each turn -/
theorem loop_inv {fg : List Nat} {bnd : D → En → Option En} {body : En → Out} (ds : List D) (I : Nat → En → Prop) (ρ : En) (h0 : I 0 ρ)
    (hs : ∀ k d ρ, ds[k]? = some d → I k ρ → bk (bnd d ρ) fun ρ1 => (body ρ1).lk (fun ρ2 => I (k + 1) (fgt fg ρ2)) fun _ => False) : ∃ ρ', loopS fg bnd body ds ρ = .nx ρ' ∧ I ds.length ρ' := by
  rcases loop_rt (fg := fg) (bnd := bnd) (body := body) ds I (fun _ _ => False) ρ h0 hs with h | ⟨k, od, ρ2, _, _, h⟩
  · exact h
  · exact h.elim
theorem ifS_t {t : En → R Bool} {a b : En → Out} {ρ : En} (h : t ρ = .ok true) : ifS t a b ρ = a ρ := by unfold ifS; rw [h]; rfl
theorem ifS_f {t : En → R Bool} {a b : En → Out} {ρ : En} (h : t ρ = .ok false) : ifS t a b ρ = b ρ := by unfold ifS; rw [h]; rfl
theorem seqS_nx {s t : En → Out} {ρ ρ' : En} (h : s ρ = .nx ρ') : seqS s t ρ = t ρ' := by unfold seqS; rw [h]; rfl
theorem abs_eq (c : Int) : (if c < 0 then -c else c) = (c.natAbs : Int) := by split <;> omega
theorem divW_ok {j : Int} (h : 0 < j) (h2 : j < 2147483648) : divW j = true := by
  unfold divW
  rw [Bool.and_eq_true]
  refine ⟨decide_eq_true h, decide_eq_true ?_⟩
  have h0 : j.natAbs ≠ 0 := by omega
  have : j.natAbs.log2 < 31 := (Nat.log2_lt h0).mpr (by omega)
  omega
theorem mulOk_r {i j : Int} (h : j.natAbs < 18446744073709551616) : mulOk i j = true := by
  unfold mulOk
  rw [decide_eq_true h]
  simp
theorem mulOk_l {i j : Int} (h : i.natAbs < 18446744073709551616) : mulOk i j = true := by
  unfold mulOk
  rw [decide_eq_true h]
  simp
@[simp] theorem rngL_len (lo : Int) (n : Nat) : (rngL lo n).length = n := by simp [rngL]
@[simp] theorem rngC_len (lo c : Int) (n : Nat) : (rngC lo c n).length = n := by simp [rngC]
theorem rngL_get {lo : Int} {n k : Nat} {d : D} (h : (rngL lo n)[k]? = some d) : k < n ∧ d = .int (lo + k) := by
  have hk : k < n := by have := (List.getElem?_eq_some_iff.mp h).1; simpa using this
  unfold rngL at h
  rw [List.getElem?_map, List.getElem?_range hk] at h
  exact ⟨hk, by cases h; rfl⟩
theorem rngC_get {lo c : Int} {n k : Nat} {d : D} (h : (rngC lo c n)[k]? = some d) : k < n ∧ d = .int (lo + k * c) := by
  have hk : k < n := by have := (List.getElem?_eq_some_iff.mp h).1; simpa using this
  unfold rngC at h
  rw [List.getElem?_map, List.getElem?_range hk] at h
  exact ⟨hk, by cases h; rfl⟩
theorem rngL_flat (lo : Int) (n : Nat) : (rngL lo n).all D.flat = true := by simp [rngL, D.flat]
theorem rngC_flat (lo c : Int) (n : Nat) : (rngC lo c n).all D.flat = true := by simp [rngC, D.flat]
theorem atI_nat {α : Type} (xs : List α) (i : Nat) (h : i < xs.length) : L2.atI xs (i : Int) = some (xs[i]'h) := by
  unfold L2.atI L2.ixN
  rw [if_pos (by omega), if_pos (by omega)]
  simp
theorem atI_zero {α : Type} (x : α) (xs : List α) : L2.atI (x :: xs) 0 = some x := atI_nat (x :: xs) 0 (by simp)
end DL
set_option Elab.async false
set_option linter.all false
set_option maxRecDepth 100000
namespace DLC
open PySem L2 DL
def l1__law_draw : En → Out := (ifS (andT (tst (var 4)) (tst (op2 dGe (var 3) (op2 dIx (var 1) (var 5))))) (seqS (appS 2 [] (op2 dMod (opA dInt (aCons (var 3) aNil)) (op2 dIx (var 1) (var 5))))
    (setS 3 [] (op2 dDiv (var 3) (op2 dIx (var 1) (var 5))))) (seqS (setS 6 [] (op2 dMod (opA dInt (aCons (op2 dAdd (op2 dMul (opA dAbs (aCons (var 0) aNil)) (con (.int 48271))) (op2 dMul (op2 dAdd (var 5) (con (.int 1))) (con (.int 69621)))) aNil)) (con (.int 2147483647))))
    (seqS (setS 6 [] (op2 dMod (opA dInt (aCons (op2 dAdd (op2 dMul (var 6) (con (.int 16807))) (op2 dMul (op2 dAdd (var 5) (con (.int 1))) (con (.int 40692)))) aNil)) (con (.int 2147483399))))
    (appS 2 [] (op2 dMod (opA dInt (aCons (var 6) aNil)) (op2 dIx (var 1) (var 5)))))))
def b__law_draw : En → Out := (seqS (setF 2 [] (lstE aNil))
    (seqS (setS 3 [] (opA dAbs (aCons (var 0) aNil)))
    (seqS (setS 4 [] (op2 dGe (var 3) (con (.int 1000000000000000000))))
    (seqS (forS [] [5, 6] (bName 5) (rgE rgF1 (aCons (opA dLen (aCons (var 1) aNil)) aNil)) l1__law_draw)
    (retV 2)))))
def m__law_draw : List D → R OD := mOf 2 7 b__law_draw
def b__law_cell : En → Out := (seqS (ifS (tst (op2 dLt (var 1) (opA dLen (aCons (var 0) aNil)))) (retS ([0] ++ [1]) (op2 dIx (var 0) (var 1))) nxS)
    (retS [] (con (.int 0))))
def m__law_cell : List D → R OD := mOf 2 2 b__law_cell
theorem law_cell (ns : List Int) (k : Nat) : m__law_cell [.scr ns, .int k] = .ok (.sh (.int (ns.getD k 0))) := by
  unfold m__law_cell b__law_cell
  by_cases h : k < ns.length
  · simp [mOf, seqS, exprS, setS, setF, retS, retF, retV, retN, nxS, ifS, op1, op2, op2F, aNil, aCons, opA, opAF, erE, callE, tst, andT, orT, notT, andV, orV, notV, asB, var, con, sliceE, sliceF, pI, pN, asI, ifE, lstE, tupE, strOp, asS, frzIf, frzO, frz, frz1, D.flat, OD.fl_sh, List.replicate, fgt, fgt1, bName, dInt, dAbs, okSz, okLen, h, atI_nat ns k h]
  · have : ns[k]? = none := by simp; omega
    simp [mOf, seqS, exprS, setS, setF, retS, retF, retV, retN, nxS, ifS, op1, op2, op2F, aNil, aCons, opA, opAF, erE, callE, tst, andT, orT, notT, andV, orV, notV, asB, var, con, sliceE, sliceF, pI, pN, asI, ifE, lstE, tupE, strOp, asS, frzIf, frzO, frz, frz1, D.flat, OD.fl_sh, List.replicate, fgt, fgt1, bName, dInt, dAbs, okSz, okLen, h, this]
def drawnI (ls : List Int) (row : List Int) : Prop := ∀ i (h : i < row.length), ∃ (h2 : i < ls.length), 0 ≤ row[i] ∧ row[i] < ls[i]
theorem drawn_app {ls row : List Int} (h : drawnI ls row) {x : Int} (h1 : row.length < ls.length) (h2 : 0 ≤ x) (h3 : x < ls[row.length]) : drawnI ls (row ++ [x]) := by
  intro i hi
  by_cases e : i < row.length
  · obtain ⟨a, b⟩ := h i e
    refine ⟨a, ?_⟩
    rw [List.getElem_append_left e]; exact b
  · have : i = row.length := by simp at hi; omega
    subst this
    refine ⟨h1, ?_⟩
    simp
    exact ⟨h2, h3⟩
def eD (c : Int) (ls row : List Int) (rest : Int) (g : Bool) (k m : Option OD) : En := [some (.sh (.int c)), some (.sh (.lst (ls.map .int))), some (.lst (row.map fun i => .sh (.int i))), some (.sh (.int rest)), some (.sh (.bl g)), k, m]
theorem dr_b {c : Int} {ls row : List Int} {rest : Int} {g : Bool} {m : Option OD} (k : Int) : bName 5 (.int k) (eD c ls row rest g none m) = some (eD c ls row rest g (some (.sh (.int k))) m) := rfl
section
variable {c : Int} {ls row : List Int} {rest l : Int} {g : Bool} {m : Option OD} {k : Nat}
theorem dr_t (hx : L2.atI (ls.map D.int) (k : Int) = some (.int l)) : (andT (tst (var 4)) (tst (op2 dGe (var 3) (op2 dIx (var 1) (var 5))))) (eD c ls row rest g (some (.sh (.int k))) m) = .ok (g && decide (l ≤ rest)) := by
  unfold eD
  cases g <;> simp [mOf, seqS, exprS, setS, setF, retS, retF, retV, retN, nxS, ifS, op1, op2, op2F, aNil, aCons, opA, opAF, erE, callE, tst, andT, orT, notT, andV, orV, notV, asB, var, con, sliceE, sliceF, pI, pN, asI, ifE, lstE, tupE, strOp, asS, frzIf, frzO, frz, frz1, D.flat, OD.fl_sh, List.replicate, fgt, fgt1, bName, dInt, dAbs, okSz, okLen, hx]
theorem dr_1 (hx : L2.atI (ls.map D.int) (k : Int) = some (.int l)) (p1 : 0 < l) (hok : row.length < 16777216) : appS 2 [] (op2 dMod (opA dInt (aCons (var 3) aNil)) (op2 dIx (var 1) (var 5))) (eD c ls row rest g (some (.sh (.int k))) m) = .nx (eD c ls (row ++ [rest % l]) rest g (some (.sh (.int k))) m) := by
  unfold eD
  simp [mOf, seqS, exprS, setS, setF, retS, retF, retV, retN, nxS, ifS, op1, op2, op2F, aNil, aCons, opA, opAF, erE, callE, tst, andT, orT, notT, andV, orV, notV, asB, var, con, sliceE, sliceF, pI, pN, asI, ifE, lstE, tupE, strOp, asS, frzIf, frzO, frz, frz1, D.flat, OD.fl_sh, List.replicate, fgt, fgt1, bName, dInt, dAbs, okSz, okLen, hx, appS, ownL, keeps, hok, dMod, p1]
theorem dr_2 (hx : L2.atI (ls.map D.int) (k : Int) = some (.int l)) (hd : divW l = true) : setS 3 [] (op2 dDiv (var 3) (op2 dIx (var 1) (var 5))) (eD c ls row rest g (some (.sh (.int k))) m) = .nx (eD c ls row (rest / l) g (some (.sh (.int k))) m) := by
  unfold eD
  simp [mOf, seqS, exprS, setS, setF, retS, retF, retV, retN, nxS, ifS, op1, op2, op2F, aNil, aCons, opA, opAF, erE, callE, tst, andT, orT, notT, andV, orV, notV, asB, var, con, sliceE, sliceF, pI, pN, asI, ifE, lstE, tupE, strOp, asS, frzIf, frzO, frz, frz1, D.flat, OD.fl_sh, List.replicate, fgt, fgt1, bName, dInt, dAbs, okSz, okLen, hx, dDiv, hd]
theorem dr_3 : ∃ x : Int, setS 6 [] (op2 dMod (opA dInt (aCons (op2 dAdd (op2 dMul (opA dAbs (aCons (var 0) aNil)) (con (.int 48271))) (op2 dMul (op2 dAdd (var 5) (con (.int 1))) (con (.int 69621)))) aNil)) (con (.int 2147483647))) (eD c ls row rest g (some (.sh (.int k))) m) = .nx (eD c ls row rest g (some (.sh (.int k))) (some (.sh (.int x)))) := by
  have m1 : mulOk (c.natAbs : Int) 48271 = true := mulOk_r (by decide)
  have m2 : mulOk ((k : Int) + 1) 69621 = true := mulOk_r (by decide)
  unfold eD
  exact ⟨_, by simp [mOf, seqS, exprS, setS, setF, retS, retF, retV, retN, nxS, ifS, op1, op2, op2F, aNil, aCons, opA, opAF, erE, callE, tst, andT, orT, notT, andV, orV, notV, asB, var, con, sliceE, sliceF, pI, pN, asI, ifE, lstE, tupE, strOp, asS, frzIf, frzO, frz, frz1, D.flat, OD.fl_sh, List.replicate, fgt, fgt1, bName, dInt, dAbs, okSz, okLen, dMod, abs_eq, m1, m2]; rfl⟩
theorem dr_4 {x : Int} : ∃ y : Int, setS 6 [] (op2 dMod (opA dInt (aCons (op2 dAdd (op2 dMul (var 6) (con (.int 16807))) (op2 dMul (op2 dAdd (var 5) (con (.int 1))) (con (.int 40692)))) aNil)) (con (.int 2147483399))) (eD c ls row rest g (some (.sh (.int k))) (some (.sh (.int x)))) = .nx (eD c ls row rest g (some (.sh (.int k))) (some (.sh (.int y)))) := by
  have m3 : mulOk ((k : Int) + 1) 40692 = true := mulOk_r (by decide)
  have m4 : mulOk x 16807 = true := mulOk_r (by decide)
  unfold eD
  exact ⟨_, by simp [mOf, seqS, exprS, setS, setF, retS, retF, retV, retN, nxS, ifS, op1, op2, op2F, aNil, aCons, opA, opAF, erE, callE, tst, andT, orT, notT, andV, orV, notV, asB, var, con, sliceE, sliceF, pI, pN, asI, ifE, lstE, tupE, strOp, asS, frzIf, frzO, frz, frz1, D.flat, OD.fl_sh, List.replicate, fgt, fgt1, bName, dInt, dAbs, okSz, okLen, dMod, m3, m4]; rfl⟩
theorem dr_5 {x : Int} (hx : L2.atI (ls.map D.int) (k : Int) = some (.int l)) (p1 : 0 < l) (hok : row.length < 16777216) : appS 2 [] (op2 dMod (opA dInt (aCons (var 6) aNil)) (op2 dIx (var 1) (var 5))) (eD c ls row rest g (some (.sh (.int k))) (some (.sh (.int x)))) = .nx (eD c ls (row ++ [x % l]) rest g (some (.sh (.int k))) (some (.sh (.int x)))) := by
  unfold eD
  simp [mOf, seqS, exprS, setS, setF, retS, retF, retV, retN, nxS, ifS, op1, op2, op2F, aNil, aCons, opA, opAF, erE, callE, tst, andT, orT, notT, andV, orV, notV, asB, var, con, sliceE, sliceF, pI, pN, asI, ifE, lstE, tupE, strOp, asS, frzIf, frzO, frz, frz1, D.flat, OD.fl_sh, List.replicate, fgt, fgt1, bName, dInt, dAbs, okSz, okLen, hx, appS, ownL, keeps, hok, dMod, p1]
theorem dr_g (M : Int) : setS 4 [] (op2 dGe (var 3) (con (.int M))) [some (.sh (.int c)), some (.sh (.lst (ls.map .int))), some (.lst []), some (.sh (.int c.natAbs)), none, none, none] = .nx (eD c ls [] c.natAbs (decide (M ≤ (c.natAbs : Int))) none none) := rfl
theorem dr_f {k m : Option OD} : fgt [5, 6] (eD c ls row rest g k m) = eD c ls row rest g none none := rfl
end
theorem dr_loop (c : Int) (ls : List Int) (g : Bool) (r0 : Int) (hl : ∀ l ∈ ls, 0 < l ∧ l < 2147483648) (hn : ls.length < 1000) : ∃ (row : List Int) (rest : Int), loopS [5, 6] (bName 5) l1__law_draw (rngL 0 ls.length) (eD c ls [] r0 g none none) = .nx (eD c ls row rest g none none) ∧ row.length = ls.length ∧ drawnI ls row := by
  obtain ⟨ρ', e, h⟩ := loop_inv (fg := [5, 6]) (bnd := bName 5) (body := l1__law_draw) (rngL 0 ls.length)
    (fun k ρ => ∃ (row : List Int) (rest : Int), ρ = eD c ls row rest g none none ∧ row.length = k ∧ drawnI ls row)
    (eD c ls [] r0 g none none) ⟨[], r0, rfl, rfl, fun i h => absurd h (by simp)⟩ (by
      rintro k d ρ hd ⟨row, rest, rfl, hk, hr⟩
      obtain ⟨hkn, rfl⟩ := rngL_get hd
      have hx : L2.atI (ls.map D.int) (k : Int) = some (.int ls[k]) := by
        rw [atI_nat _ k (by simpa using hkn)]; simp
      obtain ⟨p1, p2⟩ := hl _ (List.getElem_mem hkn)
      have hne : ls[k] ≠ 0 := by omega
      have hd : divW ls[k] = true := divW_ok p1 p2
      have hok : row.length < 16777216 := by omega
      have ha : ∀ x : Int, drawnI ls (row ++ [x % ls[k]]) := fun x => drawn_app hr (by omega) (Int.emod_nonneg x hne) (by subst hk; exact Int.emod_lt_of_pos x p1)
      rw [Int.zero_add, dr_b, bk_some]
      unfold l1__law_draw
      cases g2 : (g && decide (ls[k] ≤ rest)) with
      | true =>
        rw [ifS_t ((dr_t hx).trans (by rw [g2])), seqS_nx (dr_1 hx p1 hok), dr_2 hx hd, lk_nx, dr_f]
        exact ⟨_, _, rfl, by simp [hk], ha rest⟩
      | false =>
        obtain ⟨x, e3⟩ := dr_3 (c := c) (ls := ls) (row := row) (rest := rest) (g := g) (m := none) (k := k)
        obtain ⟨y, e4⟩ := dr_4 (c := c) (ls := ls) (row := row) (rest := rest) (g := g) (x := x) (k := k)
        rw [ifS_f ((dr_t hx).trans (by rw [g2])), seqS_nx e3, seqS_nx e4, dr_5 hx p1 hok, lk_nx, dr_f]
        exact ⟨_, _, rfl, by simp [hk], ha y⟩)
  obtain ⟨row, rest, rfl, hk, hr⟩ := h
  rw [rngL_len] at hk
  exact ⟨row, rest, e, hk, hr⟩
theorem dr_h {c : Int} {ls : List Int} {g : Bool} {r0 : Int} {row : List Int} {rest : Int} (h0 : ls.length < 1000) (e : loopS [5, 6] (bName 5) l1__law_draw (rngL 0 ls.length) (eD c ls [] r0 g none none) = .nx (eD c ls row rest g none none)) :
    seqS (forS [] [5, 6] (bName 5) (rgE rgF1 (aCons (opA dLen (aCons (var 1) aNil)) aNil)) l1__law_draw) (retV 2) (eD c ls [] r0 g none none) = .rt (.lst (row.map fun i => .sh (.int i))) (eD c ls row rest g none none |>.set 2 none) := by
  rw [seqS_nx (ρ' := eD c ls row rest g none none)]
  · rfl
  · have h1 : rngOk (ls.length : Int) = true := by unfold rngOk; rw [Bool.and_eq_true]; exact ⟨decide_eq_true (by omega), decide_eq_true (by omega)⟩
    have : (rgE rgF1 (aCons (opA dLen (aCons (var 1) aNil)) aNil)) (eD c ls [] r0 g none none) = .ok (rngL 0 ls.length) := by
      unfold rgE
      rw [show (aCons (opA dLen (aCons (var 1) aNil)) aNil) (eD c ls [] r0 g none none) = .ok [.int ls.length] from by unfold eD; simp [mOf, seqS, exprS, setS, setF, retS, retF, retV, retN, nxS, ifS, op1, op2, op2F, aNil, aCons, opA, opAF, erE, callE, tst, andT, orT, notT, andV, orV, notV, asB, var, con, sliceE, sliceF, pI, pN, asI, ifE, lstE, tupE, strOp, asS, frzIf, frzO, frz, frz1, D.flat, OD.fl_sh, List.replicate, fgt, fgt1, bName, dInt, dAbs, okSz, okLen, dLen], R.bind_ok, rgF1, if_pos h1, Int.toNat_natCast]
    unfold forS
    rw [this, R.out_ok, rngL_flat, if_pos rfl, e]
theorem dr_i (c : Int) (ls : List Int) : setF 2 [] (lstE aNil) (([.int c, .lst (ls.map .int)] : List D).map (fun d => some (OD.sh d)) ++ List.replicate (7 - 2) none) = .nx [some (.sh (.int c)), some (.sh (.lst (ls.map .int))), some (.lst []), none, none, none, none] := by
  simp [mOf, seqS, exprS, setS, setF, retS, retF, retV, retN, nxS, ifS, op1, op2, op2F, aNil, aCons, opA, opAF, erE, callE, tst, andT, orT, notT, andV, orV, notV, asB, var, con, sliceE, sliceF, pI, pN, asI, ifE, lstE, tupE, strOp, asS, frzIf, frzO, frz, frz1, D.flat, OD.fl_sh, List.replicate, fgt, fgt1, bName, dInt, dAbs, okSz, okLen, lstF_eq]
theorem dr_j (c : Int) (ls : List Int) : setS 3 [] (opA dAbs (aCons (var 0) aNil)) [some (.sh (.int c)), some (.sh (.lst (ls.map .int))), some (.lst []), none, none, none, none] = .nx [some (.sh (.int c)), some (.sh (.lst (ls.map .int))), some (.lst []), some (.sh (.int c.natAbs)), none, none, none] := by simp [mOf, seqS, exprS, setS, setF, retS, retF, retV, retN, nxS, ifS, op1, op2, op2F, aNil, aCons, opA, opAF, erE, callE, tst, andT, orT, notT, andV, orV, notV, asB, var, con, sliceE, sliceF, pI, pN, asI, ifE, lstE, tupE, strOp, asS, frzIf, frzO, frz, frz1, D.flat, OD.fl_sh, List.replicate, fgt, fgt1, bName, dInt, dAbs, okSz, okLen, abs_eq]
theorem law_draw (c : Int) (ls : List Int) (hl : ∀ l ∈ ls, 0 < l ∧ l < 2147483648) (hn : ls.length < 1000) : ∃ row : List Int, m__law_draw [.int c, .lst (ls.map .int)] = .ok (.lst (row.map fun i => .sh (.int i))) ∧ row.length = ls.length ∧ drawnI ls row := by
  obtain ⟨M, hM⟩ : ∃ M : Int, M = 1000000000000000000 := ⟨_, rfl⟩
  obtain ⟨row, rest, e, hk, hr⟩ := dr_loop c ls (decide (M ≤ (c.natAbs : Int))) c.natAbs hl hn
  refine ⟨row, ?_, hk, hr⟩
  unfold m__law_draw b__law_draw mOf
  rw [← hM, if_pos (by rfl), seqS_nx (dr_i c ls), seqS_nx (dr_j c ls), seqS_nx (dr_g M), dr_h hn e]

/-! ## loops and comprehensions, once more -/
theorem rngOk_nat {n : Nat} (h : n < 1099511627776) : rngOk (n : Int) = true := by
  unfold rngOk
  rw [Bool.and_eq_true]
  exact ⟨decide_eq_true (by omega), decide_eq_true (by omega)⟩
theorem for_rng1 {fg : List Nat} {bnd : D → En → Option En} {fa : En → R (List D)} {body : En → Out} {ρ : En} {o : Out} {n : Nat} (hn : n < 1099511627776) (h : fa ρ = .ok [.int n]) (e : loopS fg bnd body (rngL 0 n) ρ = o) : forS [] fg bnd (rgE rgF1 fa) body ρ = o := by
  unfold forS rgE
  rw [h, R.bind_ok, rgF1, if_pos (rngOk_nat hn), Int.toNat_natCast, R.out_ok, rngL_flat, if_pos rfl, e]
theorem for_rng2 {fg : List Nat} {bnd : D → En → Option En} {fa : En → R (List D)} {body : En → Out} {ρ : En} {o : Out} {i n : Nat} (hi : i < 1099511627776) (hn : n < 1099511627776) (h : fa ρ = .ok [.int i, .int n]) (e : loopS fg bnd body (rngL i (n - i)) ρ = o) : forS [] fg bnd (rgE rgF2 fa) body ρ = o := by
  unfold forS rgE
  have : ((n : Int) - (i : Int)).toNat = n - i := by omega
  rw [h, R.bind_ok, rgF2, rngOk_nat hi, rngOk_nat hn, Bool.and_self, if_pos rfl, this, R.out_ok, rngL_flat, if_pos rfl, e]
theorem bk_imp {o : Option En} {K K' : En → Prop} (h : bk o K) (i : ∀ ρ, K ρ → K' ρ) : bk o K' := by
  cases o with
  | none => unfold bk at h; exact h.elim
  | some ρ => rw [bk_some] at h ⊢; exact i ρ h
theorem lcL_eq {α : Type} (c : α → D) (p : α → Bool) (g : α → D) {bnd : D → En → Option En} {t : En → R Bool} {f : En → R D} {ρ : En} : ∀ xs : List α, (∀ x ∈ xs, bk (bnd (c x) ρ) fun ρ1 => t ρ1 = .ok (p x) ∧ (p x = true → f ρ1 = .ok (g x))) → lcL bnd t f ρ (xs.map c) = .ok ((xs.filter p).map g)
  | [], h => rfl
  | x :: xs, h => by
    have ih := lcL_eq c p g xs fun y hy => h y (List.mem_cons_of_mem _ hy)
    have h0 := h x List.mem_cons_self
    rw [List.map_cons, lcL]
    cases e1 : bnd (c x) ρ with
    | none => rw [e1] at h0; unfold bk at h0; exact h0.elim
    | some ρ1 =>
      rw [e1, bk_some] at h0
      simp only
      rw [h0.1, R.nox_ok, R.bind_ok]
      cases q : p x with
      | true => rw [if_pos rfl, h0.2 q, R.nox_ok, R.bind_ok, ih, R.bind_ok, List.filter_cons_of_pos q]; rfl
      | false => rw [if_neg (by simp), ih, List.filter_cons_of_neg (by simp [q])]
theorem lcE_eq {α : Type} (xs : List α) (c : α → D) (p : α → Bool) (g : α → D) {Ee vs : List Nat} {bnd : D → En → Option En} {it : En → R (List D)} {t : En → R Bool} {f : En → R D} {ρ : En} (h : it ρ = .ok (xs.map c)) (hf : ((xs.map c).all D.flat || allSh Ee ρ) = true) (hl : xs.length < 16777216)
    (hx : ∀ x ∈ xs, bk (bnd (c x) (fgt vs ρ)) fun ρ1 => t ρ1 = .ok (p x) ∧ (p x = true → f ρ1 = .ok (g x))) : lcE Ee vs bnd it t f ρ = .ok (lstF ((xs.filter p).map g)) := by
  unfold lcE
  have ho : okLen (xs.map c).length = true := by unfold okLen; rw [List.length_map]; exact decide_eq_true hl
  rw [h, R.bind_ok, hf, ho, Bool.and_self, if_pos rfl, lcL_eq c p g xs hx, R.bind_ok, lstF_eq]
theorem lcE_map {α : Type} (xs : List α) (c : α → D) (g : α → D) {Ee vs : List Nat} {bnd : D → En → Option En} {it : En → R (List D)} {f : En → R D} {ρ : En} (h : it ρ = .ok (xs.map c)) (hf : ((xs.map c).all D.flat || allSh Ee ρ) = true) (hl : xs.length < 16777216)
    (hx : ∀ x ∈ xs, bk (bnd (c x) (fgt vs ρ)) fun ρ1 => f ρ1 = .ok (g x)) : lcE Ee vs bnd it tYesD f ρ = .ok (lstF (xs.map g)) := by
  have := lcE_eq xs c (fun _ => true) g (t := tYesD) (f := f) h hf hl fun x hx' => bk_imp (hx x hx') fun ρ1 h0 => ⟨rfl, fun _ => h0⟩
  rw [this, List.filter_eq_self.mpr fun _ _ => rfl]
theorem lcE_rng {Ee vs : List Nat} {bnd : D → En → Option En} {fa : En → R (List D)} {f : En → R D} {ρ : En} {n : Nat} (g : Nat → D) (h : fa ρ = .ok [.int n]) (hl : n < 16777216)
    (hx : ∀ x, x < n → bk (bnd (.int x) (fgt vs ρ)) fun ρ1 => f ρ1 = .ok (g x)) : lcE Ee vs bnd (rgE rgF1 fa) tYesD f ρ = .ok (lstF ((List.range n).map g)) := by
  refine lcE_map (List.range n) (fun k : Nat => .int (0 + k)) g ?_ ?_ (by simpa using hl) fun x hx' => ?_
  · unfold rgE
    rw [h, R.bind_ok, rgF1, if_pos (rngOk_nat (by omega)), Int.toNat_natCast]; rfl
  · rw [show (List.range n).map (fun k : Nat => D.int (0 + k)) = rngL 0 n from rfl, rngL_flat]; rfl
  · rw [Int.zero_add]; exact hx x (List.mem_range.mp hx')
/-! ## texts of # and . -/
def dS (C : List (List Nat)) : D := .lst (C.map .str)
theorem frzIf_flat {d : D} {E : List Nat} {ρ : En} (h : d.flat = true) : frzIf d E ρ = ρ := by unfold frzIf; rw [h]; rfl
theorem args1 {f : En → R D} {ρ : En} {a : D} (h : f ρ = .ok a) : aCons f aNil ρ = .ok [a] := by unfold aCons; rw [h]; rfl
theorem args2 {f g : En → R D} {ρ : En} {a b : D} (h : f ρ = .ok a) (h2 : g ρ = .ok b) : aCons f (aCons g aNil) ρ = .ok [a, b] := by
  have := args1 h2
  unfold aCons at this ⊢
  rw [h, R.bind_ok, this, R.bind_ok]
theorem args3 {f g k : En → R D} {ρ : En} {a b c : D} (h : f ρ = .ok a) (h2 : g ρ = .ok b) (h3 : k ρ = .ok c) : aCons f (aCons g (aCons k aNil)) ρ = .ok [a, b, c] := by
  have := args2 h2 h3
  unfold aCons at this ⊢
  rw [h, R.bind_ok, this, R.bind_ok]
theorem call1 {m : List D → R OD} {f : En → R D} {ρ : En} {a : D} (h : f ρ = .ok a) : callE m (aCons f aNil) ρ = m [a] := by unfold callE; rw [args1 h, R.bind_ok]
theorem call2 {m : List D → R OD} {f g : En → R D} {ρ : En} {a b : D} (h : f ρ = .ok a) (h2 : g ρ = .ok b) : callE m (aCons f (aCons g aNil)) ρ = m [a, b] := by unfold callE; rw [args2 h h2, R.bind_ok]
theorem call3 {m : List D → R OD} {f g k : En → R D} {ρ : En} {a b c : D} (h : f ρ = .ok a) (h2 : g ρ = .ok b) (h3 : k ρ = .ok c) : callE m (aCons f (aCons g (aCons k aNil))) ρ = m [a, b, c] := by unfold callE; rw [args3 h h2 h3, R.bind_ok]
theorem op2_ok {g : D → D → Option D} {f1 f2 : En → R D} {ρ : En} {a b d : D} (h1 : f1 ρ = .ok a) (h2 : f2 ρ = .ok b) (h : g a b = some d) : op2 g f1 f2 ρ = .ok d := by unfold op2; rw [h1, R.bind_ok, h2, R.bind_ok, h]; rfl
theorem op1_ok {g : D → Option D} {f1 : En → R D} {ρ : En} {a d : D} (h1 : f1 ρ = .ok a) (h : g a = some d) : op1 g f1 ρ = .ok d := by unfold op1; rw [h1, R.bind_ok, h]; rfl
theorem opA_ok {g : List D → Option D} {f : En → R D} {ρ : En} {a d : D} (h1 : f ρ = .ok a) (h : g [a] = some d) : opA g (aCons f aNil) ρ = .ok d := by unfold opA; rw [args1 h1, R.bind_ok, h]; rfl
theorem opAF_ok {g : List D → Option OD} {f : En → R D} {ρ : En} {a : D} {d : OD} (h1 : f ρ = .ok a) (h : g [a] = some d) : opAF g (aCons f aNil) ρ = .ok d := by unfold opAF; rw [args1 h1, R.bind_ok, h]; rfl
theorem tst_ok {f : En → R D} {ρ : En} {b : Bool} (h : f ρ = .ok (.bl b)) : tst f ρ = .ok b := by unfold tst; rw [h]; rfl
theorem orT_f {f g : En → R Bool} {ρ : En} {b : Bool} (h : f ρ = .ok false) (h2 : g ρ = .ok b) : orT f g ρ = .ok b := by unfold orT; rw [h, R.bind_ok]; exact h2
theorem orT_t {f g : En → R Bool} {ρ : En} (h : f ρ = .ok true) : orT f g ρ = .ok true := by unfold orT; rw [h, R.bind_ok]; rfl
theorem andT_t {f g : En → R Bool} {ρ : En} {b : Bool} (h : f ρ = .ok true) (h2 : g ρ = .ok b) : andT f g ρ = .ok b := by unfold andT; rw [h, R.bind_ok]; exact h2
theorem andT_f {f g : En → R Bool} {ρ : En} (h : f ρ = .ok false) : andT f g ρ = .ok false := by unfold andT; rw [h, R.bind_ok]; rfl
theorem dEq_int (i j : Int) : dEq (.int i) (.int j) = some (.bl (decide (i = j))) := by unfold dEq; simp; rfl
theorem dNe_int (i j : Int) : dNe (.int i) (.int j) = some (.bl (!decide (i = j))) := by unfold dNe; simp; rfl
theorem dLen_lst' (xs : List D) (n : Nat) (h : xs.length = n) : dLen [.lst xs] = some (.int n) := by subst h; rfl
theorem dLen_str' (xs : List Nat) (n : Nat) (h : xs.length = n) (hn : n ≤ 16777216) : dLen [.str xs] = some (.int n) := by subst h; rw [dLen_str, if_pos (by unfold okSz; exact decide_eq_true hn)]
theorem retS_ok {f : En → R D} {E : List Nat} {ρ : En} {d : D} (h : f ρ = .ok d) (hd : d.flat = true) : retS E f ρ = .rt (.sh d) ρ := by unfold retS; rw [h, R.out_ok, frzIf_flat hd]
theorem setS_ok {i : Nat} {f : En → R D} {E : List Nat} {ρ : En} {d : D} (h : f ρ = .ok d) (hd : d.flat = true) : setS i E f ρ = .nx (ρ.set i (some (.sh d))) := by unfold setS; rw [h, R.out_ok, frzIf_flat hd]
theorem setF_ok {i : Nat} {f : En → R OD} {E : List Nat} {ρ : En} {d : OD} (h : f ρ = .ok d) (hd : d.fl = true) : setF i E f ρ = .nx (ρ.set i (some d)) := by unfold setF frzO; rw [h, R.out_ok, if_pos hd]
theorem retF_ok {f : En → R OD} {E : List Nat} {ρ : En} {d : OD} (h : f ρ = .ok d) (hd : d.fl = true) : retF E f ρ = .rt d ρ := by unfold retF frzO; rw [h, R.out_ok, if_pos hd]
theorem seqS_rt {s t : En → Out} {ρ ρ' : En} {od : OD} (h : s ρ = .rt od ρ') : seqS s t ρ = .rt od ρ' := by unfold seqS; rw [h]; rfl
theorem flat_strs (C : List (List Nat)) : (C.map D.str).all D.flat = true := by simp [D.flat]
theorem fl_strs (C : List (List Nat)) : (lstF (C.map D.str)).fl = true := by rw [lstF_eq, OD.fl_lst]; simp [D.flat]
theorem mOf_rt {n N : Nat} {body : En → Out} {ds : List D} {ρ0 ρ : En} {od : OD} (hn : ds.length = n) (h0 : ds.map (fun d => some (OD.sh d)) ++ List.replicate (N - n) none = ρ0) (h : body ρ0 = .rt od ρ) : mOf n N body ds = .ok od := by
  unfold mOf
  rw [if_pos hn, h0, h]
theorem exprS_ok {f : En → R D} {ρ : En} {d : D} (h : f ρ = .ok d) : exprS f ρ = .nx ρ := by unfold exprS; rw [h]; rfl
theorem erE_ok {f : En → R OD} {ρ : En} {o : OD} (h : f ρ = .ok o) : erE f ρ = .ok o.er := by unfold erE; rw [h, R.bind_ok]
theorem joinN_one : ∀ ns : List Nat, joinN [] (ns.map fun c => [c]) = ns
  | [] => rfl
  | [x] => rfl
  | x :: y :: r => by
    have := joinN_one (y :: r)
    rw [List.map_cons] at this
    rw [List.map_cons, List.map_cons, joinN, this]; rfl
theorem sum_ones : ∀ ns : List Nat, ((ns.map fun c => [c]).map List.length).sum = ns.length
  | [] => rfl
  | x :: r => by rw [List.map_cons, List.map_cons, List.sum_cons, sum_ones r, List.length_cons]; simp; omega
theorem joinOk_one (ns : List Nat) (h : ns.length ≤ 16777216) : joinOk [] (ns.map fun c => [c]) = true := by
  unfold joinOk
  apply decide_eq_true
  rw [sum_ones]
  simp
  exact h
theorem join_chars {f : En → R D} {ρ : En} {ns : List Nat} (h : f ρ = .ok (.lst (ns.map fun c => .str [c]))) (hl : ns.length ≤ 16777216) : strOp dJoin (con (.str [])) f ρ = .ok (.str ns) := by
  have e : strsOf (ns.map fun c => D.str [c]) = some (ns.map fun c => [c]) := by
    rw [show (ns.map fun c => D.str [c]) = (ns.map fun c => [c]).map D.str from by rw [List.map_map]; rfl, strsOf_map]
  unfold strOp con asS
  rw [R.bind_ok, R.ofO_some, R.bind_ok, h, R.bind_ok, dJoin_lst, e, Option.bind_some, if_pos (joinOk_one ns hl), R.ofO_some, joinN_one]
end DLC
set_option Elab.async false
set_option linter.all false
set_option maxRecDepth 100000
set_option maxHeartbeats 0
namespace K02
open PySem PySem.Spec PyProof.Rows L2 DL
abbrev top (i : Nat) : Stmt := PySem.Challenge.pw_heddlebook_k02_endless_cloths.main.body.getD i (.Pass ⟨0, 0, 0, 0⟩)
/-! ### _law_draw: slots 0=cell 1=limits 2=row 3=rest 4=great 5=k 6=mixed -/
def l1__law_draw : En → Out := (ifS (andT (tst (var 4)) (tst (op2 dGe (var 3) (op2 dIx (var 1) (var 5))))) (seqS (appS 2 [] (op2 dMod (opA dInt (aCons (var 3) aNil)) (op2 dIx (var 1) (var 5))))
    (setS 3 [] (op2 dDiv (var 3) (op2 dIx (var 1) (var 5))))) (seqS (setS 6 [] (op2 dMod (opA dInt (aCons (op2 dAdd (op2 dMul (opA dAbs (aCons (var 0) aNil)) (con (.int 48271))) (op2 dMul (op2 dAdd (var 5) (con (.int 1))) (con (.int 69621)))) aNil)) (con (.int 2147483647))))
    (seqS (setS 6 [] (op2 dMod (opA dInt (aCons (op2 dAdd (op2 dMul (var 6) (con (.int 16807))) (op2 dMul (op2 dAdd (var 5) (con (.int 1))) (con (.int 40692)))) aNil)) (con (.int 2147483399))))
    (appS 2 [] (op2 dMod (opA dInt (aCons (var 6) aNil)) (op2 dIx (var 1) (var 5)))))))
def b__law_draw : En → Out := (seqS (setF 2 [] (lstE aNil))
    (seqS (setS 3 [] (opA dAbs (aCons (var 0) aNil)))
    (seqS (setS 4 [] (op2 dGe (var 3) (con (.int 1000000000000000000))))
    (seqS (forS [] [5, 6] (bName 5) (rgE rgF1 (aCons (opA dLen (aCons (var 1) aNil)) aNil)) l1__law_draw)
    (retV 2)))))
def m__law_draw : List D → R OD := mOf 2 7 b__law_draw
theorem sc__law_draw : FnScope ["cell", "limits", "row", "rest", "great", "k", "mixed"] ["cell", "limits"] (defScope (top 17)) := C8.fnScope_by (by decide +kernel)
theorem t__law_draw {P : Program} {w : World} {K : PySem.W.Frag} {mg : Str → Option Value} {base : Heap} {f : Addr} (n_abs : mg "abs" = none) (n_len : mg "len" = none) (n_range : mg "range" = none) (n_int : mg "int" = none) (cdv : Value) (A : Around) (outer : List Env) (s : Shared) (H : Hp) (E : XK) (O : Addr → Prop) (hr : Room 0 (A.deeper (envOfC "_law_draw" (defScope (top 17)) s.heap.objs.size f cdv))) : PSs (cxOf (L2.CX P w) P w K mg base ["cell", "limits", "row", "rest", "great", "k", "mixed"] "_law_draw" (defScope (top 17)) f cdv A outer s H E) (defBody (top 17)) (tS ⟨⟨K, mg, none⟩, O, fun _ => False, H⟩ (fun c d _ H' => E c d H') ([2] ++ ([3] ++ ([4] ++ (([5] ++ (([2] ++ [3]) ++ ([6] ++ ([6] ++ [2])))) ++ [])))) b__law_draw) := by
  have hu := hu64 hr
  have nd := (sc__law_draw).nd
  exact (DL.s_cons (DL.s_setF 2 nd (by rfl) (by first | exact Or.inl (by rfl) | exact Or.inr (by rfl)) (DL.f_lst DL.d_anil))
    (DL.s_cons (DL.s_set 3 nd (by rfl) (by first | exact Or.inl (by rfl) | exact Or.inr (by rfl)) (DL.d_abs (by rfl) n_abs (DL.d_acons (DL.d_var 0 (pv 0)) DL.d_anil)))
    (DL.s_cons (DL.s_set 4 nd (by rfl) (by first | exact Or.inl (by rfl) | exact Or.inr (by rfl)) (DL.d_ge (DL.d_var 3 (pv 3)) DL.d_int))
    (DL.s_cons (DL.s_for [5, 6] (passes_of (by rfl)) (by rfl) (DL.i_range1 (by rfl) n_range (DL.d_acons (DL.d_len (by rfl) (by rfl) n_len (DL.d_acons (DL.d_var 1 (pv 1)) DL.d_anil)) DL.d_anil)) (DL.g_name 5 nd (by rfl) (by first | exact Or.inl (by rfl) | exact Or.inr (by rfl)))
    (DL.s_one (DL.s_if (DL.d_and (DL.t_of (DL.d_var 4 (pv 4))) (DL.t_and1 (DL.t_ge (DL.d_var 3 (pv 3)) (DL.d_ix (by rfl) (fun _ _ => (by rfl)) (DL.d_var 1 (pv 1)) (DL.d_var 5 (pv 5)))))).pt (DL.s_cons (DL.s_app 2 (pv 2) (DL.d_mod (DL.d_toInt (by rfl) n_int (DL.d_acons (DL.d_var 3 (pv 3)) DL.d_anil)) (DL.d_ix (by rfl) (fun _ _ => (by rfl)) (DL.d_var 1 (pv 1)) (DL.d_var 5 (pv 5)))))
    (DL.s_one (DL.s_set 3 nd (by rfl) (by first | exact Or.inl (by rfl) | exact Or.inr (by rfl)) (DL.d_div (DL.d_var 3 (pv 3)) (DL.d_ix (by rfl) (fun _ _ => (by rfl)) (DL.d_var 1 (pv 1)) (DL.d_var 5 (pv 5))))))) (DL.s_cons (DL.s_set 6 nd (by rfl) (by first | exact Or.inl (by rfl) | exact Or.inr (by rfl)) (DL.d_mod (DL.d_toInt (by rfl) n_int (DL.d_acons (DL.d_add (DL.d_mul (DL.d_abs (by rfl) n_abs (DL.d_acons (DL.d_var 0 (pv 0)) DL.d_anil)) DL.d_int) (DL.d_mul (DL.d_add (DL.d_var 5 (pv 5)) DL.d_int) DL.d_int)) DL.d_anil)) DL.d_int))
    (DL.s_cons (DL.s_set 6 nd (by rfl) (by first | exact Or.inl (by rfl) | exact Or.inr (by rfl)) (DL.d_mod (DL.d_toInt (by rfl) n_int (DL.d_acons (DL.d_add (DL.d_mul (DL.d_var 6 (pv 6)) DL.d_int) (DL.d_mul (DL.d_add (DL.d_var 5 (pv 5)) DL.d_int) DL.d_int)) DL.d_anil)) DL.d_int))
    (DL.s_one (DL.s_app 2 (pv 2) (DL.d_mod (DL.d_toInt (by rfl) n_int (DL.d_acons (DL.d_var 6 (pv 6)) DL.d_anil)) (DL.d_ix (by rfl) (fun _ _ => (by rfl)) (DL.d_var 1 (pv 1)) (DL.d_var 5 (pv 5)))))))))) (by decide))
    (DL.s_one (DL.s_retV 2 (fun _ z => z) (pv 2)))))))
theorem bi__law_draw {K : PySem.W.Frag} {f : Addr} {fd : FuncData} (F : FunD K "_law_draw" "_law_draw" (defArgs (top 17)) (defBody (top 17)) (defScope (top 17)) [] [] f fd) : Binds K fd ["cell", "limits"] [] := FunD.bindsN F fun _ _ _ _ _ _ us hl => match us, hl with | [_, _], _ => rfl
theorem ok__law_draw {P : Program} {w : World} {K : PySem.W.Frag} {mg : Str → Option Value} {base : Heap} {f : Addr} {fd : FuncData} (F : FunD K "_law_draw" "_law_draw" (defArgs (top 17)) (defBody (top 17)) (defScope (top 17)) [] [] f fd) (hg : mg "_law_draw" = some (.ref f)) (n_abs : mg "abs" = none) (n_len : mg "len" = none) (n_range : mg "range" = none) (n_int : mg "int" = none) : DefOk P w K mg base "_law_draw" 1 2 m__law_draw :=
  def_ok F hg sc__law_draw rfl (bi__law_draw F) (t__law_draw n_abs n_len n_range n_int)
/-! ### _law_cloth: slots 0=cell 1=most_picks 2=most_ends 3=d 4=picks 5=ends 6=rows 7=k 8=bits 9=e 10=bit -/
def l1__law_cloth : En → Out := (seqS (setF 8 (([] ++ ([] ++ [7])) ++ ([] ++ [])) (callE m__law_draw (aCons (op2 dAdd (op2 dDiv (var 0) (con (.int 7))) (op2 dMul (con (.int 31)) (var 7))) (aCons (erE (lcE [] [9] (bName 9) (rgE rgF1 (aCons (var 5) aNil)) tYesD (con (.int 4)))) aNil))))
    (appS 6 [] (strOp dJoin (con (.str [])) (erE (lcE [8] [10] (bName 10) (itE (var 8)) tYesD (op2 dIx (con (.str [46, 35])) (opA dInt (aCons (orV (op2 dLt (var 10) (con (.int 2))) (andV (op2 dEq (var 10) (con (.int 2))) (op2 dGt (op2 dIx (var 3) (con (.int 2))) (con (.int 3))))) aNil))))))))
def b__law_cloth : En → Out := (seqS (setF 3 ([0] ++ (([1] ++ ([2] ++ ([] ++ []))) ++ [])) (callE m__law_draw (aCons (var 0) (aCons (erE (lstE (aCons (var 1) (aCons (var 2) (aCons (con (.int 6)) aNil))))) aNil))))
    (seqS (setS 4 ([] ++ ([3] ++ [])) (op2 dAdd (con (.int 1)) (op2 dIx (var 3) (con (.int 0)))))
    (seqS (setS 5 ([] ++ ([3] ++ [])) (op2 dAdd (con (.int 1)) (op2 dIx (var 3) (con (.int 1)))))
    (seqS (setF 6 [] (lstE aNil))
    (seqS (forS [] [8] (bName 7) (rgE rgF1 (aCons (var 4) aNil)) l1__law_cloth)
    (seqS (ifS (tst (op2 dEq (op2 dIx (var 3) (con (.int 2))) (con (.int 0)))) (setF 6 ((([6] ++ []) ++ []) ++ [4]) (op2F fRep (erE (lstE (aCons (op2 dIx (var 6) (con (.int 0))) aNil))) (var 4))) nxS)
    (seqS (ifS (tst (op2 dEq (op2 dIx (var 3) (con (.int 2))) (con (.int 1)))) (setF 6 [] (lcE [] [7] (bName 7) (rgE rgF1 (aCons (var 4) aNil)) tYesD (strOp dJoin (con (.str [])) (erE (lcE [] [9] (bName 9) (rgE rgF1 (aCons (var 5) aNil)) tYesD (op2 dIx (con (.str [46, 35])) (op2 dMod (opA dInt (aCons (op2 dAdd (var 7) (var 9)) aNil)) (con (.int 2))))))))) nxS)
    (seqS (ifS (andT (tst (op2 dEq (op2 dIx (var 3) (con (.int 2))) (con (.int 2)))) (tst (op2 dGt (var 4) (con (.int 1))))) (setF 6 ([6] ++ [6]) (op2F fCat (sliceE (var 6) pN (pI (op2 dAdd (con (.int 1)) (op2 dDiv (var 4) (con (.int 2)))))) (sliceE (var 6) pN (pI (op2 dSub (op2 dSub (var 4) (con (.int 1))) (op2 dDiv (var 4) (con (.int 2)))))))) nxS)
    (retV 6)))))))))
def m__law_cloth : List D → R OD := mOf 3 11 b__law_cloth
theorem sc__law_cloth : FnScope ["cell", "most_picks", "most_ends", "d", "picks", "ends", "rows", "k", "bits", "e", "bit"] ["cell", "most_picks", "most_ends"] (defScope (top 18)) := C8.fnScope_by (by decide +kernel)
theorem t__law_cloth {P : Program} {w : World} {K : PySem.W.Frag} {mg : Str → Option Value} {base : Heap} {f : Addr} (c__law_draw : DefOk P w K mg base "_law_draw" 1 2 m__law_draw) (n_range : mg "range" = none) (n_int : mg "int" = none) (cdv : Value) (A : Around) (outer : List Env) (s : Shared) (H : Hp) (E : XK) (O : Addr → Prop) (hr : Room 1 (A.deeper (envOfC "_law_cloth" (defScope (top 18)) s.heap.objs.size f cdv))) : PSs (cxOf (L2.CX P w) P w K mg base ["cell", "most_picks", "most_ends", "d", "picks", "ends", "rows", "k", "bits", "e", "bit"] "_law_cloth" (defScope (top 18)) f cdv A outer s H E) (defBody (top 18)) (tS ⟨⟨K, mg, none⟩, O, fun _ => False, H⟩ (fun c d _ H' => E c d H') ([3] ++ ([4] ++ ([5] ++ ([6] ++ (([7] ++ ([8] ++ [6])) ++ (([6] ++ []) ++ (([6] ++ []) ++ (([6] ++ []) ++ [])))))))) b__law_cloth) := by
  have hu := hu64 hr
  have nd := (sc__law_cloth).nd
  exact (DL.s_cons (DL.s_setF 3 nd (by rfl) (by first | exact Or.inl (by rfl) | exact Or.inr (by rfl)) (DL.f_fn c__law_draw hr (by decide) (takes_of (by rfl) (by rfl) (by rfl) (by rfl)) (by rfl) (DL.d_acons (DL.d_var 0 (pv 0)) (DL.d_acons (DL.d_ofF (DL.f_lst (DL.d_acons (DL.d_var 1 (pv 1)) (DL.d_acons (DL.d_var 2 (pv 2)) (DL.d_acons DL.d_int DL.d_anil))))) DL.d_anil)) (DL.len_cons (DL.len_cons DL.len_nil))))
    (DL.s_cons (DL.s_set 4 nd (by rfl) (by first | exact Or.inl (by rfl) | exact Or.inr (by rfl)) (DL.d_add DL.d_int (DL.d_ix (by rfl) (fun _ _ => (by rfl)) (DL.d_var 3 (pv 3)) DL.d_int)))
    (DL.s_cons (DL.s_set 5 nd (by rfl) (by first | exact Or.inl (by rfl) | exact Or.inr (by rfl)) (DL.d_add DL.d_int (DL.d_ix (by rfl) (fun _ _ => (by rfl)) (DL.d_var 3 (pv 3)) DL.d_int)))
    (DL.s_cons (DL.s_setF 6 nd (by rfl) (by first | exact Or.inl (by rfl) | exact Or.inr (by rfl)) (DL.f_lst DL.d_anil))
    (DL.s_cons (DL.s_for [8] (passes_of (by rfl)) (by rfl) (DL.i_range1 (by rfl) n_range (DL.d_acons (DL.d_var 4 (pv 4)) DL.d_anil)) (DL.g_name 7 nd (by rfl) (by first | exact Or.inl (by rfl) | exact Or.inr (by rfl)))
    (DL.s_cons (DL.s_setF 8 nd (by rfl) (by first | exact Or.inl (by rfl) | exact Or.inr (by rfl)) (DL.f_fn c__law_draw hr (by decide) (takes_of (by rfl) (by rfl) (by rfl) (by rfl)) (by rfl) (DL.d_acons (DL.d_add (DL.d_div (DL.d_var 0 (pv 0)) DL.d_int) (DL.d_mul DL.d_int (DL.d_var 7 (pv 7)))) (DL.d_acons (DL.d_ofF (DL.f_lc (by rfl) nd (own := [("e", 9)]) (E1 := []) (DL.i_range1 (by rfl) n_range (DL.d_acons (DL.d_var 5 (pv 5)) DL.d_anil)) (blkOk_by (N := ["cell", "most_picks", "most_ends", "d", "picks", "ends", "rows", "k", "bits", "e", "bit"]) (sc := (defScope (top 18))) (by decide +kernel)) (by decide) (fun _ _ _ _ _ _ => (DL.g_name 9 nd (by rfl) (by first | exact Or.inl (by rfl) | exact Or.inr (by rfl)))) (fun _ _ _ _ _ _ => DL.t_nil) (fun _ _ _ _ _ _ => DL.d_int))) DL.d_anil)) (DL.len_cons (DL.len_cons DL.len_nil))))
    (DL.s_one (DL.s_app 6 (pv 6) (DL.d_join (by rfl) (DL.d_str [] (by rfl)) (DL.d_ofF (DL.f_lc (by rfl) nd (own := [("bit", 10)]) (E1 := ([] ++ [])) (DL.i_any (by rfl) (DL.d_var 8 (pv 8))) (blkOk_by (N := ["cell", "most_picks", "most_ends", "d", "picks", "ends", "rows", "k", "bits", "e", "bit"]) (sc := (defScope (top 18))) (by decide +kernel)) (by decide) (fun _ _ _ _ _ _ => (DL.g_name 10 nd (by rfl) (by first | exact Or.inl (by rfl) | exact Or.inr (by rfl)))) (fun _ _ _ _ _ _ => DL.t_nil) (fun _ _ _ _ _ _ => (DL.d_ix (by rfl) (fun _ _ => (by rfl)) (DL.d_str [46, 35] (by rfl)) (DL.d_toInt (by rfl) n_int (DL.d_acons (DL.v_or (DL.d_lt (DL.d_var 10 (pv 10)) DL.d_int) (DL.d_one (DL.v_and (DL.d_eq (by rfl) hu (DL.d_var 10 (pv 10)) DL.d_int) (DL.d_one (DL.d_gt (DL.d_ix (by rfl) (fun _ _ => (by rfl)) (DL.d_var 3 (pv 3)) DL.d_int) DL.d_int))))) DL.d_anil)))))))))) (by decide))
    (DL.s_cons (DL.s_if (DL.t_eq (by rfl) hu (DL.d_ix (by rfl) (fun _ _ => (by rfl)) (DL.d_var 3 (pv 3)) DL.d_int) DL.d_int) (DL.s_one (DL.s_setF 6 nd (by rfl) (by first | exact Or.inl (by rfl) | exact Or.inr (by rfl)) (DL.f_rep (DL.d_ofF (DL.f_lst (DL.d_acons (DL.d_ix (by rfl) (fun _ _ => (by rfl)) (DL.d_var 6 (pv 6)) DL.d_int) DL.d_anil))) (DL.d_var 4 (pv 4))))) DL.s_nil)
    (DL.s_cons (DL.s_if (DL.t_eq (by rfl) hu (DL.d_ix (by rfl) (fun _ _ => (by rfl)) (DL.d_var 3 (pv 3)) DL.d_int) DL.d_int) (DL.s_one (DL.s_setLc (i := 6) (hN := nd) (hy := (by rfl)) (hyl := (by rfl)) (hsw := (sw_true (by rfl) (by rfl) (by rfl) (by decide +kernel))) (hc := (by rfl)) (own := [("k", 7)]) (E1 := []) (DL.i_range1 (by rfl) n_range (DL.d_acons (DL.d_var 4 (pv 4)) DL.d_anil)) (blkOk_by (N := ["cell", "most_picks", "most_ends", "d", "picks", "ends", "rows", "k", "bits", "e", "bit"]) (sc := (defScope (top 18))) (by decide +kernel)) (by decide) (fun _ _ _ _ _ _ => (DL.g_name 7 nd (by rfl) (by first | exact Or.inl (by rfl) | exact Or.inr (by rfl)))) (fun _ _ _ _ _ _ => DL.t_nil) (fun _ _ _ _ _ _ => (DL.d_join (by rfl) (DL.d_str [] (by rfl)) (DL.d_ofF (DL.f_lc (by rfl) nd (own := [("e", 9)]) (E1 := ([] ++ [])) (DL.i_range1 (by rfl) n_range (DL.d_acons (DL.d_var 5 (pv 5)) DL.d_anil)) (blkOk_by (by rfl)) (by decide) (fun _ _ _ _ _ _ => (DL.g_name 9 nd (by rfl) (by first | exact Or.inl (by rfl) | exact Or.inr (by rfl)))) (fun _ _ _ _ _ _ => DL.t_nil) (fun _ _ _ _ _ _ => (DL.d_ix (by rfl) (fun _ _ => (by rfl)) (DL.d_str [46, 35] (by rfl)) (DL.d_mod (DL.d_toInt (by rfl) n_int (DL.d_acons (DL.d_add (DL.d_var 7 (pv 7)) (DL.d_var 9 (pv 9))) DL.d_anil)) DL.d_int))))))))) DL.s_nil)
    (DL.s_cons (DL.s_if (DL.d_and (DL.t_eq (by rfl) hu (DL.d_ix (by rfl) (fun _ _ => (by rfl)) (DL.d_var 3 (pv 3)) DL.d_int) DL.d_int) (DL.t_and1 (DL.t_gt (DL.d_var 4 (pv 4)) DL.d_int))).pt (DL.s_one (DL.s_setF 6 nd (by rfl) (by first | exact Or.inl (by rfl) | exact Or.inr (by rfl)) (DL.f_cat (DL.d_sl (by rfl) (DL.d_var 6 (pv 6)) DL.p_none (DL.p_some (DL.d_add DL.d_int (DL.d_div (DL.d_var 4 (pv 4)) DL.d_int)))) (DL.d_sl (by rfl) (DL.d_var 6 (pv 6)) DL.p_none (DL.p_some (DL.d_sub (DL.d_sub (DL.d_var 4 (pv 4)) DL.d_int) (DL.d_div (DL.d_var 4 (pv 4)) DL.d_int))))))) DL.s_nil)
    (DL.s_one (DL.s_retV 6 (fun _ z => z) (pv 6)))))))))))
theorem bi__law_cloth {K : PySem.W.Frag} {f : Addr} {fd : FuncData} (F : FunD K "_law_cloth" "_law_cloth" (defArgs (top 18)) (defBody (top 18)) (defScope (top 18)) [] [] f fd) : Binds K fd ["cell", "most_picks", "most_ends"] [] := FunD.bindsN F fun _ _ _ _ _ _ us hl => match us, hl with | [_, _, _], _ => rfl
theorem ok__law_cloth {P : Program} {w : World} {K : PySem.W.Frag} {mg : Str → Option Value} {base : Heap} {f : Addr} {fd : FuncData} (F : FunD K "_law_cloth" "_law_cloth" (defArgs (top 18)) (defBody (top 18)) (defScope (top 18)) [] [] f fd) (hg : mg "_law_cloth" = some (.ref f)) (c__law_draw : DefOk P w K mg base "_law_draw" 1 2 m__law_draw) (n_range : mg "range" = none) (n_int : mg "int" = none) : DefOk P w K mg base "_law_cloth" 2 3 m__law_cloth :=
  def_ok F hg sc__law_cloth rfl (bi__law_cloth F) (t__law_cloth c__law_draw n_range n_int)
/-! ### _law_repeat: slots 0=cloth 1=picks 2=ends 3=p 4=k 5=e 6=row -/
def l1__law_repeat : En → Out := (ifS (andT (tst (op2 dEq (op2 dMul (op2 dDiv (var 1) (var 4)) (var 4)) (var 1))) (tst (op2 dEq (var 0) (sliceE (op2 dMul (sliceE (var 0) pN (pI (var 4))) (var 1)) pN (pI (var 1)))))) (setS 3 [4] (var 4)) nxS)
def l2__law_repeat : En → Out := (ifS (andT (tst (op2 dEq (op2 dMul (op2 dDiv (var 2) (var 4)) (var 4)) (var 2))) (tst (op2 dEq (opA dLen (aCons (erE (lcE [0] [6] (bName 6) (itE (var 0)) (tst (op2 dNe (var 6) (sliceE (op2 dMul (sliceE (var 6) pN (pI (var 4))) (var 2)) pN (pI (var 2))))) (var 6))) aNil)) (con (.int 0))))) (setS 5 [4] (var 4)) nxS)
def b__law_repeat : En → Out := (seqS (setS 1 [] (opA dLen (aCons (var 0) aNil)))
    (seqS (setS 2 [] (opA dLen (aCons (op2 dIx (var 0) (con (.int 0))) aNil)))
    (seqS (setS 3 [1] (var 1))
    (seqS (forS [] [4] (bName 4) (rgE rgF3 (aCons (var 1) (aCons (con (.int 0)) (aCons (op1 dNeg (con (.int 1))) aNil)))) l1__law_repeat)
    (seqS (setS 5 [2] (var 2))
    (seqS (forS [] [4] (bName 4) (rgE rgF3 (aCons (var 2) (aCons (con (.int 0)) (aCons (op1 dNeg (con (.int 1))) aNil)))) l2__law_repeat)
    (retF [] (lcE [0] [6] (bName 6) (itE (sliceE (var 0) pN (pI (var 3)))) tYesD (sliceE (var 6) pN (pI (var 5)))))))))))
def m__law_repeat : List D → R OD := mOf 1 7 b__law_repeat
theorem sc__law_repeat : FnScope ["cloth", "picks", "ends", "p", "k", "e", "row"] ["cloth"] (defScope (top 20)) := C8.fnScope_by (by decide +kernel)
theorem t__law_repeat {P : Program} {w : World} {K : PySem.W.Frag} {mg : Str → Option Value} {base : Heap} {f : Addr} (n_len : mg "len" = none) (n_range : mg "range" = none) (cdv : Value) (A : Around) (outer : List Env) (s : Shared) (H : Hp) (E : XK) (O : Addr → Prop) (hr : Room 0 (A.deeper (envOfC "_law_repeat" (defScope (top 20)) s.heap.objs.size f cdv))) : PSs (cxOf (L2.CX P w) P w K mg base ["cloth", "picks", "ends", "p", "k", "e", "row"] "_law_repeat" (defScope (top 20)) f cdv A outer s H E) (defBody (top 20)) (tS ⟨⟨K, mg, none⟩, O, fun _ => False, H⟩ (fun c d _ H' => E c d H') ([1] ++ ([2] ++ ([3] ++ (([4] ++ ([3] ++ [])) ++ ([5] ++ (([4] ++ ([5] ++ [])) ++ [])))))) b__law_repeat) := by
  have hu := hu64 hr
  have nd := (sc__law_repeat).nd
  exact (DL.s_cons (DL.s_set 1 nd (by rfl) (by first | exact Or.inl (by rfl) | exact Or.inr (by rfl)) (DL.d_len (by rfl) (by rfl) n_len (DL.d_acons (DL.d_var 0 (pv 0)) DL.d_anil)))
    (DL.s_cons (DL.s_set 2 nd (by rfl) (by first | exact Or.inl (by rfl) | exact Or.inr (by rfl)) (DL.d_len (by rfl) (by rfl) n_len (DL.d_acons (DL.d_ix (by rfl) (fun _ _ => (by rfl)) (DL.d_var 0 (pv 0)) DL.d_int) DL.d_anil)))
    (DL.s_cons (DL.s_set 3 nd (by rfl) (by first | exact Or.inl (by rfl) | exact Or.inr (by rfl)) (DL.d_var 1 (pv 1)))
    (DL.s_cons (DL.s_for [4] (passes_of (by rfl)) (by rfl) (DL.i_range3 (by rfl) n_range (DL.d_acons (DL.d_var 1 (pv 1)) (DL.d_acons DL.d_int (DL.d_acons (DL.d_neg DL.d_int) DL.d_anil)))) (DL.g_name 4 nd (by rfl) (by first | exact Or.inl (by rfl) | exact Or.inr (by rfl)))
    (DL.s_one (DL.s_if (DL.d_and (DL.t_eq (by rfl) hu (DL.d_mul (DL.d_div (DL.d_var 1 (pv 1)) (DL.d_var 4 (pv 4))) (DL.d_var 4 (pv 4))) (DL.d_var 1 (pv 1))) (DL.t_and1 (DL.t_eq (by rfl) hu (DL.d_var 0 (pv 0)) (DL.d_sl (by rfl) (DL.d_mul (DL.d_sl (by rfl) (DL.d_var 0 (pv 0)) DL.p_none (DL.p_some (DL.d_var 4 (pv 4)))) (DL.d_var 1 (pv 1))) DL.p_none (DL.p_some (DL.d_var 1 (pv 1))))))).pt (DL.s_one (DL.s_set 3 nd (by rfl) (by first | exact Or.inl (by rfl) | exact Or.inr (by rfl)) (DL.d_var 4 (pv 4)))) DL.s_nil)) (by decide))
    (DL.s_cons (DL.s_set 5 nd (by rfl) (by first | exact Or.inl (by rfl) | exact Or.inr (by rfl)) (DL.d_var 2 (pv 2)))
    (DL.s_cons (DL.s_for [4] (passes_of (by rfl)) (by rfl) (DL.i_range3 (by rfl) n_range (DL.d_acons (DL.d_var 2 (pv 2)) (DL.d_acons DL.d_int (DL.d_acons (DL.d_neg DL.d_int) DL.d_anil)))) (DL.g_name 4 nd (by rfl) (by first | exact Or.inl (by rfl) | exact Or.inr (by rfl)))
    (DL.s_one (DL.s_if (DL.d_and (DL.t_eq (by rfl) hu (DL.d_mul (DL.d_div (DL.d_var 2 (pv 2)) (DL.d_var 4 (pv 4))) (DL.d_var 4 (pv 4))) (DL.d_var 2 (pv 2))) (DL.t_and1 (DL.t_eq (by rfl) hu (DL.d_len (by rfl) (by rfl) n_len (DL.d_acons (DL.d_ofF (DL.f_lc (by rfl) nd (own := [("row", 6)]) (E1 := [6]) (DL.i_any (by rfl) (DL.d_var 0 (pv 0))) (blkOk_by (N := ["cloth", "picks", "ends", "p", "k", "e", "row"]) (sc := (defScope (top 20))) (by decide +kernel)) (by decide) (fun _ _ _ _ _ _ => (DL.g_name 6 nd (by rfl) (by first | exact Or.inl (by rfl) | exact Or.inr (by rfl)))) (fun _ _ _ _ _ _ => (DL.t_one (DL.t_ne (by rfl) hu (DL.d_var 6 (pv 6)) (DL.d_sl (by rfl) (DL.d_mul (DL.d_sl (by rfl) (DL.d_var 6 (pv 6)) DL.p_none (DL.p_some (DL.d_var 4 (pv 4)))) (DL.d_var 2 (pv 2))) DL.p_none (DL.p_some (DL.d_var 2 (pv 2))))))) (fun _ _ _ _ _ _ => (DL.d_var 6 (pv 6))))) DL.d_anil)) DL.d_int))).pt (DL.s_one (DL.s_set 5 nd (by rfl) (by first | exact Or.inl (by rfl) | exact Or.inr (by rfl)) (DL.d_var 4 (pv 4)))) DL.s_nil)) (by decide))
    (DL.s_one (DL.s_retF (DL.f_lc (by rfl) nd (own := [("row", 6)]) (E1 := [6]) (DL.i_any (by rfl) (DL.d_sl (by rfl) (DL.d_var 0 (pv 0)) DL.p_none (DL.p_some (DL.d_var 3 (pv 3))))) (blkOk_by (N := ["cloth", "picks", "ends", "p", "k", "e", "row"]) (sc := (defScope (top 20))) (by decide +kernel)) (by decide) (fun _ _ _ _ _ _ => (DL.g_name 6 nd (by rfl) (by first | exact Or.inl (by rfl) | exact Or.inr (by rfl)))) (fun _ _ _ _ _ _ => DL.t_nil) (fun _ _ _ _ _ _ => (DL.d_sl (by rfl) (DL.d_var 6 (pv 6)) DL.p_none (DL.p_some (DL.d_var 5 (pv 5))))))))))))))
theorem bi__law_repeat {K : PySem.W.Frag} {f : Addr} {fd : FuncData} (F : FunD K "_law_repeat" "_law_repeat" (defArgs (top 20)) (defBody (top 20)) (defScope (top 20)) [] [] f fd) : Binds K fd ["cloth"] [] := FunD.bindsN F fun _ _ _ _ _ _ us hl => match us, hl with | [_], _ => rfl
theorem ok__law_repeat {P : Program} {w : World} {K : PySem.W.Frag} {mg : Str → Option Value} {base : Heap} {f : Addr} {fd : FuncData} (F : FunD K "_law_repeat" "_law_repeat" (defArgs (top 20)) (defBody (top 20)) (defScope (top 20)) [] [] f fd) (hg : mg "_law_repeat" = some (.ref f)) (n_len : mg "len" = none) (n_range : mg "range" = none) : DefOk P w K mg base "_law_repeat" 1 1 m__law_repeat :=
  def_ok F hg sc__law_repeat rfl (bi__law_repeat F) (t__law_repeat n_len n_range)
/-! ### check_cloth: slots 0=cloth 1=at 2=row 3=one -/
def l1_check_cloth : En → Out := (seqS (setS 2 ([0] ++ [1]) (op2 dIx (var 0) (var 1)))
    (seqS (ifS (orT (tst (op2 dLt (opA dLen (aCons (var 2) aNil)) (con (.int 1)))) (orT (tst (op2 dGt (opA dLen (aCons (var 2) aNil)) (con (.int 60)))) (tst (op2 dNe (opA dLen (aCons (var 2) aNil)) (opA dLen (aCons (op2 dIx (var 0) (con (.int 0))) aNil)))))) (fun _ => .st) nxS)
    (ifS (tst (op2 dGt (opA dLen (aCons (erE (lcE [2] [3] (bName 3) (itE (var 2)) (tst (op2 dNotIn (var 3) (tupE (aCons (con (.str [35])) (aCons (con (.str [46])) aNil))))) (var 3))) aNil)) (con (.int 0)))) (fun _ => .st) nxS)))
def b_check_cloth : En → Out := (seqS (ifS (tst (op2 dEq (opA dLen (aCons (var 0) aNil)) (con (.int 0)))) (fun _ => .st) nxS)
    (seqS (ifS (tst (op2 dGt (opA dLen (aCons (var 0) aNil)) (con (.int 60)))) (fun _ => .st) nxS)
    (forS [] [1, 2] (bName 1) (rgE rgF1 (aCons (opA dLen (aCons (var 0) aNil)) aNil)) l1_check_cloth)))
def m_check_cloth : List D → R OD := mOf 1 4 b_check_cloth
theorem sc_check_cloth : FnScope ["cloth", "at", "row", "one"] ["cloth"] (defScope (top 7)) := C8.fnScope_by (by decide +kernel)
theorem t_check_cloth {P : Program} {w : World} {K : PySem.W.Frag} {mg : Str → Option Value} {base : Heap} {f : Addr} (n_len : mg "len" = none) (n_range : mg "range" = none) (g_MOST : ∃ t, mg "MOST" = some (.int 60 t)) (g_OVER : ∃ t, mg "OVER" = some (.str "#" t)) (g_UNDER : ∃ t, mg "UNDER" = some (.str "." t)) (cdv : Value) (A : Around) (outer : List Env) (s : Shared) (H : Hp) (E : XK) (O : Addr → Prop) (hr : Room 0 (A.deeper (envOfC "check_cloth" (defScope (top 7)) s.heap.objs.size f cdv))) : PSs (cxOf (L2.CX P w) P w K mg base ["cloth", "at", "row", "one"] "check_cloth" (defScope (top 7)) f cdv A outer s H E) (defBody (top 7)) (tS ⟨⟨K, mg, none⟩, O, fun _ => False, H⟩ (fun c d _ H' => E c d H') (([] ++ []) ++ (([] ++ []) ++ ([1] ++ ([2] ++ (([] ++ []) ++ ([] ++ [])))))) b_check_cloth) := by
  have hu := hu64 hr
  have nd := (sc_check_cloth).nd
  exact (DL.s_cons (DL.s_if (DL.t_eq (by rfl) hu (DL.d_len (by rfl) (by rfl) n_len (DL.d_acons (DL.d_var 0 (pv 0)) DL.d_anil)) DL.d_int) (DL.s_one DL.s_stuck) DL.s_nil)
    (DL.s_cons (DL.s_if (DL.t_gt (DL.d_len (by rfl) (by rfl) n_len (DL.d_acons (DL.d_var 0 (pv 0)) DL.d_anil)) (DL.d_globI (by rfl) g_MOST)) (DL.s_one DL.s_stuck) DL.s_nil)
    (DL.s_one (DL.s_for [1, 2] (passes_of (by rfl)) (by rfl) (DL.i_range1 (by rfl) n_range (DL.d_acons (DL.d_len (by rfl) (by rfl) n_len (DL.d_acons (DL.d_var 0 (pv 0)) DL.d_anil)) DL.d_anil)) (DL.g_name 1 nd (by rfl) (by first | exact Or.inl (by rfl) | exact Or.inr (by rfl)))
    (DL.s_cons (DL.s_set 2 nd (by rfl) (by first | exact Or.inl (by rfl) | exact Or.inr (by rfl)) (DL.d_ix (by rfl) (fun _ _ => (by rfl)) (DL.d_var 0 (pv 0)) (DL.d_var 1 (pv 1))))
    (DL.s_cons (DL.s_if (DL.d_or (DL.t_lt (DL.d_len (by rfl) (by rfl) n_len (DL.d_acons (DL.d_var 2 (pv 2)) DL.d_anil)) DL.d_int) (DL.d_or (DL.t_gt (DL.d_len (by rfl) (by rfl) n_len (DL.d_acons (DL.d_var 2 (pv 2)) DL.d_anil)) (DL.d_globI (by rfl) g_MOST)) (DL.t_or1 (DL.t_ne (by rfl) hu (DL.d_len (by rfl) (by rfl) n_len (DL.d_acons (DL.d_var 2 (pv 2)) DL.d_anil)) (DL.d_len (by rfl) (by rfl) n_len (DL.d_acons (DL.d_ix (by rfl) (fun _ _ => (by rfl)) (DL.d_var 0 (pv 0)) DL.d_int) DL.d_anil)))))).pt (DL.s_one DL.s_stuck) DL.s_nil)
    (DL.s_one (DL.s_if (DL.t_gt (DL.d_len (by rfl) (by rfl) n_len (DL.d_acons (DL.d_ofF (DL.f_lc (by rfl) nd (own := [("one", 3)]) (E1 := [3]) (DL.i_any (by rfl) (DL.d_var 2 (pv 2))) (blkOk_by (N := ["cloth", "at", "row", "one"]) (sc := (defScope (top 7))) (by decide +kernel)) (by decide) (fun _ _ _ _ _ _ => (DL.g_name 3 nd (by rfl) (by first | exact Or.inl (by rfl) | exact Or.inr (by rfl)))) (fun _ _ _ _ _ _ => (DL.t_one (DL.t_notIn (by rfl) hu (DL.d_var 3 (pv 3)) (DL.d_tup (DL.d_acons (DL.d_globS (by rfl) g_OVER [35] (by rfl)) (DL.d_acons (DL.d_globS (by rfl) g_UNDER [46] (by rfl)) DL.d_anil)))))) (fun _ _ _ _ _ _ => (DL.d_var 3 (pv 3))))) DL.d_anil)) DL.d_int) (DL.s_one DL.s_stuck) DL.s_nil)))) (by decide)))))
theorem bi_check_cloth {K : PySem.W.Frag} {f : Addr} {fd : FuncData} (F : FunD K "check_cloth" "check_cloth" (defArgs (top 7)) (defBody (top 7)) (defScope (top 7)) [] [] f fd) : Binds K fd ["cloth"] [] := FunD.bindsN F fun _ _ _ _ _ _ us hl => match us, hl with | [_], _ => rfl
theorem ok_check_cloth {P : Program} {w : World} {K : PySem.W.Frag} {mg : Str → Option Value} {base : Heap} {f : Addr} {fd : FuncData} (F : FunD K "check_cloth" "check_cloth" (defArgs (top 7)) (defBody (top 7)) (defScope (top 7)) [] [] f fd) (hg : mg "check_cloth" = some (.ref f)) (n_len : mg "len" = none) (n_range : mg "range" = none) (g_MOST : ∃ t, mg "MOST" = some (.int 60 t)) (g_OVER : ∃ t, mg "OVER" = some (.str "#" t)) (g_UNDER : ∃ t, mg "UNDER" = some (.str "." t)) : DefOk P w K mg base "check_cloth" 1 1 m_check_cloth :=
  def_ok F hg sc_check_cloth rfl (bi_check_cloth F) (t_check_cloth n_len n_range g_MOST g_OVER g_UNDER)
/-! ### least_period: slots 0=parts 1=size -/
def l1_least_period : En → Out := (ifS (andT (tst (op2 dEq (op2 dMod (opA dLen (aCons (var 0) aNil)) (var 1)) (con (.int 0)))) (tst (op2 dEq (sliceE (var 0) (pI (var 1)) pN) (sliceE (var 0) pN (pI (op2 dSub (opA dLen (aCons (var 0) aNil)) (var 1))))))) (retS [1] (var 1)) nxS)
def b_least_period : En → Out := (seqS (forS [] [1] (bName 1) (rgE rgF2 (aCons (con (.int 1)) (aCons (opA dLen (aCons (var 0) aNil)) aNil))) l1_least_period)
    (retS [] (opA dLen (aCons (var 0) aNil))))
def m_least_period : List D → R OD := mOf 1 2 b_least_period
theorem sc_least_period : FnScope ["parts", "size"] ["parts"] (defScope (top 11)) := C8.fnScope_by (by decide +kernel)
theorem t_least_period {P : Program} {w : World} {K : PySem.W.Frag} {mg : Str → Option Value} {base : Heap} {f : Addr} (n_len : mg "len" = none) (n_range : mg "range" = none) (cdv : Value) (A : Around) (outer : List Env) (s : Shared) (H : Hp) (E : XK) (O : Addr → Prop) (hr : Room 0 (A.deeper (envOfC "least_period" (defScope (top 11)) s.heap.objs.size f cdv))) : PSs (cxOf (L2.CX P w) P w K mg base ["parts", "size"] "least_period" (defScope (top 11)) f cdv A outer s H E) (defBody (top 11)) (tS ⟨⟨K, mg, none⟩, O, fun _ => False, H⟩ (fun c d _ H' => E c d H') (([1] ++ ([] ++ [])) ++ []) b_least_period) := by
  have hu := hu64 hr
  have nd := (sc_least_period).nd
  exact (DL.s_cons (DL.s_for [1] (passes_of (by rfl)) (by rfl) (DL.i_range2 (by rfl) n_range (DL.d_acons DL.d_int (DL.d_acons (DL.d_len (by rfl) (by rfl) n_len (DL.d_acons (DL.d_var 0 (pv 0)) DL.d_anil)) DL.d_anil))) (DL.g_name 1 nd (by rfl) (by first | exact Or.inl (by rfl) | exact Or.inr (by rfl)))
    (DL.s_one (DL.s_if (DL.d_and (DL.t_eq (by rfl) hu (DL.d_mod (DL.d_len (by rfl) (by rfl) n_len (DL.d_acons (DL.d_var 0 (pv 0)) DL.d_anil)) (DL.d_var 1 (pv 1))) DL.d_int) (DL.t_and1 (DL.t_eq (by rfl) hu (DL.d_sl (by rfl) (DL.d_var 0 (pv 0)) (DL.p_some (DL.d_var 1 (pv 1))) DL.p_none) (DL.d_sl (by rfl) (DL.d_var 0 (pv 0)) DL.p_none (DL.p_some (DL.d_sub (DL.d_len (by rfl) (by rfl) n_len (DL.d_acons (DL.d_var 0 (pv 0)) DL.d_anil)) (DL.d_var 1 (pv 1)))))))).pt (DL.s_one (DL.s_ret (DL.d_var 1 (pv 1)))) DL.s_nil)) (by decide))
    (DL.s_one (DL.s_ret (DL.d_len (by rfl) (by rfl) n_len (DL.d_acons (DL.d_var 0 (pv 0)) DL.d_anil)))))
theorem bi_least_period {K : PySem.W.Frag} {f : Addr} {fd : FuncData} (F : FunD K "least_period" "least_period" (defArgs (top 11)) (defBody (top 11)) (defScope (top 11)) [] [] f fd) : Binds K fd ["parts"] [] := FunD.bindsN F fun _ _ _ _ _ _ us hl => match us, hl with | [_], _ => rfl
theorem ok_least_period {P : Program} {w : World} {K : PySem.W.Frag} {mg : Str → Option Value} {base : Heap} {f : Addr} {fd : FuncData} (F : FunD K "least_period" "least_period" (defArgs (top 11)) (defBody (top 11)) (defScope (top 11)) [] [] f fd) (hg : mg "least_period" = some (.ref f)) (n_len : mg "len" = none) (n_range : mg "range" = none) : DefOk P w K mg base "least_period" 1 1 m_least_period :=
  def_ok F hg sc_least_period rfl (bi_least_period F) (t_least_period n_len n_range)
/-! ### column_of: slots 0=cloth 1=end 2=row -/
def b_column_of : En → Out := (retS [] (strOp dJoin (con (.str [])) (erE (lcE [0] [2] (bName 2) (itE (var 0)) tYesD (op2 dIx (var 2) (var 1))))))
def m_column_of : List D → R OD := mOf 2 3 b_column_of
theorem sc_column_of : FnScope ["cloth", "end", "row"] ["cloth", "end"] (defScope (top 8)) := C8.fnScope_by (by decide +kernel)
theorem t_column_of {P : Program} {w : World} {K : PySem.W.Frag} {mg : Str → Option Value} {base : Heap} {f : Addr} (cdv : Value) (A : Around) (outer : List Env) (s : Shared) (H : Hp) (E : XK) (O : Addr → Prop) (hr : Room 0 (A.deeper (envOfC "column_of" (defScope (top 8)) s.heap.objs.size f cdv))) : PSs (cxOf (L2.CX P w) P w K mg base ["cloth", "end", "row"] "column_of" (defScope (top 8)) f cdv A outer s H E) (defBody (top 8)) (tS ⟨⟨K, mg, none⟩, O, fun _ => False, H⟩ (fun c d _ H' => E c d H') [] b_column_of) := by
  have hu := hu64 hr
  have nd := (sc_column_of).nd
  exact (DL.s_one (DL.s_ret (DL.d_join (by rfl) (DL.d_str [] (by rfl)) (DL.d_ofF (DL.f_lc (by rfl) nd (own := [("row", 2)]) (E1 := ([2] ++ [1])) (DL.i_any (by rfl) (DL.d_var 0 (pv 0))) (blkOk_by (N := ["cloth", "end", "row"]) (sc := (defScope (top 8))) (by decide +kernel)) (by decide) (fun _ _ _ _ _ _ => (DL.g_name 2 nd (by rfl) (by first | exact Or.inl (by rfl) | exact Or.inr (by rfl)))) (fun _ _ _ _ _ _ => DL.t_nil) (fun _ _ _ _ _ _ => (DL.d_ix (by rfl) (fun _ _ => (by rfl)) (DL.d_var 2 (pv 2)) (DL.d_var 1 (pv 1)))))))))
theorem bi_column_of {K : PySem.W.Frag} {f : Addr} {fd : FuncData} (F : FunD K "column_of" "column_of" (defArgs (top 8)) (defBody (top 8)) (defScope (top 8)) [] [] f fd) : Binds K fd ["cloth", "end"] [] := FunD.bindsN F fun _ _ _ _ _ _ us hl => match us, hl with | [_, _], _ => rfl
theorem ok_column_of {P : Program} {w : World} {K : PySem.W.Frag} {mg : Str → Option Value} {base : Heap} {f : Addr} {fd : FuncData} (F : FunD K "column_of" "column_of" (defArgs (top 8)) (defBody (top 8)) (defScope (top 8)) [] [] f fd) (hg : mg "column_of" = some (.ref f)) : DefOk P w K mg base "column_of" 1 2 m_column_of :=
  def_ok F hg sc_column_of rfl (bi_column_of F) (t_column_of )
/-! ### columns_of: slots 0=cloth 1=end -/
def b_columns_of : En → Out := (retF [0] (lcE [] [1] (bName 1) (rgE rgF1 (aCons (opA dLen (aCons (op2 dIx (var 0) (con (.int 0))) aNil)) aNil)) tYesD (erE (callE m_column_of (aCons (var 0) (aCons (var 1) aNil))))))
def m_columns_of : List D → R OD := mOf 1 2 b_columns_of
theorem sc_columns_of : FnScope ["cloth", "end"] ["cloth"] (defScope (top 9)) := C8.fnScope_by (by decide +kernel)
theorem t_columns_of {P : Program} {w : World} {K : PySem.W.Frag} {mg : Str → Option Value} {base : Heap} {f : Addr} (c_column_of : DefOk P w K mg base "column_of" 1 2 m_column_of) (n_len : mg "len" = none) (n_range : mg "range" = none) (cdv : Value) (A : Around) (outer : List Env) (s : Shared) (H : Hp) (E : XK) (O : Addr → Prop) (hr : Room 1 (A.deeper (envOfC "columns_of" (defScope (top 9)) s.heap.objs.size f cdv))) : PSs (cxOf (L2.CX P w) P w K mg base ["cloth", "end"] "columns_of" (defScope (top 9)) f cdv A outer s H E) (defBody (top 9)) (tS ⟨⟨K, mg, none⟩, O, fun _ => False, H⟩ (fun c d _ H' => E c d H') [] b_columns_of) := by
  have hu := hu64 hr
  have nd := (sc_columns_of).nd
  exact (DL.s_one (DL.s_retF (DL.f_lc (by rfl) nd (own := [("end", 1)]) (E1 := ([0] ++ ([1] ++ []))) (DL.i_range1 (by rfl) n_range (DL.d_acons (DL.d_len (by rfl) (by rfl) n_len (DL.d_acons (DL.d_ix (by rfl) (fun _ _ => (by rfl)) (DL.d_var 0 (pv 0)) DL.d_int) DL.d_anil)) DL.d_anil)) (blkOk_by (N := ["cloth", "end"]) (sc := (defScope (top 9))) (by decide +kernel)) (by decide) (fun _ _ _ _ _ _ => (DL.g_name 1 nd (by rfl) (by first | exact Or.inl (by rfl) | exact Or.inr (by rfl)))) (fun _ _ _ _ _ _ => DL.t_nil) (fun _ _ _ _ _ _ => (DL.d_ofF (DL.f_fn c_column_of hr (by decide) (takes0) (by rfl) (DL.d_acons (DL.d_var 0 (pv 0)) (DL.d_acons (DL.d_var 1 (pv 1)) DL.d_anil)) (DL.len_cons (DL.len_cons DL.len_nil))))))))
theorem bi_columns_of {K : PySem.W.Frag} {f : Addr} {fd : FuncData} (F : FunD K "columns_of" "columns_of" (defArgs (top 9)) (defBody (top 9)) (defScope (top 9)) [] [] f fd) : Binds K fd ["cloth"] [] := FunD.bindsN F fun _ _ _ _ _ _ us hl => match us, hl with | [_], _ => rfl
theorem ok_columns_of {P : Program} {w : World} {K : PySem.W.Frag} {mg : Str → Option Value} {base : Heap} {f : Addr} {fd : FuncData} (F : FunD K "columns_of" "columns_of" (defArgs (top 9)) (defBody (top 9)) (defScope (top 9)) [] [] f fd) (hg : mg "columns_of" = some (.ref f)) (c_column_of : DefOk P w K mg base "column_of" 1 2 m_column_of) (n_len : mg "len" = none) (n_range : mg "range" = none) : DefOk P w K mg base "columns_of" 2 1 m_columns_of :=
  def_ok F hg sc_columns_of rfl (bi_columns_of F) (t_columns_of c_column_of n_len n_range)
/-! ### repeat_of: slots 0=cloth 1=picks 2=ends 3=row -/
def b_repeat_of : En → Out := (seqS (exprS (erE (callE m_check_cloth (aCons (var 0) aNil))))
    (seqS (setF 1 (([0] ++ []) ++ []) (callE m_least_period (aCons (erE (opAF fList (aCons (var 0) aNil))) aNil)))
    (seqS (setF 2 (([0] ++ []) ++ []) (callE m_least_period (aCons (erE (callE m_columns_of (aCons (var 0) aNil))) aNil)))
    (retF [] (lcE [0] [3] (bName 3) (itE (sliceE (var 0) pN (pI (var 1)))) tYesD (sliceE (var 3) pN (pI (var 2))))))))
def m_repeat_of : List D → R OD := mOf 1 4 b_repeat_of
theorem sc_repeat_of : FnScope ["cloth", "picks", "ends", "row"] ["cloth"] (defScope (top 12)) := C8.fnScope_by (by decide +kernel)
theorem t_repeat_of {P : Program} {w : World} {K : PySem.W.Frag} {mg : Str → Option Value} {base : Heap} {f : Addr} (c_check_cloth : DefOk P w K mg base "check_cloth" 1 1 m_check_cloth) (c_least_period : DefOk P w K mg base "least_period" 1 1 m_least_period) (c_columns_of : DefOk P w K mg base "columns_of" 2 1 m_columns_of) (n_list : mg "list" = none) (cdv : Value) (A : Around) (outer : List Env) (s : Shared) (H : Hp) (E : XK) (O : Addr → Prop) (hr : Room 2 (A.deeper (envOfC "repeat_of" (defScope (top 12)) s.heap.objs.size f cdv))) : PSs (cxOf (L2.CX P w) P w K mg base ["cloth", "picks", "ends", "row"] "repeat_of" (defScope (top 12)) f cdv A outer s H E) (defBody (top 12)) (tS ⟨⟨K, mg, none⟩, O, fun _ => False, H⟩ (fun c d _ H' => E c d H') ([] ++ ([1] ++ ([2] ++ []))) b_repeat_of) := by
  have hu := hu64 hr
  have nd := (sc_repeat_of).nd
  exact (DL.s_cons (DL.s_expr (DL.d_ofF (DL.f_fn c_check_cloth hr (by decide) (takes_of (by rfl) (by rfl) (by rfl) (by rfl)) (by rfl) (DL.d_acons (DL.d_var 0 (pv 0)) DL.d_anil) (DL.len_cons DL.len_nil))))
    (DL.s_cons (DL.s_setF 1 nd (by rfl) (by first | exact Or.inl (by rfl) | exact Or.inr (by rfl)) (DL.f_fn c_least_period hr (by decide) (takes_of (by rfl) (by rfl) (by rfl) (by rfl)) (by rfl) (DL.d_acons (DL.d_ofF (DL.f_list (by rfl) (by rfl) n_list (DL.d_acons (DL.d_var 0 (pv 0)) DL.d_anil))) DL.d_anil) (DL.len_cons DL.len_nil)))
    (DL.s_cons (DL.s_setF 2 nd (by rfl) (by first | exact Or.inl (by rfl) | exact Or.inr (by rfl)) (DL.f_fn c_least_period hr (by decide) (takes_of (by rfl) (by rfl) (by rfl) (by rfl)) (by rfl) (DL.d_acons (DL.d_ofF (DL.f_fn c_columns_of hr (by decide) (takes_of (by rfl) (by rfl) (by rfl) (by rfl)) (by rfl) (DL.d_acons (DL.d_var 0 (pv 0)) DL.d_anil) (DL.len_cons DL.len_nil))) DL.d_anil) (DL.len_cons DL.len_nil)))
    (DL.s_one (DL.s_retF (DL.f_lc (by rfl) nd (own := [("row", 3)]) (E1 := [3]) (DL.i_any (by rfl) (DL.d_sl (by rfl) (DL.d_var 0 (pv 0)) DL.p_none (DL.p_some (DL.d_var 1 (pv 1))))) (blkOk_by (N := ["cloth", "picks", "ends", "row"]) (sc := (defScope (top 12))) (by decide +kernel)) (by decide) (fun _ _ _ _ _ _ => (DL.g_name 3 nd (by rfl) (by first | exact Or.inl (by rfl) | exact Or.inr (by rfl)))) (fun _ _ _ _ _ _ => DL.t_nil) (fun _ _ _ _ _ _ => (DL.d_sl (by rfl) (DL.d_var 3 (pv 3)) DL.p_none (DL.p_some (DL.d_var 2 (pv 2)))))))))))
theorem bi_repeat_of {K : PySem.W.Frag} {f : Addr} {fd : FuncData} (F : FunD K "repeat_of" "repeat_of" (defArgs (top 12)) (defBody (top 12)) (defScope (top 12)) [] [] f fd) : Binds K fd ["cloth"] [] := FunD.bindsN F fun _ _ _ _ _ _ us hl => match us, hl with | [_], _ => rfl
theorem ok_repeat_of {P : Program} {w : World} {K : PySem.W.Frag} {mg : Str → Option Value} {base : Heap} {f : Addr} {fd : FuncData} (F : FunD K "repeat_of" "repeat_of" (defArgs (top 12)) (defBody (top 12)) (defScope (top 12)) [] [] f fd) (hg : mg "repeat_of" = some (.ref f)) (c_check_cloth : DefOk P w K mg base "check_cloth" 1 1 m_check_cloth) (c_least_period : DefOk P w K mg base "least_period" 1 1 m_least_period) (c_columns_of : DefOk P w K mg base "columns_of" 2 1 m_columns_of) (n_list : mg "list" = none) : DefOk P w K mg base "repeat_of" 3 1 m_repeat_of :=
  def_ok F hg sc_repeat_of rfl (bi_repeat_of F) (t_repeat_of c_check_cloth c_least_period c_columns_of n_list)
/-! ### same_endless: slots 0=first 1=second -/
def b_same_endless : En → Out := (seqS (exprS (erE (callE m_check_cloth (aCons (var 0) aNil))))
    (seqS (exprS (erE (callE m_check_cloth (aCons (var 1) aNil))))
    (retS [] (op2 dEq (erE (callE m_repeat_of (aCons (var 0) aNil))) (erE (callE m_repeat_of (aCons (var 1) aNil)))))))
def m_same_endless : List D → R OD := mOf 2 2 b_same_endless
theorem sc_same_endless : FnScope ["first", "second"] ["first", "second"] (defScope (top 13)) := C8.fnScope_by (by decide +kernel)
theorem t_same_endless {P : Program} {w : World} {K : PySem.W.Frag} {mg : Str → Option Value} {base : Heap} {f : Addr} (c_check_cloth : DefOk P w K mg base "check_cloth" 1 1 m_check_cloth) (c_repeat_of : DefOk P w K mg base "repeat_of" 3 1 m_repeat_of) (cdv : Value) (A : Around) (outer : List Env) (s : Shared) (H : Hp) (E : XK) (O : Addr → Prop) (hr : Room 3 (A.deeper (envOfC "same_endless" (defScope (top 13)) s.heap.objs.size f cdv))) : PSs (cxOf (L2.CX P w) P w K mg base ["first", "second"] "same_endless" (defScope (top 13)) f cdv A outer s H E) (defBody (top 13)) (tS ⟨⟨K, mg, none⟩, O, fun _ => False, H⟩ (fun c d _ H' => E c d H') ([] ++ ([] ++ [])) b_same_endless) := by
  have hu := hu64 hr
  have nd := (sc_same_endless).nd
  exact (DL.s_cons (DL.s_expr (DL.d_ofF (DL.f_fn c_check_cloth hr (by decide) (takes_of (by rfl) (by rfl) (by rfl) (by rfl)) (by rfl) (DL.d_acons (DL.d_var 0 (pv 0)) DL.d_anil) (DL.len_cons DL.len_nil))))
    (DL.s_cons (DL.s_expr (DL.d_ofF (DL.f_fn c_check_cloth hr (by decide) (takes_of (by rfl) (by rfl) (by rfl) (by rfl)) (by rfl) (DL.d_acons (DL.d_var 1 (pv 1)) DL.d_anil) (DL.len_cons DL.len_nil))))
    (DL.s_one (DL.s_ret (DL.d_eq (by rfl) hu (DL.d_ofF (DL.f_fn c_repeat_of hr (by decide) (takes_of (by rfl) (by rfl) (by rfl) (by rfl)) (by rfl) (DL.d_acons (DL.d_var 0 (pv 0)) DL.d_anil) (DL.len_cons DL.len_nil))) (DL.d_ofF (DL.f_fn c_repeat_of hr (by decide) (takes_of (by rfl) (by rfl) (by rfl) (by rfl)) (by rfl) (DL.d_acons (DL.d_var 1 (pv 1)) DL.d_anil) (DL.len_cons DL.len_nil))))))))
theorem bi_same_endless {K : PySem.W.Frag} {f : Addr} {fd : FuncData} (F : FunD K "same_endless" "same_endless" (defArgs (top 13)) (defBody (top 13)) (defScope (top 13)) [] [] f fd) : Binds K fd ["first", "second"] [] := FunD.bindsN F fun _ _ _ _ _ _ us hl => match us, hl with | [_, _], _ => rfl
theorem ok_same_endless {P : Program} {w : World} {K : PySem.W.Frag} {mg : Str → Option Value} {base : Heap} {f : Addr} {fd : FuncData} (F : FunD K "same_endless" "same_endless" (defArgs (top 13)) (defBody (top 13)) (defScope (top 13)) [] [] f fd) (hg : mg "same_endless" = some (.ref f)) (c_check_cloth : DefOk P w K mg base "check_cloth" 1 1 m_check_cloth) (c_repeat_of : DefOk P w K mg base "repeat_of" 3 1 m_repeat_of) : DefOk P w K mg base "same_endless" 4 2 m_same_endless :=
  def_ok F hg sc_same_endless rfl (bi_same_endless F) (t_same_endless c_check_cloth c_repeat_of)
/-! ### shift_rows: slots 0=cloth 1=picks 2=ends 3=start 4=first 5=rows 6=row -/
def b_shift_rows : En → Out := (seqS (setS 3 [] (op2 dMod (var 2) (opA dLen (aCons (op2 dIx (var 0) (con (.int 0))) aNil))))
    (seqS (setS 4 [] (op2 dMod (var 1) (opA dLen (aCons (var 0) aNil))))
    (seqS (setF 5 [] (lcE [0] [6] (bName 6) (itE (var 0)) tYesD (op2 dAdd (sliceE (var 6) (pI (var 3)) pN) (sliceE (var 6) pN (pI (var 3))))))
    (retS ([5] ++ [5]) (op2 dAdd (sliceE (var 5) (pI (var 4)) pN) (sliceE (var 5) pN (pI (var 4))))))))
def m_shift_rows : List D → R OD := mOf 3 7 b_shift_rows
theorem sc_shift_rows : FnScope ["cloth", "picks", "ends", "start", "first", "rows", "row"] ["cloth", "picks", "ends"] (defScope (top 10)) := C8.fnScope_by (by decide +kernel)
theorem t_shift_rows {P : Program} {w : World} {K : PySem.W.Frag} {mg : Str → Option Value} {base : Heap} {f : Addr} (n_len : mg "len" = none) (cdv : Value) (A : Around) (outer : List Env) (s : Shared) (H : Hp) (E : XK) (O : Addr → Prop) (hr : Room 0 (A.deeper (envOfC "shift_rows" (defScope (top 10)) s.heap.objs.size f cdv))) : PSs (cxOf (L2.CX P w) P w K mg base ["cloth", "picks", "ends", "start", "first", "rows", "row"] "shift_rows" (defScope (top 10)) f cdv A outer s H E) (defBody (top 10)) (tS ⟨⟨K, mg, none⟩, O, fun _ => False, H⟩ (fun c d _ H' => E c d H') ([3] ++ ([4] ++ ([5] ++ []))) b_shift_rows) := by
  have hu := hu64 hr
  have nd := (sc_shift_rows).nd
  exact (DL.s_cons (DL.s_set 3 nd (by rfl) (by first | exact Or.inl (by rfl) | exact Or.inr (by rfl)) (DL.d_mod (DL.d_var 2 (pv 2)) (DL.d_len (by rfl) (by rfl) n_len (DL.d_acons (DL.d_ix (by rfl) (fun _ _ => (by rfl)) (DL.d_var 0 (pv 0)) DL.d_int) DL.d_anil))))
    (DL.s_cons (DL.s_set 4 nd (by rfl) (by first | exact Or.inl (by rfl) | exact Or.inr (by rfl)) (DL.d_mod (DL.d_var 1 (pv 1)) (DL.d_len (by rfl) (by rfl) n_len (DL.d_acons (DL.d_var 0 (pv 0)) DL.d_anil))))
    (DL.s_cons (DL.s_setLc (i := 5) (hN := nd) (hy := (by rfl)) (hyl := (by rfl)) (hsw := (sw_true (by rfl) (by rfl) (by rfl) (by decide +kernel))) (hc := (by rfl)) (own := [("row", 6)]) (E1 := ([6] ++ [6])) (DL.i_any (by rfl) (DL.d_var 0 (pv 0))) (blkOk_by (N := ["cloth", "picks", "ends", "start", "first", "rows", "row"]) (sc := (defScope (top 10))) (by decide +kernel)) (by decide) (fun _ _ _ _ _ _ => (DL.g_name 6 nd (by rfl) (by first | exact Or.inl (by rfl) | exact Or.inr (by rfl)))) (fun _ _ _ _ _ _ => DL.t_nil) (fun _ _ _ _ _ _ => (DL.d_add (DL.d_sl (by rfl) (DL.d_var 6 (pv 6)) (DL.p_some (DL.d_var 3 (pv 3))) DL.p_none) (DL.d_sl (by rfl) (DL.d_var 6 (pv 6)) DL.p_none (DL.p_some (DL.d_var 3 (pv 3)))))))
    (DL.s_one (DL.s_ret (DL.d_add (DL.d_sl (by rfl) (DL.d_var 5 (pv 5)) (DL.p_some (DL.d_var 4 (pv 4))) DL.p_none) (DL.d_sl (by rfl) (DL.d_var 5 (pv 5)) DL.p_none (DL.p_some (DL.d_var 4 (pv 4))))))))))
theorem bi_shift_rows {K : PySem.W.Frag} {f : Addr} {fd : FuncData} (F : FunD K "shift_rows" "shift_rows" (defArgs (top 10)) (defBody (top 10)) (defScope (top 10)) [] [] f fd) : Binds K fd ["cloth", "picks", "ends"] [] := FunD.bindsN F fun _ _ _ _ _ _ us hl => match us, hl with | [_, _, _], _ => rfl
theorem ok_shift_rows {P : Program} {w : World} {K : PySem.W.Frag} {mg : Str → Option Value} {base : Heap} {f : Addr} {fd : FuncData} (F : FunD K "shift_rows" "shift_rows" (defArgs (top 10)) (defBody (top 10)) (defScope (top 10)) [] [] f fd) (hg : mg "shift_rows" = some (.ref f)) (n_len : mg "len" = none) : DefOk P w K mg base "shift_rows" 1 3 m_shift_rows :=
  def_ok F hg sc_shift_rows rfl (bi_shift_rows F) (t_shift_rows n_len)
/-! ### same_up_to_shift: slots 0=first 1=second 2=one 3=two 4=picks 5=ends -/
def l1_same_up_to_shift : En → Out := (ifS (tst (op2 dEq (erE (callE m_shift_rows (aCons (var 3) (aCons (var 4) (aCons (var 5) aNil))))) (var 2))) (retS ([4] ++ ([5] ++ [])) (tupE (aCons (var 4) (aCons (var 5) aNil)))) nxS)
def l2_same_up_to_shift : En → Out := (forS [] [5] (bName 5) (rgE rgF1 (aCons (opA dLen (aCons (op2 dIx (var 3) (con (.int 0))) aNil)) aNil)) l1_same_up_to_shift)
def b_same_up_to_shift : En → Out := (seqS (exprS (erE (callE m_check_cloth (aCons (var 0) aNil))))
    (seqS (exprS (erE (callE m_check_cloth (aCons (var 1) aNil))))
    (seqS (setF 2 ([0] ++ []) (callE m_repeat_of (aCons (var 0) aNil)))
    (seqS (setF 3 ([1] ++ []) (callE m_repeat_of (aCons (var 1) aNil)))
    (seqS (ifS (orT (tst (op2 dNe (opA dLen (aCons (var 2) aNil)) (opA dLen (aCons (var 3) aNil)))) (tst (op2 dNe (opA dLen (aCons (op2 dIx (var 2) (con (.int 0))) aNil)) (opA dLen (aCons (op2 dIx (var 3) (con (.int 0))) aNil))))) (retS [] (con .non)) nxS)
    (seqS (forS [] [4, 5] (bName 4) (rgE rgF1 (aCons (opA dLen (aCons (var 3) aNil)) aNil)) l2_same_up_to_shift)
    (retS [] (con .non))))))))
def m_same_up_to_shift : List D → R OD := mOf 2 6 b_same_up_to_shift
theorem sc_same_up_to_shift : FnScope ["first", "second", "one", "two", "picks", "ends"] ["first", "second"] (defScope (top 14)) := C8.fnScope_by (by decide +kernel)
theorem t_same_up_to_shift {P : Program} {w : World} {K : PySem.W.Frag} {mg : Str → Option Value} {base : Heap} {f : Addr} (c_check_cloth : DefOk P w K mg base "check_cloth" 1 1 m_check_cloth) (c_repeat_of : DefOk P w K mg base "repeat_of" 3 1 m_repeat_of) (c_shift_rows : DefOk P w K mg base "shift_rows" 1 3 m_shift_rows) (n_len : mg "len" = none) (n_range : mg "range" = none) (cdv : Value) (A : Around) (outer : List Env) (s : Shared) (H : Hp) (E : XK) (O : Addr → Prop) (hr : Room 3 (A.deeper (envOfC "same_up_to_shift" (defScope (top 14)) s.heap.objs.size f cdv))) : PSs (cxOf (L2.CX P w) P w K mg base ["first", "second", "one", "two", "picks", "ends"] "same_up_to_shift" (defScope (top 14)) f cdv A outer s H E) (defBody (top 14)) (tS ⟨⟨K, mg, none⟩, O, fun _ => False, H⟩ (fun c d _ H' => E c d H') ([] ++ ([] ++ ([2] ++ ([3] ++ (([] ++ []) ++ (([4] ++ ([5] ++ ([] ++ []))) ++ [])))))) b_same_up_to_shift) := by
  have hu := hu64 hr
  have nd := (sc_same_up_to_shift).nd
  exact (DL.s_cons (DL.s_expr (DL.d_ofF (DL.f_fn c_check_cloth hr (by decide) (takes_of (by rfl) (by rfl) (by rfl) (by rfl)) (by rfl) (DL.d_acons (DL.d_var 0 (pv 0)) DL.d_anil) (DL.len_cons DL.len_nil))))
    (DL.s_cons (DL.s_expr (DL.d_ofF (DL.f_fn c_check_cloth hr (by decide) (takes_of (by rfl) (by rfl) (by rfl) (by rfl)) (by rfl) (DL.d_acons (DL.d_var 1 (pv 1)) DL.d_anil) (DL.len_cons DL.len_nil))))
    (DL.s_cons (DL.s_setF 2 nd (by rfl) (by first | exact Or.inl (by rfl) | exact Or.inr (by rfl)) (DL.f_fn c_repeat_of hr (by decide) (takes_of (by rfl) (by rfl) (by rfl) (by rfl)) (by rfl) (DL.d_acons (DL.d_var 0 (pv 0)) DL.d_anil) (DL.len_cons DL.len_nil)))
    (DL.s_cons (DL.s_setF 3 nd (by rfl) (by first | exact Or.inl (by rfl) | exact Or.inr (by rfl)) (DL.f_fn c_repeat_of hr (by decide) (takes_of (by rfl) (by rfl) (by rfl) (by rfl)) (by rfl) (DL.d_acons (DL.d_var 1 (pv 1)) DL.d_anil) (DL.len_cons DL.len_nil)))
    (DL.s_cons (DL.s_if (DL.d_or (DL.t_ne (by rfl) hu (DL.d_len (by rfl) (by rfl) n_len (DL.d_acons (DL.d_var 2 (pv 2)) DL.d_anil)) (DL.d_len (by rfl) (by rfl) n_len (DL.d_acons (DL.d_var 3 (pv 3)) DL.d_anil))) (DL.t_or1 (DL.t_ne (by rfl) hu (DL.d_len (by rfl) (by rfl) n_len (DL.d_acons (DL.d_ix (by rfl) (fun _ _ => (by rfl)) (DL.d_var 2 (pv 2)) DL.d_int) DL.d_anil)) (DL.d_len (by rfl) (by rfl) n_len (DL.d_acons (DL.d_ix (by rfl) (fun _ _ => (by rfl)) (DL.d_var 3 (pv 3)) DL.d_int) DL.d_anil))))).pt (DL.s_one (DL.s_ret DL.d_non)) DL.s_nil)
    (DL.s_cons (DL.s_for [4, 5] (passes_of (by rfl)) (by rfl) (DL.i_range1 (by rfl) n_range (DL.d_acons (DL.d_len (by rfl) (by rfl) n_len (DL.d_acons (DL.d_var 3 (pv 3)) DL.d_anil)) DL.d_anil)) (DL.g_name 4 nd (by rfl) (by first | exact Or.inl (by rfl) | exact Or.inr (by rfl)))
    (DL.s_one (DL.s_for [5] (passes_of (by rfl)) (by rfl) (DL.i_range1 (by rfl) n_range (DL.d_acons (DL.d_len (by rfl) (by rfl) n_len (DL.d_acons (DL.d_ix (by rfl) (fun _ _ => (by rfl)) (DL.d_var 3 (pv 3)) DL.d_int) DL.d_anil)) DL.d_anil)) (DL.g_name 5 nd (by rfl) (by first | exact Or.inl (by rfl) | exact Or.inr (by rfl)))
    (DL.s_one (DL.s_if (DL.t_eq (by rfl) hu (DL.d_ofF (DL.f_fn c_shift_rows hr (by decide) (takes_of (by rfl) (by rfl) (by rfl) (by rfl)) (by rfl) (DL.d_acons (DL.d_var 3 (pv 3)) (DL.d_acons (DL.d_var 4 (pv 4)) (DL.d_acons (DL.d_var 5 (pv 5)) DL.d_anil))) (DL.len_cons (DL.len_cons (DL.len_cons DL.len_nil))))) (DL.d_var 2 (pv 2))) (DL.s_one (DL.s_ret (DL.d_tup (DL.d_acons (DL.d_var 4 (pv 4)) (DL.d_acons (DL.d_var 5 (pv 5)) DL.d_anil))))) DL.s_nil)) (by decide))) (by decide))
    (DL.s_one (DL.s_ret DL.d_non))))))))
theorem bi_same_up_to_shift {K : PySem.W.Frag} {f : Addr} {fd : FuncData} (F : FunD K "same_up_to_shift" "same_up_to_shift" (defArgs (top 14)) (defBody (top 14)) (defScope (top 14)) [] [] f fd) : Binds K fd ["first", "second"] [] := FunD.bindsN F fun _ _ _ _ _ _ us hl => match us, hl with | [_, _], _ => rfl
theorem ok_same_up_to_shift {P : Program} {w : World} {K : PySem.W.Frag} {mg : Str → Option Value} {base : Heap} {f : Addr} {fd : FuncData} (F : FunD K "same_up_to_shift" "same_up_to_shift" (defArgs (top 14)) (defBody (top 14)) (defScope (top 14)) [] [] f fd) (hg : mg "same_up_to_shift" = some (.ref f)) (c_check_cloth : DefOk P w K mg base "check_cloth" 1 1 m_check_cloth) (c_repeat_of : DefOk P w K mg base "repeat_of" 3 1 m_repeat_of) (c_shift_rows : DefOk P w K mg base "shift_rows" 1 3 m_shift_rows) (n_len : mg "len" = none) (n_range : mg "range" = none) : DefOk P w K mg base "same_up_to_shift" 4 2 m_same_up_to_shift :=
  def_ok F hg sc_same_up_to_shift rfl (bi_same_up_to_shift F) (t_same_up_to_shift c_check_cloth c_repeat_of c_shift_rows n_len n_range)
/-! ### _law_shift: slots 0=cloth 1=a 2=b 3=rows 4=k 5=row -/
def l1__law_shift : En → Out := (seqS (setS 5 ([0] ++ []) (op2 dIx (var 0) (op2 dMod (opA dInt (aCons (op2 dAdd (var 4) (var 1)) aNil)) (opA dLen (aCons (var 0) aNil)))))
    (appS 3 ([5] ++ [5]) (op2 dAdd (sliceE (var 5) (pI (op2 dMod (opA dInt (aCons (var 2) aNil)) (opA dLen (aCons (var 5) aNil)))) pN) (sliceE (var 5) pN (pI (op2 dMod (opA dInt (aCons (var 2) aNil)) (opA dLen (aCons (var 5) aNil))))))))
def b__law_shift : En → Out := (seqS (setF 3 [] (lstE aNil))
    (seqS (forS [] [4, 5] (bName 4) (rgE rgF1 (aCons (opA dLen (aCons (var 0) aNil)) aNil)) l1__law_shift)
    (retV 3)))
def m__law_shift : List D → R OD := mOf 3 6 b__law_shift
theorem sc__law_shift : FnScope ["cloth", "a", "b", "rows", "k", "row"] ["cloth", "a", "b"] (defScope (top 21)) := C8.fnScope_by (by decide +kernel)
theorem t__law_shift {P : Program} {w : World} {K : PySem.W.Frag} {mg : Str → Option Value} {base : Heap} {f : Addr} (n_len : mg "len" = none) (n_range : mg "range" = none) (n_int : mg "int" = none) (cdv : Value) (A : Around) (outer : List Env) (s : Shared) (H : Hp) (E : XK) (O : Addr → Prop) (hr : Room 0 (A.deeper (envOfC "_law_shift" (defScope (top 21)) s.heap.objs.size f cdv))) : PSs (cxOf (L2.CX P w) P w K mg base ["cloth", "a", "b", "rows", "k", "row"] "_law_shift" (defScope (top 21)) f cdv A outer s H E) (defBody (top 21)) (tS ⟨⟨K, mg, none⟩, O, fun _ => False, H⟩ (fun c d _ H' => E c d H') ([3] ++ (([4] ++ ([5] ++ [3])) ++ [])) b__law_shift) := by
  have hu := hu64 hr
  have nd := (sc__law_shift).nd
  exact (DL.s_cons (DL.s_setF 3 nd (by rfl) (by first | exact Or.inl (by rfl) | exact Or.inr (by rfl)) (DL.f_lst DL.d_anil))
    (DL.s_cons (DL.s_for [4, 5] (passes_of (by rfl)) (by rfl) (DL.i_range1 (by rfl) n_range (DL.d_acons (DL.d_len (by rfl) (by rfl) n_len (DL.d_acons (DL.d_var 0 (pv 0)) DL.d_anil)) DL.d_anil)) (DL.g_name 4 nd (by rfl) (by first | exact Or.inl (by rfl) | exact Or.inr (by rfl)))
    (DL.s_cons (DL.s_set 5 nd (by rfl) (by first | exact Or.inl (by rfl) | exact Or.inr (by rfl)) (DL.d_ix (by rfl) (fun _ _ => (by rfl)) (DL.d_var 0 (pv 0)) (DL.d_mod (DL.d_toInt (by rfl) n_int (DL.d_acons (DL.d_add (DL.d_var 4 (pv 4)) (DL.d_var 1 (pv 1))) DL.d_anil)) (DL.d_len (by rfl) (by rfl) n_len (DL.d_acons (DL.d_var 0 (pv 0)) DL.d_anil)))))
    (DL.s_one (DL.s_app 3 (pv 3) (DL.d_add (DL.d_sl (by rfl) (DL.d_var 5 (pv 5)) (DL.p_some (DL.d_mod (DL.d_toInt (by rfl) n_int (DL.d_acons (DL.d_var 2 (pv 2)) DL.d_anil)) (DL.d_len (by rfl) (by rfl) n_len (DL.d_acons (DL.d_var 5 (pv 5)) DL.d_anil)))) DL.p_none) (DL.d_sl (by rfl) (DL.d_var 5 (pv 5)) DL.p_none (DL.p_some (DL.d_mod (DL.d_toInt (by rfl) n_int (DL.d_acons (DL.d_var 2 (pv 2)) DL.d_anil)) (DL.d_len (by rfl) (by rfl) n_len (DL.d_acons (DL.d_var 5 (pv 5)) DL.d_anil))))))))) (by decide))
    (DL.s_one (DL.s_retV 3 (fun _ z => z) (pv 3)))))
theorem bi__law_shift {K : PySem.W.Frag} {f : Addr} {fd : FuncData} (F : FunD K "_law_shift" "_law_shift" (defArgs (top 21)) (defBody (top 21)) (defScope (top 21)) [] [] f fd) : Binds K fd ["cloth", "a", "b"] [] := FunD.bindsN F fun _ _ _ _ _ _ us hl => match us, hl with | [_, _, _], _ => rfl
theorem ok__law_shift {P : Program} {w : World} {K : PySem.W.Frag} {mg : Str → Option Value} {base : Heap} {f : Addr} {fd : FuncData} (F : FunD K "_law_shift" "_law_shift" (defArgs (top 21)) (defBody (top 21)) (defScope (top 21)) [] [] f fd) (hg : mg "_law_shift" = some (.ref f)) (n_len : mg "len" = none) (n_range : mg "range" = none) (n_int : mg "int" = none) : DefOk P w K mg base "_law_shift" 1 3 m__law_shift :=
  def_ok F hg sc__law_shift rfl (bi__law_shift F) (t__law_shift n_len n_range n_int)
/-! ### _law_cell: slots 0=script 1=k -/
def b__law_cell : En → Out := (seqS (ifS (tst (op2 dLt (var 1) (opA dLen (aCons (var 0) aNil)))) (retS ([0] ++ [1]) (op2 dIx (var 0) (var 1))) nxS)
    (retS [] (con (.int 0))))
def m__law_cell : List D → R OD := mOf 2 2 b__law_cell
theorem sc__law_cell : FnScope ["script", "k"] ["script", "k"] (defScope (top 16)) := C8.fnScope_by (by decide +kernel)
theorem t__law_cell {P : Program} {w : World} {K : PySem.W.Frag} {mg : Str → Option Value} {base : Heap} {f : Addr} (n_len : mg "len" = none) (cdv : Value) (A : Around) (outer : List Env) (s : Shared) (H : Hp) (E : XK) (O : Addr → Prop) (hr : Room 0 (A.deeper (envOfC "_law_cell" (defScope (top 16)) s.heap.objs.size f cdv))) : PSs (cxOf (L2.CX P w) P w K mg base ["script", "k"] "_law_cell" (defScope (top 16)) f cdv A outer s H E) (defBody (top 16)) (tS ⟨⟨K, mg, none⟩, O, fun _ => False, H⟩ (fun c d _ H' => E c d H') (([] ++ []) ++ []) b__law_cell) := by
  have hu := hu64 hr
  have nd := (sc__law_cell).nd
  exact (DL.s_cons (DL.s_if (DL.t_lt (DL.d_var 1 (pv 1)) (DL.d_len (by rfl) (by rfl) n_len (DL.d_acons (DL.d_var 0 (pv 0)) DL.d_anil))) (DL.s_one (DL.s_ret (DL.d_ix (by rfl) (fun _ _ => (by rfl)) (DL.d_var 0 (pv 0)) (DL.d_var 1 (pv 1))))) DL.s_nil)
    (DL.s_one (DL.s_ret DL.d_int)))
theorem bi__law_cell {K : PySem.W.Frag} {f : Addr} {fd : FuncData} (F : FunD K "_law_cell" "_law_cell" (defArgs (top 16)) (defBody (top 16)) (defScope (top 16)) [] [] f fd) : Binds K fd ["script", "k"] [] := FunD.bindsN F fun _ _ _ _ _ _ us hl => match us, hl with | [_, _], _ => rfl
theorem ok__law_cell {P : Program} {w : World} {K : PySem.W.Frag} {mg : Str → Option Value} {base : Heap} {f : Addr} {fd : FuncData} (F : FunD K "_law_cell" "_law_cell" (defArgs (top 16)) (defBody (top 16)) (defScope (top 16)) [] [] f fd) (hg : mg "_law_cell" = some (.ref f)) (n_len : mg "len" = none) : DefOk P w K mg base "_law_cell" 1 2 m__law_cell :=
  def_ok F hg sc__law_cell rfl (bi__law_cell F) (t__law_cell n_len)
/-! ### _law_turn_over: slots 0=text 1=sign -/
def b__law_turn_over : En → Out := (retS [] (strOp dJoin (con (.str [])) (erE (lcE [0] [1] (bName 1) (itE (var 0)) tYesD (op2 dIx (con (.str [46, 35])) (opA dInt (aCons (op2 dEq (var 1) (con (.str [46]))) aNil)))))))
def m__law_turn_over : List D → R OD := mOf 1 2 b__law_turn_over
theorem sc__law_turn_over : FnScope ["text", "sign"] ["text"] (defScope (top 19)) := C8.fnScope_by (by decide +kernel)
theorem t__law_turn_over {P : Program} {w : World} {K : PySem.W.Frag} {mg : Str → Option Value} {base : Heap} {f : Addr} (n_int : mg "int" = none) (cdv : Value) (A : Around) (outer : List Env) (s : Shared) (H : Hp) (E : XK) (O : Addr → Prop) (hr : Room 0 (A.deeper (envOfC "_law_turn_over" (defScope (top 19)) s.heap.objs.size f cdv))) : PSs (cxOf (L2.CX P w) P w K mg base ["text", "sign"] "_law_turn_over" (defScope (top 19)) f cdv A outer s H E) (defBody (top 19)) (tS ⟨⟨K, mg, none⟩, O, fun _ => False, H⟩ (fun c d _ H' => E c d H') [] b__law_turn_over) := by
  have hu := hu64 hr
  have nd := (sc__law_turn_over).nd
  exact (DL.s_one (DL.s_ret (DL.d_join (by rfl) (DL.d_str [] (by rfl)) (DL.d_ofF (DL.f_lc (by rfl) nd (own := [("sign", 1)]) (E1 := ([] ++ [])) (DL.i_any (by rfl) (DL.d_var 0 (pv 0))) (blkOk_by (N := ["text", "sign"]) (sc := (defScope (top 19))) (by decide +kernel)) (by decide) (fun _ _ _ _ _ _ => (DL.g_name 1 nd (by rfl) (by first | exact Or.inl (by rfl) | exact Or.inr (by rfl)))) (fun _ _ _ _ _ _ => DL.t_nil) (fun _ _ _ _ _ _ => (DL.d_ix (by rfl) (fun _ _ => (by rfl)) (DL.d_str [46, 35] (by rfl)) (DL.d_toInt (by rfl) n_int (DL.d_acons (DL.d_eq (by rfl) hu (DL.d_var 1 (pv 1)) (DL.d_str [46] (by rfl))) DL.d_anil)))))))))
theorem bi__law_turn_over {K : PySem.W.Frag} {f : Addr} {fd : FuncData} (F : FunD K "_law_turn_over" "_law_turn_over" (defArgs (top 19)) (defBody (top 19)) (defScope (top 19)) [] [] f fd) : Binds K fd ["text"] [] := FunD.bindsN F fun _ _ _ _ _ _ us hl => match us, hl with | [_], _ => rfl
theorem ok__law_turn_over {P : Program} {w : World} {K : PySem.W.Frag} {mg : Str → Option Value} {base : Heap} {f : Addr} {fd : FuncData} (F : FunD K "_law_turn_over" "_law_turn_over" (defArgs (top 19)) (defBody (top 19)) (defScope (top 19)) [] [] f fd) (hg : mg "_law_turn_over" = some (.ref f)) (n_int : mg "int" = none) : DefOk P w K mg base "_law_turn_over" 1 1 m__law_turn_over :=
  def_ok F hg sc__law_turn_over rfl (bi__law_turn_over F) (t__law_turn_over n_int)
/-! ### law: slots 0=script 1=cloth 2=other 3=way 4=at 5=small 6=least 7=same 8=due 9=a 10=b 11=told 12=row -/
def l1_law : En → Out := (ifS (andT (tst (op2 dIs (var 8) (con .non))) (tst (op2 dEq (erE (callE m__law_shift (aCons (var 6) (aCons (var 9) (aCons (var 10) aNil))))) (var 5)))) (setS 8 ([9] ++ ([10] ++ [])) (tupE (aCons (var 9) (aCons (var 10) aNil)))) nxS)
def l2_law : En → Out := (forS [] [10] (bName 10) (rgE rgF1 (aCons (opA dLen (aCons (op2 dIx (var 6) (con (.int 0))) aNil)) aNil)) l1_law)
def b_law : En → Out := (seqS (setF 1 ([] ++ ([] ++ ([] ++ []))) (callE m__law_cloth (aCons (opA dAbs (aCons (erE (callE m__law_cell (aCons (var 0) (aCons (con (.int 0)) aNil)))) aNil)) (aCons (con (.int 5)) (aCons (con (.int 5)) aNil)))))
    (seqS (setF 2 ([] ++ ([] ++ ([] ++ []))) (callE m__law_cloth (aCons (opA dAbs (aCons (erE (callE m__law_cell (aCons (var 0) (aCons (con (.int 1)) aNil)))) aNil)) (aCons (con (.int 5)) (aCons (con (.int 5)) aNil)))))
    (seqS (setS 3 [] (op2 dMod (opA dInt (aCons (erE (callE m__law_cell (aCons (var 0) (aCons (con (.int 2)) aNil)))) aNil)) (con (.int 5))))
    (seqS (ifS (tst (op2 dLt (var 3) (con (.int 3)))) (setF 2 ([1] ++ []) (opAF fList (aCons (var 1) aNil))) nxS)
    (seqS (ifS (tst (op2 dLt (var 3) (con (.int 3)))) (setF 2 [] (lcE ([1] ++ ([] ++ [])) [12] (bName 12) (itE (op2 dMul (var 1) (op2 dAdd (con (.int 1)) (op2 dMod (op2 dDiv (opA dInt (aCons (erE (callE m__law_cell (aCons (var 0) (aCons (con (.int 3)) aNil)))) aNil)) (con (.int 2))) (con (.int 2)))))) tYesD (op2 dMul (var 12) (op2 dAdd (con (.int 1)) (op2 dMod (opA dInt (aCons (erE (callE m__law_cell (aCons (var 0) (aCons (con (.int 3)) aNil)))) aNil)) (con (.int 2))))))) nxS)
    (seqS (ifS (tst (op2 dIn (var 3) (erE (lstE (aCons (con (.int 1)) (aCons (con (.int 2)) aNil)))))) (setF 2 ([2] ++ ([] ++ ([] ++ []))) (callE m__law_shift (aCons (var 2) (aCons (op2 dMod (opA dInt (aCons (erE (callE m__law_cell (aCons (var 0) (aCons (con (.int 4)) aNil)))) aNil)) (con (.int 7))) (aCons (op2 dMod (op2 dDiv (opA dInt (aCons (erE (callE m__law_cell (aCons (var 0) (aCons (con (.int 4)) aNil)))) aNil)) (con (.int 7))) (con (.int 7))) aNil))))) nxS)
    (seqS (ifS (tst (op2 dEq (var 3) (con (.int 2)))) (seqS (setS 4 [] (op2 dMod (opA dInt (aCons (erE (callE m__law_cell (aCons (var 0) (aCons (con (.int 5)) aNil)))) aNil)) (opA dLen (aCons (var 2) aNil))))
    (subS 2 ((([2] ++ [4]) ++ []) ++ ([2] ++ [4])) (op2 dAdd (erE (callE m__law_turn_over (aCons (sliceE (op2 dIx (var 2) (var 4)) pN (pI (con (.int 1)))) aNil))) (sliceE (op2 dIx (var 2) (var 4)) (pI (con (.int 1))) pN)) (var 4))) nxS)
    (seqS (setF 5 ([1] ++ []) (callE m__law_repeat (aCons (var 1) aNil)))
    (seqS (setF 6 ([2] ++ []) (callE m__law_repeat (aCons (var 2) aNil)))
    (seqS (ifS (orT (tst (op2 dNe (erE (callE m_repeat_of (aCons (erE (opAF fList (aCons (var 1) aNil))) aNil))) (var 5))) (tst (op2 dNe (erE (callE m_repeat_of (aCons (var 2) aNil))) (var 6)))) (retS [] (con (.bl false))) nxS)
    (seqS (setF 7 ([1] ++ ([2] ++ [])) (callE m_same_endless (aCons (var 1) (aCons (var 2) aNil))))
    (seqS (ifS (orT (notT (tst (op1 (isD .bool) (var 7)))) (tst (op2 dNe (var 7) (op2 dEq (var 5) (var 6))))) (retS [] (con (.bl false))) nxS)
    (seqS (setS 8 [] (con .non))
    (seqS (ifS (andT (tst (op2 dEq (opA dLen (aCons (var 5) aNil)) (opA dLen (aCons (var 6) aNil)))) (tst (op2 dEq (opA dLen (aCons (op2 dIx (var 5) (con (.int 0))) aNil)) (opA dLen (aCons (op2 dIx (var 6) (con (.int 0))) aNil))))) (forS [] [9, 10] (bName 9) (rgE rgF1 (aCons (opA dLen (aCons (var 6) aNil)) aNil)) l2_law) nxS)
    (seqS (setF 11 ([1] ++ ([2] ++ [])) (callE m_same_up_to_shift (aCons (var 1) (aCons (var 2) aNil))))
    (seqS (ifS (tst (op2 dNe (var 11) (var 8))) (retS [] (con (.bl false))) nxS)
    (retS [] (andV (op2 dEq (erE (callE m_same_up_to_shift (aCons (var 1) (aCons (var 1) aNil)))) (tupE (aCons (con (.int 0)) (aCons (con (.int 0)) aNil)))) (op2 dIs (erE (callE m_same_endless (aCons (var 2) (aCons (var 6) aNil)))) (con (.bl true)))))))))))))))))))))
def m_law : List D → R OD := mOf 1 13 b_law
theorem sc_law : FnScope ["script", "cloth", "other", "way", "at", "small", "least", "same", "due", "a", "b", "told", "row"] ["script"] (defScope (top 22)) := C8.fnScope_by (by decide +kernel)
theorem t_law {P : Program} {w : World} {K : PySem.W.Frag} {mg : Str → Option Value} {base : Heap} {f : Addr} (c__law_cloth : DefOk P w K mg base "_law_cloth" 2 3 m__law_cloth) (c__law_cell : DefOk P w K mg base "_law_cell" 1 2 m__law_cell) (c__law_shift : DefOk P w K mg base "_law_shift" 1 3 m__law_shift) (c__law_turn_over : DefOk P w K mg base "_law_turn_over" 1 1 m__law_turn_over) (c__law_repeat : DefOk P w K mg base "_law_repeat" 1 1 m__law_repeat) (c_repeat_of : DefOk P w K mg base "repeat_of" 3 1 m_repeat_of) (c_same_endless : DefOk P w K mg base "same_endless" 4 2 m_same_endless) (c_same_up_to_shift : DefOk P w K mg base "same_up_to_shift" 4 2 m_same_up_to_shift) (n_abs : mg "abs" = none) (n_int : mg "int" = none) (n_list : mg "list" = none) (n_len : mg "len" = none) (n_isinstance : mg "isinstance" = none) (n_bool : mg "bool" = none) (n_range : mg "range" = none) (cdv : Value) (A : Around) (outer : List Env) (s : Shared) (H : Hp) (E : XK) (O : Addr → Prop) (hr : Room 4 (A.deeper (envOfC "law" (defScope (top 22)) s.heap.objs.size f cdv))) : PSs (cxOf (L2.CX P w) P w K mg base ["script", "cloth", "other", "way", "at", "small", "least", "same", "due", "a", "b", "told", "row"] "law" (defScope (top 22)) f cdv A outer s H E) (defBody (top 22)) (tS ⟨⟨K, mg, none⟩, O, fun _ => False, H⟩ (fun c d _ H' => E c d H') ([1] ++ ([2] ++ ([3] ++ (([2] ++ []) ++ (([2] ++ []) ++ (([2] ++ []) ++ ((([4] ++ [2]) ++ []) ++ ([5] ++ ([6] ++ (([] ++ []) ++ ([7] ++ (([] ++ []) ++ ([8] ++ ((([9] ++ ([10] ++ ([8] ++ []))) ++ []) ++ ([11] ++ (([] ++ []) ++ [])))))))))))))))) b_law) := by
  have hu := hu64 hr
  have nd := (sc_law).nd
  exact (DL.s_cons (DL.s_setF 1 nd (by rfl) (by first | exact Or.inl (by rfl) | exact Or.inr (by rfl)) (DL.f_fn c__law_cloth hr (by decide) (takes_of (by rfl) (by rfl) (by rfl) (by rfl)) (by rfl) (DL.d_acons (DL.d_abs (by rfl) n_abs (DL.d_acons (DL.d_ofF (DL.f_fn c__law_cell hr (by decide) (takes_of (by rfl) (by rfl) (by rfl) (by rfl)) (by rfl) (DL.d_acons (DL.d_var 0 (pv 0)) (DL.d_acons DL.d_int DL.d_anil)) (DL.len_cons (DL.len_cons DL.len_nil)))) DL.d_anil)) (DL.d_acons DL.d_int (DL.d_acons DL.d_int DL.d_anil))) (DL.len_cons (DL.len_cons (DL.len_cons DL.len_nil)))))
    (DL.s_cons (DL.s_setF 2 nd (by rfl) (by first | exact Or.inl (by rfl) | exact Or.inr (by rfl)) (DL.f_fn c__law_cloth hr (by decide) (takes_of (by rfl) (by rfl) (by rfl) (by rfl)) (by rfl) (DL.d_acons (DL.d_abs (by rfl) n_abs (DL.d_acons (DL.d_ofF (DL.f_fn c__law_cell hr (by decide) (takes_of (by rfl) (by rfl) (by rfl) (by rfl)) (by rfl) (DL.d_acons (DL.d_var 0 (pv 0)) (DL.d_acons DL.d_int DL.d_anil)) (DL.len_cons (DL.len_cons DL.len_nil)))) DL.d_anil)) (DL.d_acons DL.d_int (DL.d_acons DL.d_int DL.d_anil))) (DL.len_cons (DL.len_cons (DL.len_cons DL.len_nil)))))
    (DL.s_cons (DL.s_set 3 nd (by rfl) (by first | exact Or.inl (by rfl) | exact Or.inr (by rfl)) (DL.d_mod (DL.d_toInt (by rfl) n_int (DL.d_acons (DL.d_ofF (DL.f_fn c__law_cell hr (by decide) (takes_of (by rfl) (by rfl) (by rfl) (by rfl)) (by rfl) (DL.d_acons (DL.d_var 0 (pv 0)) (DL.d_acons DL.d_int DL.d_anil)) (DL.len_cons (DL.len_cons DL.len_nil)))) DL.d_anil)) DL.d_int))
    (DL.s_cons (DL.s_if (DL.t_lt (DL.d_var 3 (pv 3)) DL.d_int) (DL.s_one (DL.s_setF 2 nd (by rfl) (by first | exact Or.inl (by rfl) | exact Or.inr (by rfl)) (DL.f_list (by rfl) (by rfl) n_list (DL.d_acons (DL.d_var 1 (pv 1)) DL.d_anil)))) DL.s_nil)
    (DL.s_cons (DL.s_if (DL.t_lt (DL.d_var 3 (pv 3)) DL.d_int) (DL.s_one (DL.s_setLc (i := 2) (hN := nd) (hy := (by rfl)) (hyl := (by rfl)) (hsw := (sw_true (by rfl) (by rfl) (by rfl) (by decide +kernel))) (hc := (by rfl)) (own := [("row", 12)]) (E1 := ([12] ++ ([] ++ []))) (DL.i_any (by rfl) (DL.d_mul (DL.d_var 1 (pv 1)) (DL.d_add DL.d_int (DL.d_mod (DL.d_div (DL.d_toInt (by rfl) n_int (DL.d_acons (DL.d_ofF (DL.f_fn c__law_cell hr (by decide) (takes_of (by rfl) (by rfl) (by rfl) (by rfl)) (by rfl) (DL.d_acons (DL.d_var 0 (pv 0)) (DL.d_acons DL.d_int DL.d_anil)) (DL.len_cons (DL.len_cons DL.len_nil)))) DL.d_anil)) DL.d_int) DL.d_int)))) (blkOk_by (N := ["script", "cloth", "other", "way", "at", "small", "least", "same", "due", "a", "b", "told", "row"]) (sc := (defScope (top 22))) (by decide +kernel)) (by decide) (fun _ _ _ _ _ _ => (DL.g_name 12 nd (by rfl) (by first | exact Or.inl (by rfl) | exact Or.inr (by rfl)))) (fun _ _ _ _ _ _ => DL.t_nil) (fun _ _ _ _ _ _ => (DL.d_mul (DL.d_var 12 (pv 12)) (DL.d_add DL.d_int (DL.d_mod (DL.d_toInt (by rfl) n_int (DL.d_acons (DL.d_ofF (DL.f_fn c__law_cell hr (by decide) (takes0) (by rfl) (DL.d_acons (DL.d_var 0 (pv 0)) (DL.d_acons DL.d_int DL.d_anil)) (DL.len_cons (DL.len_cons DL.len_nil)))) DL.d_anil)) DL.d_int)))))) DL.s_nil)
    (DL.s_cons (DL.s_if (DL.t_in (by rfl) hu (DL.d_var 3 (pv 3)) (DL.d_ofF (DL.f_lst (DL.d_acons DL.d_int (DL.d_acons DL.d_int DL.d_anil))))) (DL.s_one (DL.s_setF 2 nd (by rfl) (by first | exact Or.inl (by rfl) | exact Or.inr (by rfl)) (DL.f_fn c__law_shift hr (by decide) (takes_of (by rfl) (by rfl) (by rfl) (by rfl)) (by rfl) (DL.d_acons (DL.d_var 2 (pv 2)) (DL.d_acons (DL.d_mod (DL.d_toInt (by rfl) n_int (DL.d_acons (DL.d_ofF (DL.f_fn c__law_cell hr (by decide) (takes_of (by rfl) (by rfl) (by rfl) (by rfl)) (by rfl) (DL.d_acons (DL.d_var 0 (pv 0)) (DL.d_acons DL.d_int DL.d_anil)) (DL.len_cons (DL.len_cons DL.len_nil)))) DL.d_anil)) DL.d_int) (DL.d_acons (DL.d_mod (DL.d_div (DL.d_toInt (by rfl) n_int (DL.d_acons (DL.d_ofF (DL.f_fn c__law_cell hr (by decide) (takes_of (by rfl) (by rfl) (by rfl) (by rfl)) (by rfl) (DL.d_acons (DL.d_var 0 (pv 0)) (DL.d_acons DL.d_int DL.d_anil)) (DL.len_cons (DL.len_cons DL.len_nil)))) DL.d_anil)) DL.d_int) DL.d_int) DL.d_anil))) (DL.len_cons (DL.len_cons (DL.len_cons DL.len_nil)))))) DL.s_nil)
    (DL.s_cons (DL.s_if (DL.t_eq (by rfl) hu (DL.d_var 3 (pv 3)) DL.d_int) (DL.s_cons (DL.s_set 4 nd (by rfl) (by first | exact Or.inl (by rfl) | exact Or.inr (by rfl)) (DL.d_mod (DL.d_toInt (by rfl) n_int (DL.d_acons (DL.d_ofF (DL.f_fn c__law_cell hr (by decide) (takes_of (by rfl) (by rfl) (by rfl) (by rfl)) (by rfl) (DL.d_acons (DL.d_var 0 (pv 0)) (DL.d_acons DL.d_int DL.d_anil)) (DL.len_cons (DL.len_cons DL.len_nil)))) DL.d_anil)) (DL.d_len (by rfl) (by rfl) n_len (DL.d_acons (DL.d_var 2 (pv 2)) DL.d_anil))))
    (DL.s_one (DL.s_sub 2 (pv 2) (DL.d_add (DL.d_ofF (DL.f_fn c__law_turn_over hr (by decide) (takes_of (by rfl) (by rfl) (by rfl) (by rfl)) (by rfl) (DL.d_acons (DL.d_sl (by rfl) (DL.d_ix (by rfl) (fun _ _ => (by rfl)) (DL.d_var 2 (pv 2)) (DL.d_var 4 (pv 4))) DL.p_none (DL.p_some DL.d_int)) DL.d_anil) (DL.len_cons DL.len_nil))) (DL.d_sl (by rfl) (DL.d_ix (by rfl) (fun _ _ => (by rfl)) (DL.d_var 2 (pv 2)) (DL.d_var 4 (pv 4))) (DL.p_some DL.d_int) DL.p_none)) (DL.d_var 4 (pv 4))))) DL.s_nil)
    (DL.s_cons (DL.s_setF 5 nd (by rfl) (by first | exact Or.inl (by rfl) | exact Or.inr (by rfl)) (DL.f_fn c__law_repeat hr (by decide) (takes_of (by rfl) (by rfl) (by rfl) (by rfl)) (by rfl) (DL.d_acons (DL.d_var 1 (pv 1)) DL.d_anil) (DL.len_cons DL.len_nil)))
    (DL.s_cons (DL.s_setF 6 nd (by rfl) (by first | exact Or.inl (by rfl) | exact Or.inr (by rfl)) (DL.f_fn c__law_repeat hr (by decide) (takes_of (by rfl) (by rfl) (by rfl) (by rfl)) (by rfl) (DL.d_acons (DL.d_var 2 (pv 2)) DL.d_anil) (DL.len_cons DL.len_nil)))
    (DL.s_cons (DL.s_if (DL.d_or (DL.t_ne (by rfl) hu (DL.d_ofF (DL.f_fn c_repeat_of hr (by decide) (takes_of (by rfl) (by rfl) (by rfl) (by rfl)) (by rfl) (DL.d_acons (DL.d_ofF (DL.f_list (by rfl) (by rfl) n_list (DL.d_acons (DL.d_var 1 (pv 1)) DL.d_anil))) DL.d_anil) (DL.len_cons DL.len_nil))) (DL.d_var 5 (pv 5))) (DL.t_or1 (DL.t_ne (by rfl) hu (DL.d_ofF (DL.f_fn c_repeat_of hr (by decide) (takes_of (by rfl) (by rfl) (by rfl) (by rfl)) (by rfl) (DL.d_acons (DL.d_var 2 (pv 2)) DL.d_anil) (DL.len_cons DL.len_nil))) (DL.d_var 6 (pv 6))))).pt (DL.s_one (DL.s_ret DL.d_bl)) DL.s_nil)
    (DL.s_cons (DL.s_setF 7 nd (by rfl) (by first | exact Or.inl (by rfl) | exact Or.inr (by rfl)) (DL.f_fn c_same_endless hr (by decide) (takes_of (by rfl) (by rfl) (by rfl) (by rfl)) (by rfl) (DL.d_acons (DL.d_var 1 (pv 1)) (DL.d_acons (DL.d_var 2 (pv 2)) DL.d_anil)) (DL.len_cons (DL.len_cons DL.len_nil))))
    (DL.s_cons (DL.s_if (DL.d_or (DL.d_not (DL.t_of (DL.d_isi .bool (by rfl) (by rfl) n_isinstance (by rfl) n_bool (by rfl) (DL.d_var 7 (pv 7))))) (DL.t_or1 (DL.t_ne (by rfl) hu (DL.d_var 7 (pv 7)) (DL.d_eq (by rfl) hu (DL.d_var 5 (pv 5)) (DL.d_var 6 (pv 6)))))).pt (DL.s_one (DL.s_ret DL.d_bl)) DL.s_nil)
    (DL.s_cons (DL.s_set 8 nd (by rfl) (by first | exact Or.inl (by rfl) | exact Or.inr (by rfl)) DL.d_non)
    (DL.s_cons (DL.s_if (DL.d_and (DL.t_eq (by rfl) hu (DL.d_len (by rfl) (by rfl) n_len (DL.d_acons (DL.d_var 5 (pv 5)) DL.d_anil)) (DL.d_len (by rfl) (by rfl) n_len (DL.d_acons (DL.d_var 6 (pv 6)) DL.d_anil))) (DL.t_and1 (DL.t_eq (by rfl) hu (DL.d_len (by rfl) (by rfl) n_len (DL.d_acons (DL.d_ix (by rfl) (fun _ _ => (by rfl)) (DL.d_var 5 (pv 5)) DL.d_int) DL.d_anil)) (DL.d_len (by rfl) (by rfl) n_len (DL.d_acons (DL.d_ix (by rfl) (fun _ _ => (by rfl)) (DL.d_var 6 (pv 6)) DL.d_int) DL.d_anil))))).pt (DL.s_one (DL.s_for [9, 10] (passes_of (by rfl)) (by rfl) (DL.i_range1 (by rfl) n_range (DL.d_acons (DL.d_len (by rfl) (by rfl) n_len (DL.d_acons (DL.d_var 6 (pv 6)) DL.d_anil)) DL.d_anil)) (DL.g_name 9 nd (by rfl) (by first | exact Or.inl (by rfl) | exact Or.inr (by rfl)))
    (DL.s_one (DL.s_for [10] (passes_of (by rfl)) (by rfl) (DL.i_range1 (by rfl) n_range (DL.d_acons (DL.d_len (by rfl) (by rfl) n_len (DL.d_acons (DL.d_ix (by rfl) (fun _ _ => (by rfl)) (DL.d_var 6 (pv 6)) DL.d_int) DL.d_anil)) DL.d_anil)) (DL.g_name 10 nd (by rfl) (by first | exact Or.inl (by rfl) | exact Or.inr (by rfl)))
    (DL.s_one (DL.s_if (DL.d_and (DL.t_is (DL.d_var 8 (pv 8)) DL.d_non) (DL.t_and1 (DL.t_eq (by rfl) hu (DL.d_ofF (DL.f_fn c__law_shift hr (by decide) (takes_of (by rfl) (by rfl) (by rfl) (by rfl)) (by rfl) (DL.d_acons (DL.d_var 6 (pv 6)) (DL.d_acons (DL.d_var 9 (pv 9)) (DL.d_acons (DL.d_var 10 (pv 10)) DL.d_anil))) (DL.len_cons (DL.len_cons (DL.len_cons DL.len_nil))))) (DL.d_var 5 (pv 5))))).pt (DL.s_one (DL.s_set 8 nd (by rfl) (by first | exact Or.inl (by rfl) | exact Or.inr (by rfl)) (DL.d_tup (DL.d_acons (DL.d_var 9 (pv 9)) (DL.d_acons (DL.d_var 10 (pv 10)) DL.d_anil))))) DL.s_nil)) (by decide))) (by decide))) DL.s_nil)
    (DL.s_cons (DL.s_setF 11 nd (by rfl) (by first | exact Or.inl (by rfl) | exact Or.inr (by rfl)) (DL.f_fn c_same_up_to_shift hr (by decide) (takes_of (by rfl) (by rfl) (by rfl) (by rfl)) (by rfl) (DL.d_acons (DL.d_var 1 (pv 1)) (DL.d_acons (DL.d_var 2 (pv 2)) DL.d_anil)) (DL.len_cons (DL.len_cons DL.len_nil))))
    (DL.s_cons (DL.s_if (DL.t_ne (by rfl) hu (DL.d_var 11 (pv 11)) (DL.d_var 8 (pv 8))) (DL.s_one (DL.s_ret DL.d_bl)) DL.s_nil)
    (DL.s_one (DL.s_ret (DL.v_and (DL.d_eq (by rfl) hu (DL.d_ofF (DL.f_fn c_same_up_to_shift hr (by decide) (takes_of (by rfl) (by rfl) (by rfl) (by rfl)) (by rfl) (DL.d_acons (DL.d_var 1 (pv 1)) (DL.d_acons (DL.d_var 1 (pv 1)) DL.d_anil)) (DL.len_cons (DL.len_cons DL.len_nil)))) (DL.d_tup (DL.d_acons DL.d_int (DL.d_acons DL.d_int DL.d_anil)))) (DL.d_one (DL.d_is (DL.d_ofF (DL.f_fn c_same_endless hr (by decide) (takes_of (by rfl) (by rfl) (by rfl) (by rfl)) (by rfl) (DL.d_acons (DL.d_var 2 (pv 2)) (DL.d_acons (DL.d_var 6 (pv 6)) DL.d_anil)) (DL.len_cons (DL.len_cons DL.len_nil)))) DL.d_bl)))))))))))))))))))))
theorem bi_law {K : PySem.W.Frag} {f : Addr} {fd : FuncData} (F : FunD K "law" "law" (defArgs (top 22)) (defBody (top 22)) (defScope (top 22)) [] [] f fd) : Binds K fd ["script"] [] := FunD.bindsN F fun _ _ _ _ _ _ us hl => match us, hl with | [_], _ => rfl
theorem ok_law {P : Program} {w : World} {K : PySem.W.Frag} {mg : Str → Option Value} {base : Heap} {f : Addr} {fd : FuncData} (F : FunD K "law" "law" (defArgs (top 22)) (defBody (top 22)) (defScope (top 22)) [] [] f fd) (hg : mg "law" = some (.ref f)) (c__law_cloth : DefOk P w K mg base "_law_cloth" 2 3 m__law_cloth) (c__law_cell : DefOk P w K mg base "_law_cell" 1 2 m__law_cell) (c__law_shift : DefOk P w K mg base "_law_shift" 1 3 m__law_shift) (c__law_turn_over : DefOk P w K mg base "_law_turn_over" 1 1 m__law_turn_over) (c__law_repeat : DefOk P w K mg base "_law_repeat" 1 1 m__law_repeat) (c_repeat_of : DefOk P w K mg base "repeat_of" 3 1 m_repeat_of) (c_same_endless : DefOk P w K mg base "same_endless" 4 2 m_same_endless) (c_same_up_to_shift : DefOk P w K mg base "same_up_to_shift" 4 2 m_same_up_to_shift) (n_abs : mg "abs" = none) (n_int : mg "int" = none) (n_list : mg "list" = none) (n_len : mg "len" = none) (n_isinstance : mg "isinstance" = none) (n_bool : mg "bool" = none) (n_range : mg "range" = none) : DefOk P w K mg base "law" 5 1 m_law :=
  def_ok F hg sc_law rfl (bi_law F) (t_law c__law_cloth c__law_cell c__law_shift c__law_turn_over c__law_repeat c_repeat_of c_same_endless c_same_up_to_shift n_abs n_int n_list n_len n_isinstance n_bool n_range)
end K02
set_option Elab.async false
set_option linter.all false
set_option maxRecDepth 100000
namespace DLC
open PySem L2 DL
def l1__law_cloth : En → Out := (seqS (setF 8 (([] ++ ([] ++ [7])) ++ ([] ++ [])) (callE m__law_draw (aCons (op2 dAdd (op2 dDiv (var 0) (con (.int 7))) (op2 dMul (con (.int 31)) (var 7))) (aCons (erE (lcE [] [9] (bName 9) (rgE rgF1 (aCons (var 5) aNil)) tYesD (con (.int 4)))) aNil))))
    (appS 6 [] (strOp dJoin (con (.str [])) (erE (lcE [8] [10] (bName 10) (itE (var 8)) tYesD (op2 dIx (con (.str [46, 35])) (opA dInt (aCons (orV (op2 dLt (var 10) (con (.int 2))) (andV (op2 dEq (var 10) (con (.int 2))) (op2 dGt (op2 dIx (var 3) (con (.int 2))) (con (.int 3))))) aNil))))))))
def b__law_cloth : En → Out := (seqS (setF 3 ([0] ++ (([1] ++ ([2] ++ ([] ++ []))) ++ [])) (callE m__law_draw (aCons (var 0) (aCons (erE (lstE (aCons (var 1) (aCons (var 2) (aCons (con (.int 6)) aNil))))) aNil))))
    (seqS (setS 4 ([] ++ ([3] ++ [])) (op2 dAdd (con (.int 1)) (op2 dIx (var 3) (con (.int 0)))))
    (seqS (setS 5 ([] ++ ([3] ++ [])) (op2 dAdd (con (.int 1)) (op2 dIx (var 3) (con (.int 1)))))
    (seqS (setF 6 [] (lstE aNil))
    (seqS (forS [] [8] (bName 7) (rgE rgF1 (aCons (var 4) aNil)) l1__law_cloth)
    (seqS (ifS (tst (op2 dEq (op2 dIx (var 3) (con (.int 2))) (con (.int 0)))) (setF 6 ((([6] ++ []) ++ []) ++ [4]) (op2F fRep (erE (lstE (aCons (op2 dIx (var 6) (con (.int 0))) aNil))) (var 4))) nxS)
    (seqS (ifS (tst (op2 dEq (op2 dIx (var 3) (con (.int 2))) (con (.int 1)))) (setF 6 [] (lcE [] [7] (bName 7) (rgE rgF1 (aCons (var 4) aNil)) tYesD (strOp dJoin (con (.str [])) (erE (lcE [] [9] (bName 9) (rgE rgF1 (aCons (var 5) aNil)) tYesD (op2 dIx (con (.str [46, 35])) (op2 dMod (opA dInt (aCons (op2 dAdd (var 7) (var 9)) aNil)) (con (.int 2))))))))) nxS)
    (seqS (ifS (andT (tst (op2 dEq (op2 dIx (var 3) (con (.int 2))) (con (.int 2)))) (tst (op2 dGt (var 4) (con (.int 1))))) (setF 6 ([6] ++ [6]) (op2F fCat (sliceE (var 6) pN (pI (op2 dAdd (con (.int 1)) (op2 dDiv (var 4) (con (.int 2)))))) (sliceE (var 6) pN (pI (op2 dSub (op2 dSub (var 4) (con (.int 1))) (op2 dDiv (var 4) (con (.int 2)))))))) nxS)
    (retV 6)))))))))
def m__law_cloth : List D → R OD := mOf 3 11 b__law_cloth
/-- a cloth: p texts of e signs, each # or . -/
structure Cl (p e : Nat) (C : List (List Nat)) : Prop where
  len : C.length = p
  row : ∀ r ∈ C, r.length = e
  chr : ∀ r ∈ C, ∀ c ∈ r, c = 35 ∨ c = 46
theorem Cl.app {p e : Nat} {C : List (List Nat)} {r : List Nat} (h : Cl p e C) (h1 : r.length = e) (h2 : ∀ c ∈ r, c = 35 ∨ c = 46) : Cl (p + 1) e (C ++ [r]) where
  len := by simp [h.len]
  row := fun s hs => by
    rcases List.mem_append.mp hs with hs | hs
    · exact h.row s hs
    · rw [List.mem_singleton.mp hs]; exact h1
  chr := fun s hs => by
    rcases List.mem_append.mp hs with hs | hs
    · exact h.chr s hs
    · rw [List.mem_singleton.mp hs]; exact h2
def chB (b : Bool) : Nat := if b then 35 else 46
theorem chB_or (b : Bool) : chB b = 35 ∨ chB b = 46 := by cases b; exact .inr rfl; exact .inl rfl
theorem pick_ch {f : En → R D} {ρ : En} {b : Bool} (h : f ρ = .ok (.bl b)) : op2 dIx (con (.str [46, 35])) (opA dInt (aCons f aNil)) ρ = .ok (.str [chB b]) := by
  cases b <;> simp [mOf, seqS, exprS, setS, setF, retS, retF, retV, retN, nxS, ifS, op1, op2, op2F, aNil, aCons, opA, opAF, erE, callE, tst, andT, orT, notT, andV, orV, notV, asB, var, con, sliceE, sliceF, pI, pN, asI, ifE, lstE, tupE, strOp, asS, frzIf, frzO, frz, frz1, D.flat, OD.fl_sh, List.replicate, fgt, fgt1, bName, dInt, dAbs, okSz, okLen, h, L2.atI, L2.ixN, chB]
theorem pick_ch2 {f : En → R D} {ρ : En} {i : Int} (h : f ρ = .ok (.int i)) (hi : i = 0 ∨ i = 1) : op2 dIx (con (.str [46, 35])) f ρ = .ok (.str [chB (decide (i = 1))]) := by
  rcases hi with rfl | rfl <;> simp [mOf, seqS, exprS, setS, setF, retS, retF, retV, retN, nxS, ifS, op1, op2, op2F, aNil, aCons, opA, opAF, erE, callE, tst, andT, orT, notT, andV, orV, notV, asB, var, con, sliceE, sliceF, pI, pN, asI, ifE, lstE, tupE, strOp, asS, frzIf, frzO, frz, frz1, D.flat, OD.fl_sh, List.replicate, fgt, fgt1, bName, dInt, dAbs, okSz, okLen, h, L2.atI, L2.ixN, chB]
theorem chars_map {α : Type} (g : α → Nat) (xs : List α) : (xs.map fun x => D.str [g x]) = (xs.map g).map fun c => D.str [c] := by rw [List.map_map]; rfl
def eC (c mp me a b t : Int) (p e : Nat) (rows : OD) (o7 o8 : Option OD) : En := [some (.sh (.int c)), some (.sh (.int mp)), some (.sh (.int me)), some (.lst [.sh (.int a), .sh (.int b), .sh (.int t)]), some (.sh (.int p)), some (.sh (.int e)), some rows, o7, o8, none, none]
def oS (C : List (List Nat)) : OD := .lst (C.map fun r => .sh (.str r))
theorem at3 (x y z : D) : L2.atI [x, y, z] (2 : Int) = some z := rfl
theorem at30 (x y z : D) : L2.atI [x, y, z] (0 : Int) = some x := rfl
theorem at31 (x y z : D) : L2.atI [x, y, z] (1 : Int) = some y := rfl
section
variable {c mp me a b t : Int} {p e : Nat} {C : List (List Nat)} {o7 o8 : Option OD}
theorem cl_bits {row : List Int} {k : Nat} (hl : row.length < 16777216) : strOp dJoin (con (.str [])) (erE (lcE [8] [10] (bName 10) (itE (var 8)) tYesD (op2 dIx (con (.str [46, 35])) (opA dInt (aCons (orV (op2 dLt (var 10) (con (.int 2))) (andV (op2 dEq (var 10) (con (.int 2))) (op2 dGt (op2 dIx (var 3) (con (.int 2))) (con (.int 3))))) aNil)))))
    (eC c mp me a b t p e (oS C) (some (.sh (.int k))) (some (.lst (row.map fun i => .sh (.int i))))) = .ok (.str (row.map fun x => chB (decide (x < 2) || (decide (x = 2) && decide (3 < t))))) := by
  refine join_chars ?_ (by rw [List.length_map]; omega)
  have := lcE_map row D.int (fun x => D.str [chB (decide (x < 2) || (decide (x = 2) && decide (3 < t)))]) (Ee := [8]) (vs := [10]) (bnd := bName 10) (it := itE (var 8)) (f := op2 dIx (con (.str [46, 35])) (opA dInt (aCons (orV (op2 dLt (var 10) (con (.int 2))) (andV (op2 dEq (var 10) (con (.int 2))) (op2 dGt (op2 dIx (var 3) (con (.int 2))) (con (.int 3))))) aNil)))
    (ρ := eC c mp me a b t p e (oS C) (some (.sh (.int k))) (some (.lst (row.map fun i => .sh (.int i))))) (by unfold eC; simp [mOf, seqS, exprS, setS, setF, retS, retF, retV, retN, nxS, ifS, op1, op2, op2F, aNil, aCons, opA, opAF, erE, callE, tst, andT, orT, notT, andV, orV, notV, asB, var, con, sliceE, sliceF, pI, pN, asI, ifE, lstE, tupE, strOp, asS, frzIf, frzO, frz, frz1, D.flat, OD.fl_sh, List.replicate, fgt, fgt1, bName, dInt, dAbs, okSz, okLen, itE, seqD, Function.comp_def]) (by simp [D.flat]) hl fun x hx => by
      unfold eC
      rw [bName, bk_some]
      refine pick_ch ?_
      by_cases h1 : x < 2
      · simp [mOf, seqS, exprS, setS, setF, retS, retF, retV, retN, nxS, ifS, op1, op2, op2F, aNil, aCons, opA, opAF, erE, callE, tst, andT, orT, notT, andV, orV, notV, asB, var, con, sliceE, sliceF, pI, pN, asI, ifE, lstE, tupE, strOp, asS, frzIf, frzO, frz, frz1, D.flat, OD.fl_sh, List.replicate, fgt, fgt1, bName, dInt, dAbs, okSz, okLen, h1]
      · by_cases h2 : x = 2
        · subst h2
          simp [mOf, seqS, exprS, setS, setF, retS, retF, retV, retN, nxS, ifS, op1, op2, op2F, aNil, aCons, opA, opAF, erE, callE, tst, andT, orT, notT, andV, orV, notV, asB, var, con, sliceE, sliceF, pI, pN, asI, ifE, lstE, tupE, strOp, asS, frzIf, frzO, frz, frz1, D.flat, OD.fl_sh, List.replicate, fgt, fgt1, bName, dInt, dAbs, okSz, okLen, dEq, at3]
        · simp [mOf, seqS, exprS, setS, setF, retS, retF, retV, retN, nxS, ifS, op1, op2, op2F, aNil, aCons, opA, opAF, erE, callE, tst, andT, orT, notT, andV, orV, notV, asB, var, con, sliceE, sliceF, pI, pN, asI, ifE, lstE, tupE, strOp, asS, frzIf, frzO, frz, frz1, D.flat, OD.fl_sh, List.replicate, fgt, fgt1, bName, dInt, dAbs, okSz, okLen, h1, h2, dEq]
  unfold erE
  rw [this, R.bind_ok, lstF_er, chars_map]
theorem cl_b7 {k : Int} {rows : OD} : bName 7 (.int k) (eC c mp me a b t p e rows o7 o8) = some (eC c mp me a b t p e rows (some (.sh (.int k))) o8) := rfl
theorem cl_s8 {rows : OD} {x : OD} : (eC c mp me a b t p e rows o7 o8).set 8 (some x) = eC c mp me a b t p e rows o7 (some x) := rfl
theorem cl_f8 {rows : OD} : fgt [8] (eC c mp me a b t p e rows o7 o8) = eC c mp me a b t p e rows o7 none := rfl
theorem cl_s6 {rows : OD} {x : OD} : (eC c mp me a b t p e rows o7 o8).set 6 (some x) = eC c mp me a b t p e x o7 o8 := rfl
theorem cl_o6 {xs : List OD} : ownL 6 (eC c mp me a b t p e (.lst xs) o7 o8) = some xs := rfl
/-- the drawn row of a cloth -/
theorem cl_draw (he : e < 1000) : ∀ k : Nat, ∃ row : List Int, callE m__law_draw (aCons (op2 dAdd (op2 dDiv (var 0) (con (.int 7))) (op2 dMul (con (.int 31)) (var 7))) (aCons (erE (lcE [] [9] (bName 9) (rgE rgF1 (aCons (var 5) aNil)) tYesD (con (.int 4)))) aNil))
    (eC c mp me a b t p e (oS C) (some (.sh (.int k))) o8) = .ok (.lst (row.map fun i => .sh (.int i))) ∧ row.length = e := by
  intro k
  obtain ⟨row, h1, h2, _⟩ := law_draw (c / 7 + 31 * k) ((List.range e).map fun _ => 4) (fun l hl => by obtain ⟨_, _, rfl⟩ := List.mem_map.mp hl; decide) (by simpa using he)
  refine ⟨row, ?_, by simpa using h2⟩
  have hr := lcE_rng (Ee := []) (vs := [9]) (bnd := bName 9) (fa := aCons (var 5) aNil) (f := con (.int 4)) (ρ := eC c mp me a b t p e (oS C) (some (.sh (.int k))) o8) (n := e) (fun _ => .int 4) (by unfold eC; simp [mOf, seqS, exprS, setS, setF, retS, retF, retV, retN, nxS, ifS, op1, op2, op2F, aNil, aCons, opA, opAF, erE, callE, tst, andT, orT, notT, andV, orV, notV, asB, var, con, sliceE, sliceF, pI, pN, asI, ifE, lstE, tupE, strOp, asS, frzIf, frzO, frz, frz1, D.flat, OD.fl_sh, List.replicate, fgt, fgt1, bName, dInt, dAbs, okSz, okLen]) (by omega) (fun x _ => by rw [bName, bk_some]; rfl)
  have m1 : mulOk (31 : Int) k = true := mulOk_l (by decide)
  have e1 : (op2 dAdd (op2 dDiv (var 0) (con (.int 7))) (op2 dMul (con (.int 31)) (var 7))) (eC c mp me a b t p e (oS C) (some (.sh (.int k))) o8) = .ok (.int (c / 7 + 31 * k)) := by
    unfold eC
    simp [mOf, seqS, exprS, setS, setF, retS, retF, retV, retN, nxS, ifS, op1, op2, op2F, aNil, aCons, opA, opAF, erE, callE, tst, andT, orT, notT, andV, orV, notV, asB, var, con, sliceE, sliceF, pI, pN, asI, ifE, lstE, tupE, strOp, asS, frzIf, frzO, frz, frz1, D.flat, OD.fl_sh, List.replicate, fgt, fgt1, bName, dInt, dAbs, okSz, okLen, dDiv, divW_ok, m1]
  have e2 : (erE (lcE [] [9] (bName 9) (rgE rgF1 (aCons (var 5) aNil)) tYesD (con (.int 4)))) (eC c mp me a b t p e (oS C) (some (.sh (.int k))) o8) = .ok (.lst (((List.range e).map fun _ => (4 : Int)).map D.int)) := by
    unfold erE
    rw [hr, R.bind_ok, lstF_er, List.map_map]; rfl
  rw [call2 e1 e2]
  exact h1
theorem cloth_turn {k : Nat} (hp : p < 1000) (he : e < 1000) (hC : Cl k e C) (hkp : k < p) (row : List Int) (e1 : callE m__law_draw (aCons (op2 dAdd (op2 dDiv (var 0) (con (.int 7))) (op2 dMul (con (.int 31)) (var 7))) (aCons (erE (lcE [] [9] (bName 9) (rgE rgF1 (aCons (var 5) aNil)) tYesD (con (.int 4)))) aNil))
    (eC c mp me a b t p e (oS C) (some (.sh (.int k))) none) = .ok (.lst (row.map fun i => .sh (.int i)))) (e2 : row.length = e) :
    (l1__law_cloth (eC c mp me a b t p e (oS C) (some (.sh (.int k))) none)).lk (fun ρ2 => ∃ (C : List (List Nat)) (o7 : Option OD), fgt [8] ρ2 = eC c mp me a b t p e (oS C) o7 none ∧ Cl (k + 1) e C) fun _ => False := by
  unfold l1__law_cloth
  have hb := cl_bits (c := c) (mp := mp) (me := me) (a := a) (b := b) (t := t) (p := p) (e := e) (C := C) (row := row) (k := k) (by omega)
  have h3 : setF 8 (([] ++ ([] ++ [7])) ++ ([] ++ [])) (callE m__law_draw (aCons (op2 dAdd (op2 dDiv (var 0) (con (.int 7))) (op2 dMul (con (.int 31)) (var 7))) (aCons (erE (lcE [] [9] (bName 9) (rgE rgF1 (aCons (var 5) aNil)) tYesD (con (.int 4)))) aNil)))
      (eC c mp me a b t p e (oS C) (some (.sh (.int k))) none) = .nx (eC c mp me a b t p e (oS C) (some (.sh (.int k))) (some (.lst (row.map fun i => .sh (.int i))))) := by
    unfold setF
    rw [e1, R.out_ok]
    unfold frzO
    rw [OD.fl_lst, if_pos (by simp [D.flat]), cl_s8]
  rw [seqS_nx h3]
  have hlen := hC.len
  unfold appS oS
  rw [cl_o6]
  unfold oS at hb
  simp only
  rw [hb, R.out_ok, if_pos (by unfold okLen keeps; simp [D.flat]; omega), frzIf_flat (by rfl), cl_s6, lk_nx, cl_f8]
  refine ⟨C ++ [row.map fun x => chB (decide (x < 2) || (decide (x = 2) && decide (3 < t)))], some (.sh (.int k)), ?_, hC.app (by simpa using e2) ?_⟩
  · simp
  · intro ch hch
    obtain ⟨x, _, rfl⟩ := List.mem_map.mp hch
    exact chB_or _
end
theorem cloth_turn2 (c mp me a b t : Int) (p e k : Nat) (C : List (List Nat)) (hp : p < 1000) (he : e < 1000) (hC : Cl k e C) (hkp : k < p) :
    (l1__law_cloth (eC c mp me a b t p e (oS C) (some (.sh (.int k))) none)).lk (fun ρ2 => ∃ (C : List (List Nat)) (o7 : Option OD), fgt [8] ρ2 = eC c mp me a b t p e (oS C) o7 none ∧ Cl (k + 1) e C) fun _ => False := by
  have hdr := @cl_draw c mp me a b t p e C none he k
  exact hdr.elim fun row h => cloth_turn hp he hC hkp row h.1 h.2
section
variable {c mp me a b t : Int} {p e : Nat} {C : List (List Nat)} {o7 o8 : Option OD}
theorem cl_loop (hp : p < 1000) (he : e < 1000) : ∃ (C : List (List Nat)) (o7 : Option OD), loopS [8] (bName 7) l1__law_cloth (rngL 0 p) (eC c mp me a b t p e (oS []) none none) = .nx (eC c mp me a b t p e (oS C) o7 none) ∧ Cl p e C := by
  obtain ⟨ρ', h1, h2⟩ := loop_inv (fg := [8]) (bnd := bName 7) (body := l1__law_cloth) (rngL 0 p)
    (fun k ρ => ∃ (C : List (List Nat)) (o7 : Option OD), ρ = eC c mp me a b t p e (oS C) o7 none ∧ Cl k e C) (eC c mp me a b t p e (oS []) none none) ⟨[], none, rfl, ⟨rfl, fun _ h => absurd h List.not_mem_nil, fun _ h => absurd h List.not_mem_nil⟩⟩ (by
      rintro k d ρ hd ⟨C, o7, rfl, hC⟩
      obtain ⟨hkp, rfl⟩ := rngL_get hd
      rw [Int.zero_add, cl_b7, bk_some]
      exact cloth_turn2 c mp me a b t p e k C hp he hC hkp)
  obtain ⟨C, o7, rfl, hC⟩ := h2
  rw [rngL_len] at hC
  exact ⟨C, o7, h1, hC⟩
end
theorem fRep_one {x : D} {p : Nat} (h : p < 1000000) : fRep (.lst [x]) (.int p) = some (lstF (List.replicate p x)) := by
  show (if (okSz ([x].length * (p : Int).toNat) && (decide ((p : Int) < 1000000) && decide (-1000000 < (p : Int)))) = true then some (lstF (List.replicate (p : Int).toNat [x]).flatten) else none) = _
  rw [if_pos (by unfold okSz; simp; omega)]
  simp
theorem Cl.of {p e p' : Nat} {C C' : List (List Nat)} (h : Cl p e C) (hl : C'.length = p') (hs : ∀ r ∈ C', r ∈ C) : Cl p' e C' := ⟨hl, fun r hr => h.row r (hs r hr), fun r hr => h.chr r (hs r hr)⟩
section
variable {c mp me a b t : Int} {p e : Nat} {C : List (List Nat)} {o7 o8 : Option OD}
/-- the last three changes of the rows: a cloth each -/
theorem cl_t1 (hC : Cl p e C) (h1 : 1 ≤ p) (hp : p < 1000) : ∃ C', (ifS (tst (op2 dEq (op2 dIx (var 3) (con (.int 2))) (con (.int 0)))) (setF 6 ((([6] ++ []) ++ []) ++ [4]) (op2F fRep (erE (lstE (aCons (op2 dIx (var 6) (con (.int 0))) aNil))) (var 4))) nxS) (eC c mp me a b t p e (oS C) o7 none) = .nx (eC c mp me a b t p e (oS C') o7 none) ∧ Cl p e C' := by
  by_cases ht : t = 0
  · subst ht
    cases C with
    | nil => have := hC.len; simp at this; omega
    | cons r C =>
      refine ⟨List.replicate p r, ?_, hC.of (by simp) fun s hs => by rw [(List.mem_replicate.mp hs).2]; exact List.mem_cons_self⟩
      rw [ifS_t (by unfold eC; simp [mOf, seqS, exprS, setS, setF, retS, retF, retV, retN, nxS, ifS, op1, op2, op2F, aNil, aCons, opA, opAF, erE, callE, tst, andT, orT, notT, andV, orV, notV, asB, var, con, sliceE, sliceF, pI, pN, asI, ifE, lstE, tupE, strOp, asS, frzIf, frzO, frz, frz1, D.flat, OD.fl_sh, List.replicate, fgt, fgt1, bName, dInt, dAbs, okSz, okLen, at3, dEq])]
      have hr : (op2 dIx (var 6) (con (.int 0))) (eC c mp me a b 0 p e (oS (r :: C)) o7 none) = .ok (.str r) := by unfold eC oS; simp [mOf, seqS, exprS, setS, setF, retS, retF, retV, retN, nxS, ifS, op1, op2, op2F, aNil, aCons, opA, opAF, erE, callE, tst, andT, orT, notT, andV, orV, notV, asB, var, con, sliceE, sliceF, pI, pN, asI, ifE, lstE, tupE, strOp, asS, frzIf, frzO, frz, frz1, D.flat, OD.fl_sh, List.replicate, fgt, fgt1, bName, dInt, dAbs, okSz, okLen, atI_zero]
      have h2 : op2F fRep (erE (lstE (aCons (op2 dIx (var 6) (con (.int 0))) aNil))) (var 4) (eC c mp me a b 0 p e (oS (r :: C)) o7 none) = .ok (lstF (List.replicate p (.str r))) := by
        have h3 : erE (lstE (aCons (op2 dIx (var 6) (con (.int 0))) aNil)) (eC c mp me a b 0 p e (oS (r :: C)) o7 none) = .ok (.lst [.str r]) := by
          have h4 : lstE (aCons (op2 dIx (var 6) (con (.int 0))) aNil) (eC c mp me a b 0 p e (oS (r :: C)) o7 none) = .ok (lstF [.str r]) := by
            unfold lstE; rw [args1 hr, R.bind_ok]; rfl
          rw [erE_ok h4, lstF_er]
        have h5 : var 4 (eC c mp me a b 0 p e (oS (r :: C)) o7 none) = .ok (.int p) := rfl
        unfold op2F
        rw [h3, R.bind_ok, h5, R.bind_ok]
        have : (List.replicate p [D.str r]).flatten = List.replicate p (D.str r) := by simp
        rw [fRep_one (by omega)]
        rfl
      unfold setF frzO
      rw [h2, R.out_ok, lstF_eq, OD.fl_lst, if_pos (by simp [D.flat]), cl_s6]
      unfold oS
      simp
  · exact ⟨C, by rw [ifS_f (by unfold eC; simp [mOf, seqS, exprS, setS, setF, retS, retF, retV, retN, nxS, ifS, op1, op2, op2F, aNil, aCons, opA, opAF, erE, callE, tst, andT, orT, notT, andV, orV, notV, asB, var, con, sliceE, sliceF, pI, pN, asI, ifE, lstE, tupE, strOp, asS, frzIf, frzO, frz, frz1, D.flat, OD.fl_sh, List.replicate, fgt, fgt1, bName, dInt, dAbs, okSz, okLen, at3, dEq, ht])]; rfl, hC⟩
theorem cl_t2 (hC : Cl p e C) (hp : p < 1000) (he : e < 1000) : ∃ C', (ifS (tst (op2 dEq (op2 dIx (var 3) (con (.int 2))) (con (.int 1)))) (setF 6 [] (lcE [] [7] (bName 7) (rgE rgF1 (aCons (var 4) aNil)) tYesD (strOp dJoin (con (.str [])) (erE (lcE [] [9] (bName 9) (rgE rgF1 (aCons (var 5) aNil)) tYesD (op2 dIx (con (.str [46, 35])) (op2 dMod (opA dInt (aCons (op2 dAdd (var 7) (var 9)) aNil)) (con (.int 2))))))))) nxS) (eC c mp me a b t p e (oS C) o7 none) = .nx (eC c mp me a b t p e (oS C') o7 none) ∧ Cl p e C' := by
  by_cases ht : t = 1
  · subst ht
    refine ⟨(List.range p).map fun (k : Nat) => (List.range e).map fun (j : Nat) => chB (decide (((k : Int) + (j : Int)) % 2 = 1)), ?_, ⟨by simp, fun r hr => ?_, fun r hr ch hch => ?_⟩⟩
    · rw [ifS_t (by unfold eC; simp [mOf, seqS, exprS, setS, setF, retS, retF, retV, retN, nxS, ifS, op1, op2, op2F, aNil, aCons, opA, opAF, erE, callE, tst, andT, orT, notT, andV, orV, notV, asB, var, con, sliceE, sliceF, pI, pN, asI, ifE, lstE, tupE, strOp, asS, frzIf, frzO, frz, frz1, D.flat, OD.fl_sh, List.replicate, fgt, fgt1, bName, dInt, dAbs, okSz, okLen, at3, dEq])]
      have h2 := lcE_rng (Ee := []) (vs := [7]) (bnd := bName 7) (fa := aCons (var 4) aNil) (f := strOp dJoin (con (.str [])) (erE (lcE [] [9] (bName 9) (rgE rgF1 (aCons (var 5) aNil)) tYesD (op2 dIx (con (.str [46, 35])) (op2 dMod (opA dInt (aCons (op2 dAdd (var 7) (var 9)) aNil)) (con (.int 2)))))))
        (ρ := eC c mp me a b 1 p e (oS C) o7 none) (n := p) (fun (k : Nat) => .str ((List.range e).map fun (j : Nat) => chB (decide (((k : Int) + (j : Int)) % 2 = 1)))) (args1 rfl) (by omega) fun k hk => by
          rw [bName, bk_some]
          refine join_chars ?_ (by simp; omega)
          have h3 := lcE_rng (Ee := []) (vs := [9]) (bnd := bName 9) (fa := aCons (var 5) aNil) (f := op2 dIx (con (.str [46, 35])) (op2 dMod (opA dInt (aCons (op2 dAdd (var 7) (var 9)) aNil)) (con (.int 2))))
            (ρ := (fgt [7] (eC c mp me a b 1 p e (oS C) o7 none)).set 7 (some (.sh (.int k)))) (n := e) (fun (j : Nat) => .str [chB (decide (((k : Int) + (j : Int)) % 2 = 1))]) (args1 rfl) (by omega) fun j hj => by
              rw [bName, bk_some]
              refine pick_ch2 ?_ (by omega)
              unfold eC
              simp [mOf, seqS, exprS, setS, setF, retS, retF, retV, retN, nxS, ifS, op1, op2, op2F, aNil, aCons, opA, opAF, erE, callE, tst, andT, orT, notT, andV, orV, notV, asB, var, con, sliceE, sliceF, pI, pN, asI, ifE, lstE, tupE, strOp, asS, frzIf, frzO, frz, frz1, D.flat, OD.fl_sh, List.replicate, fgt, fgt1, bName, dInt, dAbs, okSz, okLen, dMod]
          rw [erE_ok h3, lstF_er, chars_map]
      unfold setF frzO
      rw [h2, R.out_ok, lstF_eq, OD.fl_lst, if_pos (by simp [D.flat]), cl_s6]
      unfold oS
      simp [Function.comp_def]
    · obtain ⟨k, _, rfl⟩ := List.mem_map.mp hr
      simp
    · obtain ⟨k, _, rfl⟩ := List.mem_map.mp hr
      obtain ⟨j, _, rfl⟩ := List.mem_map.mp hch
      exact chB_or _
  · exact ⟨C, by rw [ifS_f (by unfold eC; simp [mOf, seqS, exprS, setS, setF, retS, retF, retV, retN, nxS, ifS, op1, op2, op2F, aNil, aCons, opA, opAF, erE, callE, tst, andT, orT, notT, andV, orV, notV, asB, var, con, sliceE, sliceF, pI, pN, asI, ifE, lstE, tupE, strOp, asS, frzIf, frzO, frz, frz1, D.flat, OD.fl_sh, List.replicate, fgt, fgt1, bName, dInt, dAbs, okSz, okLen, at3, dEq, ht])]; rfl, hC⟩
theorem sIx_some (n d : Nat) (k : Int) (h0 : 0 ≤ k) (h1 : k ≤ n) : HT.sIx n d (some k) = k.toNat := by
  unfold HT.sIx
  simp only
  rw [if_neg (by omega)]
  omega
theorem cut_to {α : Type} (xs : List α) (k : Int) (h0 : 0 ≤ k) (h1 : k ≤ xs.length) : cutN xs none (some k) = xs.take k.toNat := by
  unfold cutN
  rw [sIx_some _ _ _ h0 h1]
  simp [HT.sIx]
theorem cut_from {α : Type} (xs : List α) (k : Int) (h0 : 0 ≤ k) (h1 : k ≤ xs.length) : cutN xs (some k) none = xs.drop k.toNat := by
  unfold cutN
  rw [sIx_some _ _ _ h0 h1]
  have : HT.sIx xs.length xs.length none = xs.length := rfl
  rw [this, List.take_of_length_le (by simp)]
theorem sl_to {f g : En → R D} {ρ : En} {xs : List D} {k : Int} (h : f ρ = .ok (.lst xs)) (hg : g ρ = .ok (.int k)) (h0 : 0 ≤ k) (h1 : k ≤ xs.length) : sliceE f pN (pI g) ρ = .ok (.lst (xs.take k.toNat)) := by
  unfold sliceE pN pI asI
  rw [h, R.bind_ok, R.bind_ok, hg, R.bind_ok]
  simp only [Option.map_some, R.ofO_some, R.bind_ok]
  rw [sliceV_lst, cut_to _ _ h0 h1]; rfl
theorem sl_from {f g : En → R D} {ρ : En} {xs : List D} {k : Int} (h : f ρ = .ok (.lst xs)) (hg : g ρ = .ok (.int k)) (h0 : 0 ≤ k) (h1 : k ≤ xs.length) : sliceE f (pI g) pN ρ = .ok (.lst (xs.drop k.toNat)) := by
  unfold sliceE pN pI asI
  rw [h, R.bind_ok, hg, R.bind_ok]
  simp only [Option.map_some, R.ofO_some, R.bind_ok]
  rw [sliceV_lst, cut_from _ _ h0 h1]; rfl
theorem ss_to {f g : En → R D} {ρ : En} {xs : List Nat} {k : Int} (h : f ρ = .ok (.str xs)) (hl : xs.length ≤ 16777216) (hg : g ρ = .ok (.int k)) (h0 : 0 ≤ k) (h1 : k ≤ xs.length) : sliceE f pN (pI g) ρ = .ok (.str (xs.take k.toNat)) := by
  unfold sliceE pN pI asI
  rw [h, R.bind_ok, R.bind_ok, hg, R.bind_ok]
  simp only [Option.map_some, R.ofO_some, R.bind_ok]
  rw [sliceV_str, if_pos (by unfold okSz; exact decide_eq_true hl), cut_to _ _ h0 h1]; rfl
theorem ss_from {f g : En → R D} {ρ : En} {xs : List Nat} {k : Int} (h : f ρ = .ok (.str xs)) (hl : xs.length ≤ 16777216) (hg : g ρ = .ok (.int k)) (h0 : 0 ≤ k) (h1 : k ≤ xs.length) : sliceE f (pI g) pN ρ = .ok (.str (xs.drop k.toNat)) := by
  unfold sliceE pN pI asI
  rw [h, R.bind_ok, hg, R.bind_ok]
  simp only [Option.map_some, R.ofO_some, R.bind_ok]
  rw [sliceV_str, if_pos (by unfold okSz; exact decide_eq_true hl), cut_from _ _ h0 h1]; rfl
theorem oS_er (C : List (List Nat)) : (oS C).er = dS C := by unfold oS dS; simp [Function.comp_def]
theorem cl_v6 : var 6 (eC c mp me a b t p e (oS C) o7 o8) = .ok (dS C) := by
  show R.ok (oS C).er = _
  rw [oS_er]
theorem cl_t3 (hC : Cl p e C) (h1 : 1 ≤ p) (hp : p < 1000) : ∃ C', (ifS (andT (tst (op2 dEq (op2 dIx (var 3) (con (.int 2))) (con (.int 2)))) (tst (op2 dGt (var 4) (con (.int 1))))) (setF 6 ([6] ++ [6]) (op2F fCat (sliceE (var 6) pN (pI (op2 dAdd (con (.int 1)) (op2 dDiv (var 4) (con (.int 2)))))) (sliceE (var 6) pN (pI (op2 dSub (op2 dSub (var 4) (con (.int 1))) (op2 dDiv (var 4) (con (.int 2)))))))) nxS) (eC c mp me a b t p e (oS C) o7 none) = .nx (eC c mp me a b t p e (oS C') o7 none) ∧ Cl p e C' := by
  by_cases ht : t = 2 ∧ 1 < (p : Int)
  · have hl := hC.len
    refine ⟨C.take (1 + p / 2) ++ C.take (p - 1 - p / 2), ?_, hC.of (by simp; omega) fun s hs => (List.mem_append.mp hs).elim List.mem_of_mem_take List.mem_of_mem_take⟩
    rw [ifS_t (by unfold eC; simp [mOf, seqS, exprS, setS, setF, retS, retF, retV, retN, nxS, ifS, op1, op2, op2F, aNil, aCons, opA, opAF, erE, callE, tst, andT, orT, notT, andV, orV, notV, asB, var, con, sliceE, sliceF, pI, pN, asI, ifE, lstE, tupE, strOp, asS, frzIf, frzO, frz, frz1, D.flat, OD.fl_sh, List.replicate, fgt, fgt1, bName, dInt, dAbs, okSz, okLen, at3, dEq, ht])]
    have e1 : op2 dAdd (con (.int 1)) (op2 dDiv (var 4) (con (.int 2))) (eC c mp me a b t p e (oS C) o7 none) = .ok (.int (1 + (p : Int) / 2)) := by unfold eC; simp [mOf, seqS, exprS, setS, setF, retS, retF, retV, retN, nxS, ifS, op1, op2, op2F, aNil, aCons, opA, opAF, erE, callE, tst, andT, orT, notT, andV, orV, notV, asB, var, con, sliceE, sliceF, pI, pN, asI, ifE, lstE, tupE, strOp, asS, frzIf, frzO, frz, frz1, D.flat, OD.fl_sh, List.replicate, fgt, fgt1, bName, dInt, dAbs, okSz, okLen, dDiv, divW_ok]
    have e2 : op2 dSub (op2 dSub (var 4) (con (.int 1))) (op2 dDiv (var 4) (con (.int 2))) (eC c mp me a b t p e (oS C) o7 none) = .ok (.int ((p : Int) - 1 - (p : Int) / 2)) := by unfold eC; simp [mOf, seqS, exprS, setS, setF, retS, retF, retV, retN, nxS, ifS, op1, op2, op2F, aNil, aCons, opA, opAF, erE, callE, tst, andT, orT, notT, andV, orV, notV, asB, var, con, sliceE, sliceF, pI, pN, asI, ifE, lstE, tupE, strOp, asS, frzIf, frzO, frz, frz1, D.flat, OD.fl_sh, List.replicate, fgt, fgt1, bName, dInt, dAbs, okSz, okLen, dDiv, dSub, divW_ok]
    have hd : (C.map D.str).length = p := by simp [hl]
    have s1 := sl_to (f := var 6) cl_v6 e1 (by omega) (by rw [hd]; omega)
    have s2 := sl_to (f := var 6) cl_v6 e2 (by omega) (by rw [hd]; omega)
    have n1 : (1 + (p : Int) / 2).toNat = 1 + p / 2 := by omega
    have n2 : ((p : Int) - 1 - (p : Int) / 2).toNat = p - 1 - p / 2 := by omega
    rw [n1] at s1
    rw [n2] at s2
    have h2 : op2F fCat (sliceE (var 6) pN (pI (op2 dAdd (con (.int 1)) (op2 dDiv (var 4) (con (.int 2)))))) (sliceE (var 6) pN (pI (op2 dSub (op2 dSub (var 4) (con (.int 1))) (op2 dDiv (var 4) (con (.int 2)))))) (eC c mp me a b t p e (oS C) o7 none) = .ok (lstF ((C.take (1 + p / 2) ++ C.take (p - 1 - p / 2)).map .str)) := by
      unfold op2F
      rw [s1, R.bind_ok, s2, R.bind_ok]
      unfold fCat
      simp only
      rw [if_pos (by unfold okSz; simp; omega), R.ofO_some, List.map_append, List.map_take, List.map_take]
    unfold setF frzO
    rw [h2, R.out_ok, lstF_eq, OD.fl_lst, if_pos (by rw [List.all_eq_true]; intro x hx; obtain ⟨y, hy, rfl⟩ := List.mem_map.mp hx; obtain ⟨z, _, rfl⟩ := List.mem_map.mp hy; rfl), cl_s6]
    unfold oS
    rw [List.map_map]; rfl
  · refine ⟨C, ?_, hC⟩
    rw [ifS_f]
    · rfl
    · unfold eC
      by_cases h2 : t = 2
      · have : ¬ (1 : Int) < p := fun z => ht ⟨h2, z⟩
        have : ¬ 1 < p := by omega
        simp [mOf, seqS, exprS, setS, setF, retS, retF, retV, retN, nxS, ifS, op1, op2, op2F, aNil, aCons, opA, opAF, erE, callE, tst, andT, orT, notT, andV, orV, notV, asB, var, con, sliceE, sliceF, pI, pN, asI, ifE, lstE, tupE, strOp, asS, frzIf, frzO, frz, frz1, D.flat, OD.fl_sh, List.replicate, fgt, fgt1, bName, dInt, dAbs, okSz, okLen, at3, dEq, h2, this]
        omega
      · simp [mOf, seqS, exprS, setS, setF, retS, retF, retV, retN, nxS, ifS, op1, op2, op2F, aNil, aCons, opA, opAF, erE, callE, tst, andT, orT, notT, andV, orV, notV, asB, var, con, sliceE, sliceF, pI, pN, asI, ifE, lstE, tupE, strOp, asS, frzIf, frzO, frz, frz1, D.flat, OD.fl_sh, List.replicate, fgt, fgt1, bName, dInt, dAbs, okSz, okLen, at3, dEq, h2]
end
theorem law_cloth (c : Int) (mp me : Nat) (h1 : 1 ≤ mp) (h2 : mp < 1000) (h3 : 1 ≤ me) (h4 : me < 1000) : ∃ (p e : Nat) (C : List (List Nat)), m__law_cloth [.int c, .int mp, .int me] = .ok (oS C) ∧ Cl p e C ∧ 1 ≤ p ∧ p ≤ mp ∧ 1 ≤ e ∧ e ≤ me := by
  obtain ⟨row, g1, g2, g3⟩ := law_draw c [(mp : Int), (me : Int), 6] (by simp; omega) (by simp)
  match row, g2, g3, g1 with
  | [a, b, t], _, g3, g1 =>
    obtain ⟨_, a1, a2⟩ := g3 0 (by simp)
    obtain ⟨_, b1, b2⟩ := g3 1 (by simp)
    simp at a1 a2 b1 b2
    obtain ⟨p, hp⟩ : ∃ p : Nat, (p : Int) = 1 + a := ⟨(1 + a).toNat, by omega⟩
    obtain ⟨e, he⟩ : ∃ e : Nat, (e : Int) = 1 + b := ⟨(1 + b).toNat, by omega⟩
    obtain ⟨C0, o7, l1, hC0⟩ := cl_loop (c := c) (mp := mp) (me := me) (a := a) (b := b) (t := t) (p := p) (e := e) (by omega) (by omega)
    obtain ⟨C1, t1, hC1⟩ := cl_t1 (c := c) (mp := mp) (me := me) (a := a) (b := b) (t := t) (o7 := o7) hC0 (by omega) (by omega)
    obtain ⟨C2, t2, hC2⟩ := cl_t2 (c := c) (mp := mp) (me := me) (a := a) (b := b) (t := t) (o7 := o7) hC1 (by omega) (by omega)
    obtain ⟨C3, t3, hC3⟩ := cl_t3 (c := c) (mp := mp) (me := me) (a := a) (b := b) (t := t) (o7 := o7) hC2 (by omega) (by omega)
    refine ⟨p, e, C3, ?_, hC3, by omega, by omega, by omega, by omega⟩
    have r1 : callE m__law_draw (aCons (var 0) (aCons (erE (lstE (aCons (var 1) (aCons (var 2) (aCons (con (.int 6)) aNil))))) aNil)) ([some (.sh (.int c)), some (.sh (.int mp)), some (.sh (.int me)), none, none, none, none, none, none, none, none]) = .ok (.lst [.sh (.int a), .sh (.int b), .sh (.int t)]) := by
      have q : lstE (aCons (var 1) (aCons (var 2) (aCons (con (.int 6)) aNil))) [some (.sh (.int c)), some (.sh (.int mp)), some (.sh (.int me)), none, none, none, none, none, none, none, none] = .ok (lstF [.int mp, .int me, .int 6]) := by
        unfold lstE
        rw [args3 (a := .int mp) (b := .int me) (c := .int 6) rfl rfl rfl, R.bind_ok]; rfl
      have q2 := erE_ok q
      rw [lstF_er] at q2
      rw [call2 (a := .int c) rfl q2]
      exact g1
    have w1 : setF 3 ([0] ++ (([1] ++ ([2] ++ ([] ++ []))) ++ [])) (callE m__law_draw (aCons (var 0) (aCons (erE (lstE (aCons (var 1) (aCons (var 2) (aCons (con (.int 6)) aNil))))) aNil))) [some (.sh (.int c)), some (.sh (.int mp)), some (.sh (.int me)), none, none, none, none, none, none, none, none] = .nx [some (.sh (.int c)), some (.sh (.int mp)), some (.sh (.int me)), some (.lst [.sh (.int a), .sh (.int b), .sh (.int t)]), none, none, none, none, none, none, none] := by
      unfold setF frzO
      rw [r1, R.out_ok, OD.fl_lst, if_pos (by simp [D.flat])]
      rfl
    have w2 : setS 4 ([] ++ ([3] ++ [])) (op2 dAdd (con (.int 1)) (op2 dIx (var 3) (con (.int 0)))) [some (.sh (.int c)), some (.sh (.int mp)), some (.sh (.int me)), some (.lst [.sh (.int a), .sh (.int b), .sh (.int t)]), none, none, none, none, none, none, none] = .nx [some (.sh (.int c)), some (.sh (.int mp)), some (.sh (.int me)), some (.lst [.sh (.int a), .sh (.int b), .sh (.int t)]), some (.sh (.int p)), none, none, none, none, none, none] := by
      simp [mOf, seqS, exprS, setS, setF, retS, retF, retV, retN, nxS, ifS, op1, op2, op2F, aNil, aCons, opA, opAF, erE, callE, tst, andT, orT, notT, andV, orV, notV, asB, var, con, sliceE, sliceF, pI, pN, asI, ifE, lstE, tupE, strOp, asS, frzIf, frzO, frz, frz1, D.flat, OD.fl_sh, List.replicate, fgt, fgt1, bName, dInt, dAbs, okSz, okLen, at30, hp]
    have w3 : setS 5 ([] ++ ([3] ++ [])) (op2 dAdd (con (.int 1)) (op2 dIx (var 3) (con (.int 1)))) [some (.sh (.int c)), some (.sh (.int mp)), some (.sh (.int me)), some (.lst [.sh (.int a), .sh (.int b), .sh (.int t)]), some (.sh (.int p)), none, none, none, none, none, none] = .nx [some (.sh (.int c)), some (.sh (.int mp)), some (.sh (.int me)), some (.lst [.sh (.int a), .sh (.int b), .sh (.int t)]), some (.sh (.int p)), some (.sh (.int e)), none, none, none, none, none] := by
      simp [mOf, seqS, exprS, setS, setF, retS, retF, retV, retN, nxS, ifS, op1, op2, op2F, aNil, aCons, opA, opAF, erE, callE, tst, andT, orT, notT, andV, orV, notV, asB, var, con, sliceE, sliceF, pI, pN, asI, ifE, lstE, tupE, strOp, asS, frzIf, frzO, frz, frz1, D.flat, OD.fl_sh, List.replicate, fgt, fgt1, bName, dInt, dAbs, okSz, okLen, at31, he]
    have w4 : setF 6 [] (lstE aNil) [some (.sh (.int c)), some (.sh (.int mp)), some (.sh (.int me)), some (.lst [.sh (.int a), .sh (.int b), .sh (.int t)]), some (.sh (.int p)), some (.sh (.int e)), none, none, none, none, none] = .nx (eC c mp me a b t p e (oS []) none none) := by
      unfold eC oS
      simp [mOf, seqS, exprS, setS, setF, retS, retF, retV, retN, nxS, ifS, op1, op2, op2F, aNil, aCons, opA, opAF, erE, callE, tst, andT, orT, notT, andV, orV, notV, asB, var, con, sliceE, sliceF, pI, pN, asI, ifE, lstE, tupE, strOp, asS, frzIf, frzO, frz, frz1, D.flat, OD.fl_sh, List.replicate, fgt, fgt1, bName, dInt, dAbs, okSz, okLen, lstF_eq]
    unfold m__law_cloth b__law_cloth mOf
    have e0 : ([D.int c, D.int mp, D.int me].map (fun d => some (OD.sh d)) ++ List.replicate (11 - 3) none) = [some (.sh (.int c)), some (.sh (.int mp)), some (.sh (.int me)), none, none, none, none, none, none, none, none] := rfl
    rw [if_pos (by rfl), e0, seqS_nx w1, seqS_nx w2, seqS_nx w3, seqS_nx w4, seqS_nx (for_rng1 (n := p) (by omega) (args1 rfl) l1), seqS_nx t1, seqS_nx t2, seqS_nx t3]
    rfl
end DLC
set_option Elab.async false
set_option linter.all false
set_option maxRecDepth 100000
namespace K02
open PySem L2 DL DLC
theorem len_dS (C : List (List Nat)) : (C.map D.str).length = C.length := by simp
theorem get_dS {C : List (List Nat)} {k : Nat} (h : k < C.length) : L2.atI (C.map D.str) (k : Int) = some (.str C[k]) := by
  rw [atI_nat _ k (by simpa using h)]; simp
/-! ### check_cloth -/
def eK (C : List (List Nat)) (o1 o2 : Option OD) : En := [some (.sh (dS C)), o1, o2, none]
section
variable {C : List (List Nat)} {p e k : Nat} {o1 o2 : Option OD} {r : List Nat}
theorem ck_len : opA dLen (aCons (var 0) aNil) (eK C o1 o2) = .ok (.int C.length) := by
  unfold eK dS
  simp [mOf, seqS, exprS, setS, setF, retS, retF, retV, retN, nxS, ifS, op1, op2, op2F, aNil, aCons, opA, opAF, erE, callE, tst, andT, orT, notT, andV, orV, notV, asB, var, con, sliceE, sliceF, pI, pN, asI, ifE, lstE, tupE, strOp, asS, frzIf, frzO, frz, frz1, D.flat, OD.fl_sh, List.replicate, fgt, fgt1, bName, dInt, dAbs, okSz, okLen, dLen]
theorem ck_comp (hr : ∀ c ∈ r, c = 35 ∨ c = 46) (hl : r.length < 1000) : erE (lcE [2] [3] (bName 3) (itE (var 2)) (tst (op2 dNotIn (var 3) (tupE (aCons (con (.str [35])) (aCons (con (.str [46])) aNil))))) (var 3)) (eK C o1 (some (.sh (.str r)))) = .ok (.lst []) := by
  have h := lcE_eq r (fun c => D.str [c]) (fun _ => false) (fun c => D.str [c]) (Ee := [2]) (vs := [3]) (bnd := bName 3) (it := itE (var 2)) (t := tst (op2 dNotIn (var 3) (tupE (aCons (con (.str [35])) (aCons (con (.str [46])) aNil))))) (f := var 3) (ρ := eK C o1 (some (.sh (.str r))))
    (by unfold eK; simp [mOf, seqS, exprS, setS, setF, retS, retF, retV, retN, nxS, ifS, op1, op2, op2F, aNil, aCons, opA, opAF, erE, callE, tst, andT, orT, notT, andV, orV, notV, asB, var, con, sliceE, sliceF, pI, pN, asI, ifE, lstE, tupE, strOp, asS, frzIf, frzO, frz, frz1, D.flat, OD.fl_sh, List.replicate, fgt, fgt1, bName, dInt, dAbs, okSz, okLen, itE, seqD]) (by simp [D.flat]) (by omega) fun c hc => by
      unfold eK
      rw [bName, bk_some]
      refine ⟨?_, fun z => by cases z⟩
      rcases hr c hc with rfl | rfl <;> simp [mOf, seqS, exprS, setS, setF, retS, retF, retV, retN, nxS, ifS, op1, op2, op2F, aNil, aCons, opA, opAF, erE, callE, tst, andT, orT, notT, andV, orV, notV, asB, var, con, sliceE, sliceF, pI, pN, asI, ifE, lstE, tupE, strOp, asS, frzIf, frzO, frz, frz1, D.flat, OD.fl_sh, List.replicate, fgt, fgt1, bName, dInt, dAbs, okSz, okLen, dNotIn, D.dt]
  rw [erE_ok h, lstF_er]
  simp
theorem ck_turn (hC : Cl p e C) (h1 : 1 ≤ p) (h2 : p ≤ 60) (h3 : 1 ≤ e) (h4 : e ≤ 60) (hk : k < p) :
    (l1_check_cloth (eK C (some (.sh (.int k))) none)).lk (fun ρ2 => fgt [1, 2] ρ2 = eK C none none) fun _ => False := by
  have hl := hC.len
  have hk' : k < C.length := by omega
  have h0 : 0 < C.length := by omega
  have hr := hC.row _ (List.getElem_mem hk')
  have hr0 := hC.row _ (List.getElem_mem h0)
  have hc := hC.chr _ (List.getElem_mem hk')
  have w1 : setS 2 ([0] ++ [1]) (op2 dIx (var 0) (var 1)) (eK C (some (.sh (.int k))) none) = .nx (eK C (some (.sh (.int k))) (some (.sh (.str C[k])))) := by
    unfold eK dS
    simp [mOf, seqS, exprS, setS, setF, retS, retF, retV, retN, nxS, ifS, op1, op2, op2F, aNil, aCons, opA, opAF, erE, callE, tst, andT, orT, notT, andV, orV, notV, asB, var, con, sliceE, sliceF, pI, pN, asI, ifE, lstE, tupE, strOp, asS, frzIf, frzO, frz, frz1, D.flat, OD.fl_sh, List.replicate, fgt, fgt1, bName, dInt, dAbs, okSz, okLen, get_dS hk']
  unfold l1_check_cloth
  rw [seqS_nx w1, seqS_nx (ρ' := eK C (some (.sh (.int k))) (some (.sh (.str C[k]))))]
  · rw [ifS_f]
    · rw [nxS, lk_nx]; rfl
    · exact tst_ok (op2_ok (opA_ok (ck_comp (C := C) (o1 := some (.sh (.int k))) hc (by omega)) rfl) rfl rfl)
  · rw [ifS_f]
    · rfl
    · have g0 := get_dS h0
      rw [Int.natCast_zero] at g0
      have v2 : opA dLen (aCons (var 2) aNil) (eK C (some (.sh (.int k))) (some (.sh (.str C[k])))) = .ok (.int e) := opA_ok rfl (dLen_str' _ _ hr (by omega))
      have v0 : opA dLen (aCons (op2 dIx (var 0) (con (.int 0))) aNil) (eK C (some (.sh (.int k))) (some (.sh (.str C[k])))) = .ok (.int e) := opA_ok (op2_ok (a := dS C) rfl rfl g0) (dLen_str' _ _ hr0 (by omega))
      refine orT_f (tst_ok (op2_ok v2 rfl (by rw [dLt_int, decide_eq_false (by omega)]))) (orT_f (tst_ok (op2_ok v2 rfl (by rw [dGt_int, decide_eq_false (by omega)]))) (tst_ok (op2_ok v2 v0 (by rw [dNe_int, decide_eq_true rfl]; rfl))))
theorem check_ok (hC : Cl p e C) (h1 : 1 ≤ p) (h2 : p ≤ 60) (h3 : 1 ≤ e) (h4 : e ≤ 60) : m_check_cloth [dS C] = .ok (.sh .non) := by
  have hl := hC.len
  unfold m_check_cloth b_check_cloth mOf
  have e0 : ([dS C].map (fun d => some (OD.sh d)) ++ List.replicate (4 - 1) none) = eK C none none := rfl
  have lp : ∃ ρ', loopS [1, 2] (bName 1) l1_check_cloth (rngL 0 p) (eK C none none) = .nx ρ' ∧ ρ' = eK C none none :=
    loop_inv (rngL 0 p) (fun _ ρ => ρ = eK C none none) _ rfl fun k d ρ hd hρ => by
      subst hρ
      obtain ⟨hk, rfl⟩ := rngL_get hd
      rw [Int.zero_add, show bName 1 (.int (k : Int)) (eK C none none) = some (eK C (some (.sh (.int k))) none) from rfl, bk_some]
      exact ck_turn hC h1 h2 h3 h4 hk
  obtain ⟨_, lp, rfl⟩ := lp
  rw [if_pos (by rfl), e0, seqS_nx (ρ' := eK C none none), seqS_nx (ρ' := eK C none none), for_rng1 (n := p) (by omega) (args1 (by rw [ck_len, hl])) lp]
  · rw [ifS_f]
    · rfl
    · exact tst_ok (op2_ok ck_len rfl (by rw [dGt_int, decide_eq_false (by omega)]))
  · rw [ifS_f]
    · rfl
    · exact tst_ok (op2_ok ck_len rfl (by rw [dEq_int, decide_eq_false (by omega)]))
end
end K02
set_option Elab.async false
set_option linter.all false
set_option maxRecDepth 100000
namespace K02
open PySem L2 DL DLC
theorem dt_dS (A : List (List Nat)) : (dS A).dt 20 = true := by
  unfold dS
  rw [show (20 : Nat) = 19 + 1 from rfl, D.dt_lst, List.all_eq_true]
  intro x hx
  obtain ⟨y, _, rfl⟩ := List.mem_map.mp hx
  exact D.dt_str _ _
theorem eqv_dS (A B : List (List Nat)) : D.eqv (dS A) (dS B) = decide (A = B) := by
  unfold dS
  rw [eqv_lst, eqvL_map D.str (fun a b => by rw [eqv_str, Bool.eq_iff_iff]; simp)]
theorem dEq_dS (A B : List (List Nat)) : dEq (dS A) (dS B) = some (.bl (decide (A = B))) := by
  unfold dEq
  rw [dt_dS, dt_dS, Bool.and_self, if_pos rfl, eqv_dS]
theorem dNe_dS (A B : List (List Nat)) : dNe (dS A) (dS B) = some (.bl (!decide (A = B))) := by
  unfold dNe
  rw [dt_dS, dt_dS, Bool.and_self, if_pos rfl, eqv_dS]
theorem dMod_nat (n s : Nat) (h : 0 < s) : dMod (.int n) (.int s) = some (.int ((n % s : Nat) : Int)) := by
  show (if decide ((0 : Int) < s) = true then some (D.int ((n : Int) % s)) else _) = _
  rw [if_pos (decide_eq_true (by omega))]; rfl
/-! ### least_period -/
def Per {α : Type} (xs : List α) (s : Nat) : Prop := xs.length % s = 0 ∧ xs.drop s = xs.take (xs.length - s)
structure IsLp {α : Type} (xs : List α) (s : Nat) : Prop where
  lo : 1 ≤ s
  hi : s ≤ xs.length
  per : Per xs s
  min : ∀ j, 1 ≤ j → j < s → ¬ Per xs j
theorem IsLp.uniq {α : Type} {xs : List α} {s t : Nat} (a : IsLp xs s) (b : IsLp xs t) : s = t := by
  rcases Nat.lt_trichotomy s t with h | h | h
  · exact absurd a.per (b.min s a.lo h)
  · exact h
  · exact absurd b.per (a.min t b.lo h)
theorem per_all {α : Type} (xs : List α) (h : 0 < xs.length) : Per xs xs.length := ⟨Nat.mod_self _, by simp⟩
instance {s : Nat} (xs : List (List Nat)) : Decidable (Per xs s) := by unfold Per; infer_instance
def eL (xs : List (List Nat)) (o : Option OD) : En := [some (.sh (dS xs)), o]
section
variable {xs : List (List Nat)} {s : Nat}
theorem lp_len (o : Option OD) : opA dLen (aCons (var 0) aNil) (eL xs o) = .ok (.int xs.length) := opA_ok (a := dS xs) rfl (dLen_lst' _ _ (by simp))
theorem lp_test (h1 : 1 ≤ s) (h2 : s < xs.length) : (andT (tst (op2 dEq (op2 dMod (opA dLen (aCons (var 0) aNil)) (var 1)) (con (.int 0)))) (tst (op2 dEq (sliceE (var 0) (pI (var 1)) pN) (sliceE (var 0) pN (pI (op2 dSub (opA dLen (aCons (var 0) aNil)) (var 1))))))) (eL xs (some (.sh (.int s)))) = .ok (decide (Per xs s)) := by
  have a1 := tst_ok (op2_ok (op2_ok (lp_len (xs := xs) (some (.sh (.int s)))) (show var 1 _ = .ok (.int s) from rfl) (dMod_nat xs.length s h1)) (rfl : con (.int 0) _ = _) (dEq_int _ _))
  have b1 := sl_from (f := var 0) (g := var 1) (ρ := eL xs (some (.sh (.int s)))) (xs := xs.map D.str) (k := s) rfl rfl (by omega) (by simp; omega)
  have c1 : op2 dSub (opA dLen (aCons (var 0) aNil)) (var 1) (eL xs (some (.sh (.int s)))) = .ok (.int ((xs.length - s : Nat) : Int)) := op2_ok (lp_len _) rfl (by rw [show ((xs.length - s : Nat) : Int) = (xs.length : Int) - (s : Int) by omega]; rfl)
  have b2 := sl_to (f := var 0) (g := op2 dSub (opA dLen (aCons (var 0) aNil)) (var 1)) (ρ := eL xs (some (.sh (.int s)))) (xs := xs.map D.str) rfl c1 (by omega) (by simp)
  rw [Int.toNat_natCast, ← List.map_drop] at b1
  rw [Int.toNat_natCast, ← List.map_take] at b2
  have a2 := tst_ok (op2_ok b1 b2 (dEq_dS _ _))
  by_cases g : xs.length % s = 0
  · rw [g] at a1
    rw [andT_t a1 a2]
    congr 1
    simp [Per, g]
  · rw [andT_f (by rw [a1, decide_eq_false (by omega)])]
    simp [Per, g]
theorem least_ok (h0 : 0 < xs.length) (hn : xs.length < 1000) : ∃ s : Nat, m_least_period [dS xs] = .ok (.sh (.int s)) ∧ IsLp xs s := by
  unfold m_least_period b_least_period mOf
  have e0 : ([dS xs].map (fun d => some (OD.sh d)) ++ List.replicate (2 - 1) none) = eL xs none := rfl
  have lp := loop_rt (fg := [1]) (bnd := bName 1) (body := l1_least_period) (rngL ((1 : Nat) : Int) (xs.length - 1)) (fun k ρ => ρ = eL xs none ∧ ∀ j, 1 ≤ j → j < 1 + k → ¬ Per xs j) (fun k od => od = .sh (.int ((1 + k : Nat) : Int)) ∧ Per xs (1 + k) ∧ ∀ j, 1 ≤ j → j < 1 + k → ¬ Per xs j)
    (eL xs none) ⟨rfl, fun j a b => by omega⟩ fun k d ρ hd hρ => by
      obtain ⟨rfl, hj⟩ := hρ
      obtain ⟨hk, rfl⟩ := rngL_get hd
      have ei : ((1 : Nat) : Int) + (k : Int) = ((1 + k : Nat) : Int) := by omega
      rw [ei, show bName 1 (.int ((1 + k : Nat) : Int)) (eL xs none) = some (eL xs (some (.sh (.int ((1 + k : Nat) : Int))))) from rfl, bk_some]
      have ht := lp_test (xs := xs) (s := 1 + k) (by omega) (by omega)
      unfold l1_least_period
      by_cases g : Per xs (1 + k)
      · rw [ifS_t (by rw [ht, decide_eq_true g])]
        rw [retS_ok (d := .int ((1 + k : Nat) : Int)) (by rfl) rfl, lk_rt]
        exact ⟨rfl, g, hj⟩
      · rw [ifS_f (by rw [ht, decide_eq_false g]), nxS, lk_nx]
        refine ⟨rfl, fun j a b => ?_⟩
        by_cases q : j = 1 + k
        · rw [q]; exact g
        · exact hj j a (by omega)
  rcases lp with ⟨ρ', e1, rfl, hj⟩ | ⟨k, od, ρ2, hk, e1, rfl, hper, hj⟩
  · refine ⟨xs.length, ?_, ⟨h0, Nat.le_refl _, per_all xs h0, fun j a b => hj j a (by rw [rngL_len]; omega)⟩⟩
    rw [if_pos (by rfl), e0, seqS_nx (for_rng2 (i := 1) (n := xs.length) (by omega) (by omega) (args2 rfl (lp_len _)) e1)]
    rw [retS_ok (lp_len none) rfl]
  · rw [rngL_len] at hk
    refine ⟨1 + k, ?_, ⟨by omega, by omega, hper, hj⟩⟩
    rw [if_pos (by rfl), e0, seqS_rt (for_rng2 (i := 1) (n := xs.length) (by omega) (by omega) (args2 rfl (lp_len _)) e1)]
end
/-! ### columns -/
def colN (C : List (List Nat)) (j : Nat) : List Nat := C.map fun r => r.getD j 0
def colsN (C : List (List Nat)) (e : Nat) : List (List Nat) := (List.range e).map (colN C)
theorem column_ok {p e j : Nat} {C : List (List Nat)} (hC : Cl p e C) (hp : p < 1000) (he : e < 1000) (hj : j < e) : m_column_of [dS C, .int j] = .ok (.sh (.str (colN C j))) := by
  unfold m_column_of b_column_of mOf
  have e0 : ([dS C, .int j].map (fun d => some (OD.sh d)) ++ List.replicate (3 - 2) none) = [some (.sh (dS C)), some (.sh (.int j)), none] := rfl
  have hl := hC.len
  have h := lcE_map C D.str (fun r => D.str [r.getD j 0]) (Ee := [0]) (vs := [2]) (bnd := bName 2) (it := itE (var 0)) (f := op2 dIx (var 2) (var 1)) (ρ := [some (.sh (dS C)), some (.sh (.int j)), none]) rfl (by rw [flat_strs]; rfl) (by omega) fun r hr => by
    rw [bName, bk_some]
    have hr' := hC.row r hr
    refine op2_ok (a := .str r) (b := .int j) rfl rfl ?_
    rw [dIx_str, if_pos (by unfold okSz; exact decide_eq_true (by omega)), atI_nat r j (by omega)]
    simp [List.getElem?_eq_getElem (show j < r.length by omega)]
  have h2 := erE_ok h
  rw [lstF_er, chars_map] at h2
  rw [if_pos (by rfl), e0]
  rw [retS_ok (join_chars h2 (by simp; omega)) rfl]
  rfl
theorem columns_ok {p e : Nat} {C : List (List Nat)} (hC : Cl p e C) (h1 : 1 ≤ p) (hp : p < 1000) (he : e < 1000) : m_columns_of [dS C] = .ok (lstF ((colsN C e).map .str)) := by
  unfold m_columns_of b_columns_of mOf
  have e0 : ([dS C].map (fun d => some (OD.sh d)) ++ List.replicate (2 - 1) none) = [some (.sh (dS C)), none] := rfl
  have hl := hC.len
  have h0 : 0 < C.length := by omega
  have hr0 := hC.row _ (List.getElem_mem h0)
  have g0 := get_dS h0
  rw [Int.natCast_zero] at g0
  have hx : (aCons (opA dLen (aCons (op2 dIx (var 0) (con (.int 0))) aNil)) aNil) [some (.sh (dS C)), none] = .ok [.int e] := args1 (opA_ok (op2_ok (a := dS C) rfl rfl g0) (dLen_str' _ _ hr0 (by omega)))
  have h := lcE_rng (Ee := []) (vs := [1]) (bnd := bName 1) (f := erE (callE m_column_of (aCons (var 0) (aCons (var 1) aNil)))) (fun j => .str (colN C j)) hx (by omega) fun j hj => by
    rw [bName, bk_some]
    have : callE m_column_of (aCons (var 0) (aCons (var 1) aNil)) [some (.sh (dS C)), some (.sh (.int j))] = .ok (.sh (.str (colN C j))) := by
      rw [call2 (a := dS C) (b := .int j) rfl rfl]; exact column_ok hC hp he hj
    exact erE_ok this
  rw [if_pos (by rfl), e0]
  have e1 : (List.range e).map (fun j => D.str (colN C j)) = (colsN C e).map D.str := by unfold colsN; rw [List.map_map]; rfl
  rw [e1] at h
  rw [retF_ok h (fl_strs _)]
end K02
set_option Elab.async false
set_option linter.all false
set_option maxRecDepth 100000
namespace K02
open PySem L2 DL DLC
theorem cols_len (C : List (List Nat)) (e : Nat) : (colsN C e).length = e := by simp [colsN]
def redN (C : List (List Nat)) (p e : Nat) : List (List Nat) := (C.take p).map fun r => r.take e
theorem fl_oS (C : List (List Nat)) : (oS C).fl = true := by unfold oS; rw [OD.fl_lst]; simp [D.flat]
theorem oS_lstF (C : List (List Nat)) : lstF (C.map D.str) = oS C := by unfold oS; rw [lstF_eq, List.map_map]; rfl
/-! ### repeat_of -/
theorem repeat_ok {p e : Nat} {C : List (List Nat)} (hC : Cl p e C) (h1 : 1 ≤ p) (hp : p ≤ 60) (h3 : 1 ≤ e) (he : e ≤ 60) : ∃ s t : Nat, m_repeat_of [dS C] = .ok (oS (redN C s t)) ∧ IsLp C s ∧ IsLp (colsN C e) t := by
  have hl := hC.len
  obtain ⟨s, es, hs⟩ := least_ok (xs := C) (by omega) (by omega)
  obtain ⟨t, et, ht⟩ := least_ok (xs := colsN C e) (by rw [cols_len]; omega) (by rw [cols_len]; omega)
  refine ⟨s, t, ?_, hs, ht⟩
  unfold m_repeat_of b_repeat_of mOf
  have e0 : ([dS C].map (fun d => some (OD.sh d)) ++ List.replicate (4 - 1) none) = [some (.sh (dS C)), none, none, none] := rfl
  have w1 : exprS (erE (callE m_check_cloth (aCons (var 0) aNil))) [some (.sh (dS C)), none, none, none] = .nx [some (.sh (dS C)), none, none, none] := by
    have : callE m_check_cloth (aCons (var 0) aNil) [some (.sh (dS C)), none, none, none] = .ok (.sh .non) := by
      rw [call1 (a := dS C) rfl]; exact check_ok hC h1 hp h3 he
    exact exprS_ok (erE_ok this)
  have w2 : setF 1 (([0] ++ []) ++ []) (callE m_least_period (aCons (erE (opAF fList (aCons (var 0) aNil))) aNil)) [some (.sh (dS C)), none, none, none] = .nx [some (.sh (dS C)), some (.sh (.int s)), none, none] := by
    have a1 : erE (opAF fList (aCons (var 0) aNil)) [some (.sh (dS C)), none, none, none] = .ok (dS C) := by
      rw [erE_ok (opAF_ok (a := dS C) rfl rfl), lstF_er]; rfl
    have a2 : callE m_least_period (aCons (erE (opAF fList (aCons (var 0) aNil))) aNil) [some (.sh (dS C)), none, none, none] = .ok (.sh (.int s)) := by rw [call1 a1]; exact es
    rw [setF_ok a2 rfl]; rfl
  have w3 : setF 2 (([0] ++ []) ++ []) (callE m_least_period (aCons (erE (callE m_columns_of (aCons (var 0) aNil))) aNil)) [some (.sh (dS C)), some (.sh (.int s)), none, none] = .nx [some (.sh (dS C)), some (.sh (.int s)), some (.sh (.int t)), none] := by
    have a0 : callE m_columns_of (aCons (var 0) aNil) [some (.sh (dS C)), some (.sh (.int s)), none, none] = .ok (lstF ((colsN C e).map .str)) := by
      rw [call1 (a := dS C) rfl]; exact columns_ok hC h1 (by omega) (by omega)
    have a1 := erE_ok a0
    rw [lstF_er] at a1
    have a2 : callE m_least_period (aCons (erE (callE m_columns_of (aCons (var 0) aNil))) aNil) [some (.sh (dS C)), some (.sh (.int s)), none, none] = .ok (.sh (.int t)) := by rw [call1 a1]; exact et
    rw [setF_ok a2 rfl]; rfl
  have hsl := hs.hi
  have htl := ht.hi
  rw [cols_len] at htl
  have b1 : itE (sliceE (var 0) pN (pI (var 1))) [some (.sh (dS C)), some (.sh (.int s)), some (.sh (.int t)), none] = .ok ((C.take s).map D.str) := by
    have := sl_to (f := var 0) (g := var 1) (ρ := [some (.sh (dS C)), some (.sh (.int s)), some (.sh (.int t)), none]) (xs := C.map D.str) (k := s) rfl rfl (by omega) (by simp; omega)
    unfold itE
    rw [this, R.bind_ok, Int.toNat_natCast, ← List.map_take]; rfl
  have w4 := lcE_map (C.take s) D.str (fun r => D.str (r.take t)) (Ee := [0]) (vs := [3]) (bnd := bName 3) (f := sliceE (var 3) pN (pI (var 2))) b1 (by rw [flat_strs]; rfl) (by simp; omega) fun r hr => by
    rw [bName, bk_some]
    have hr' := hC.row r (List.mem_of_mem_take hr)
    have := ss_to (f := var 3) (g := var 2) (ρ := [some (.sh (dS C)), some (.sh (.int s)), some (.sh (.int t)), some (.sh (.str r))]) (xs := r) (k := t) rfl (by omega) rfl (by omega) (by omega)
    rw [Int.toNat_natCast] at this
    exact this
  have e1 : (C.take s).map (fun r => D.str (r.take t)) = (redN C s t).map D.str := by unfold redN; rw [List.map_map]; rfl
  rw [e1] at w4
  rw [if_pos (by rfl), e0, seqS_nx w1, seqS_nx w2, seqS_nx w3, retF_ok w4 (fl_strs _), oS_lstF]
/-! ### same_endless -/
theorem endless_ok {p e p' e' : Nat} {A B RA RB : List (List Nat)} (hA : Cl p e A) (hB : Cl p' e' B) (h1 : 1 ≤ p) (hp : p ≤ 60) (h3 : 1 ≤ e) (he : e ≤ 60) (h1' : 1 ≤ p') (hp' : p' ≤ 60) (h3' : 1 ≤ e') (he' : e' ≤ 60)
    (rA : m_repeat_of [dS A] = .ok (oS RA)) (rB : m_repeat_of [dS B] = .ok (oS RB)) : m_same_endless [dS A, dS B] = .ok (.sh (.bl (decide (RA = RB)))) := by
  unfold m_same_endless b_same_endless mOf
  have e0 : ([dS A, dS B].map (fun d => some (OD.sh d)) ++ List.replicate (2 - 2) none) = [some (.sh (dS A)), some (.sh (dS B))] := rfl
  have w1 : exprS (erE (callE m_check_cloth (aCons (var 0) aNil))) [some (.sh (dS A)), some (.sh (dS B))] = .nx [some (.sh (dS A)), some (.sh (dS B))] := by
    have : callE m_check_cloth (aCons (var 0) aNil) [some (.sh (dS A)), some (.sh (dS B))] = .ok (.sh .non) := by
      rw [call1 (a := dS A) rfl]; exact check_ok hA h1 hp h3 he
    exact exprS_ok (erE_ok this)
  have w2 : exprS (erE (callE m_check_cloth (aCons (var 1) aNil))) [some (.sh (dS A)), some (.sh (dS B))] = .nx [some (.sh (dS A)), some (.sh (dS B))] := by
    have : callE m_check_cloth (aCons (var 1) aNil) [some (.sh (dS A)), some (.sh (dS B))] = .ok (.sh .non) := by
      rw [call1 (a := dS B) rfl]; exact check_ok hB h1' hp' h3' he'
    exact exprS_ok (erE_ok this)
  have a1 : callE m_repeat_of (aCons (var 0) aNil) [some (.sh (dS A)), some (.sh (dS B))] = .ok (oS RA) := by rw [call1 (a := dS A) rfl]; exact rA
  have a2 : callE m_repeat_of (aCons (var 1) aNil) [some (.sh (dS A)), some (.sh (dS B))] = .ok (oS RB) := by rw [call1 (a := dS B) rfl]; exact rB
  have b1 := erE_ok a1
  have b2 := erE_ok a2
  rw [oS_er] at b1 b2
  rw [if_pos (by rfl), e0, seqS_nx w1, seqS_nx w2, retS_ok (op2_ok b1 b2 (dEq_dS _ _)) rfl]
/-! ### shift_rows -/
def rotN {α : Type} (xs : List α) (k : Nat) : List α := xs.drop k ++ xs.take k
def shN (C : List (List Nat)) (a b : Nat) : List (List Nat) := rotN (C.map fun r => rotN r b) a
theorem dAdd_str' {a b : List Nat} (h : a.length + b.length ≤ 16777216) : dAdd (.str a) (.str b) = some (.str (a ++ b)) := by rw [dAdd_str, if_pos (by unfold okSz; exact decide_eq_true h)]
theorem shift_ok {p e a b : Nat} {C : List (List Nat)} (hC : Cl p e C) (h1 : 1 ≤ p) (hp : p ≤ 60) (h3 : 1 ≤ e) (he : e ≤ 60) (ha : a < p) (hb : b < e) : m_shift_rows [dS C, .int a, .int b] = .ok (.sh (dS (shN C a b))) := by
  have hl := hC.len
  have h0 : 0 < C.length := by omega
  have hr0 := hC.row _ (List.getElem_mem h0)
  have g0 := get_dS h0
  rw [Int.natCast_zero] at g0
  unfold m_shift_rows b_shift_rows mOf
  have e0 : ([dS C, .int a, .int b].map (fun d => some (OD.sh d)) ++ List.replicate (7 - 3) none) = [some (.sh (dS C)), some (.sh (.int a)), some (.sh (.int b)), none, none, none, none] := rfl
  have w1 : setS 3 [] (op2 dMod (var 2) (opA dLen (aCons (op2 dIx (var 0) (con (.int 0))) aNil))) [some (.sh (dS C)), some (.sh (.int a)), some (.sh (.int b)), none, none, none, none] = .nx [some (.sh (dS C)), some (.sh (.int a)), some (.sh (.int b)), some (.sh (.int b)), none, none, none] := by
    rw [setS_ok (d := .int b) (op2_ok (a := .int b) rfl (opA_ok (op2_ok (a := dS C) rfl rfl g0) (dLen_str' _ _ hr0 (by omega))) (by rw [dMod_nat b e h3, Nat.mod_eq_of_lt hb])) rfl]; rfl
  have w2 : setS 4 [] (op2 dMod (var 1) (opA dLen (aCons (var 0) aNil))) [some (.sh (dS C)), some (.sh (.int a)), some (.sh (.int b)), some (.sh (.int b)), none, none, none] = .nx [some (.sh (dS C)), some (.sh (.int a)), some (.sh (.int b)), some (.sh (.int b)), some (.sh (.int a)), none, none] := by
    rw [setS_ok (d := .int a) (op2_ok (a := .int a) rfl (opA_ok (a := dS C) rfl (dLen_lst' _ p (by simp; exact hl))) (by rw [dMod_nat a p h1, Nat.mod_eq_of_lt ha])) rfl]; rfl
  have b3 := lcE_map C D.str (fun r => D.str (rotN r b)) (Ee := [0]) (vs := [6]) (bnd := bName 6) (it := itE (var 0)) (f := op2 dAdd (sliceE (var 6) (pI (var 3)) pN) (sliceE (var 6) pN (pI (var 3)))) (ρ := [some (.sh (dS C)), some (.sh (.int a)), some (.sh (.int b)), some (.sh (.int b)), some (.sh (.int a)), none, none]) rfl (by rw [flat_strs]; rfl) (by omega) fun r hr => by
    rw [bName, bk_some]
    have hr' := hC.row r hr
    have q1 := ss_from (f := var 6) (g := var 3) (ρ := [some (.sh (dS C)), some (.sh (.int a)), some (.sh (.int b)), some (.sh (.int b)), some (.sh (.int a)), none, some (.sh (.str r))]) (xs := r) (k := b) rfl (by omega) rfl (by omega) (by omega)
    have q2 := ss_to (f := var 6) (g := var 3) (ρ := [some (.sh (dS C)), some (.sh (.int a)), some (.sh (.int b)), some (.sh (.int b)), some (.sh (.int a)), none, some (.sh (.str r))]) (xs := r) (k := b) rfl (by omega) rfl (by omega) (by omega)
    rw [Int.toNat_natCast] at q1 q2
    exact op2_ok q1 q2 (dAdd_str' (by simp; omega))
  have e1 : C.map (fun r => D.str (rotN r b)) = (C.map fun r => rotN r b).map D.str := by rw [List.map_map]; rfl
  rw [e1] at b3
  generalize hR : (C.map fun r => rotN r b) = Rw at b3
  have hRl : Rw.length = p := by rw [← hR]; simp; exact hl
  have w3 : setF 5 [] (lcE [0] [6] (bName 6) (itE (var 0)) tYesD (op2 dAdd (sliceE (var 6) (pI (var 3)) pN) (sliceE (var 6) pN (pI (var 3))))) [some (.sh (dS C)), some (.sh (.int a)), some (.sh (.int b)), some (.sh (.int b)), some (.sh (.int a)), none, none] = .nx [some (.sh (dS C)), some (.sh (.int a)), some (.sh (.int b)), some (.sh (.int b)), some (.sh (.int a)), some (oS Rw), none] := by
    rw [setF_ok b3 (fl_strs _), oS_lstF]; rfl
  have v5 : var 5 [some (.sh (dS C)), some (.sh (.int a)), some (.sh (.int b)), some (.sh (.int b)), some (.sh (.int a)), some (oS Rw), none] = .ok (dS Rw) := by
    show R.ok (oS Rw).er = _
    rw [oS_er]
  have q1 := sl_from (f := var 5) (g := var 4) (xs := Rw.map D.str) (k := a) v5 rfl (by omega) (by simp; omega)
  have q2 := sl_to (f := var 5) (g := var 4) (xs := Rw.map D.str) (k := a) v5 rfl (by omega) (by simp; omega)
  rw [Int.toNat_natCast, ← List.map_drop] at q1
  rw [Int.toNat_natCast, ← List.map_take] at q2
  have w4 : op2 dAdd (sliceE (var 5) (pI (var 4)) pN) (sliceE (var 5) pN (pI (var 4))) [some (.sh (dS C)), some (.sh (.int a)), some (.sh (.int b)), some (.sh (.int b)), some (.sh (.int a)), some (oS Rw), none] = .ok (dS (rotN Rw a)) := by
    refine op2_ok q1 q2 ?_
    rw [dAdd_lst, if_pos (by unfold okSz; apply decide_eq_true; simp; omega), ← List.map_append]; rfl
  rw [if_pos (by rfl), e0, seqS_nx w1, seqS_nx w2, seqS_nx w3]
  unfold retS
  rw [w4, R.out_ok]
  unfold shN
  rw [hR]
end K02
set_option Elab.async false
set_option linter.all false
set_option maxRecDepth 100000
namespace K02
open PySem L2 DL DLC
theorem for_down {fg : List Nat} {bnd : D → En → Option En} {fa : En → R (List D)} {body : En → Out} {ρ : En} {o : Out} {n : Nat} (hn : n < 1000000) (h : fa ρ = .ok [.int n, .int 0, .int (-1)]) (e : loopS fg bnd body (rngC n (-1) n) ρ = o) : forS [] fg bnd (rgE rgF3 fa) body ρ = o := by
  obtain ⟨_, _, c3, c4⟩ := RgC.neg (i := (n : Int)) (j := 0) (by omega) (by omega) (by omega) (by omega)
  have z : ((n : Int) - 0).toNat = n := by omega
  rw [z] at c4
  unfold forS rgE
  have hk : rgOk3 (n : Int) 0 (-1) = true := by
    unfold rgOk3
    rw [c3, c4]
    simp
  rw [h, R.bind_ok, rgF3, if_pos hk, c4, Int.toNat_natCast, R.out_ok, rngC_flat, if_pos rfl, e]
def tile {α : Type} (xs : List α) (n j : Nat) : List α := ((List.replicate n (xs.take j)).flatten).take n
def Q1 (xs : List (List Nat)) (j : Nat) : Prop := xs.length / j * j = xs.length ∧ xs = tile xs xs.length j
def Q2 (C : List (List Nat)) (e j : Nat) : Prop := e / j * j = e ∧ ∀ r ∈ C, r = tile r e j
instance (xs : List (List Nat)) (j : Nat) : Decidable (Q1 xs j) := by unfold Q1; infer_instance
instance (C : List (List Nat)) (e j : Nat) : Decidable (Q2 C e j) := by unfold Q2; infer_instance
def Lst (Q : Nat → Prop) (n s : Nat) : Prop := 1 ≤ s ∧ s ≤ n ∧ Q s ∧ ∀ j, 1 ≤ j → j < s → ¬ Q j
theorem down_loop {fg : List Nat} {bnd : D → En → Option En} {body : En → Out} {n : Nat} (enc : Nat → En) (Q : Nat → Prop) (hQ : Q n) (h1 : 1 ≤ n)
    (hs : ∀ q j : Nat, 1 ≤ j → j ≤ n → bk (bnd (.int j) (enc q)) fun ρ1 => (body ρ1).lk (fun ρ2 => (Q j → fgt fg ρ2 = enc j) ∧ (¬ Q j → fgt fg ρ2 = enc q)) fun _ => False) : ∃ s, loopS fg bnd body (rngC n (-1) n) (enc n) = .nx (enc s) ∧ Lst Q n s := by
  obtain ⟨ρ', e, q, rfl, a1, a2, a3, a4⟩ := loop_inv (fg := fg) (bnd := bnd) (body := body) (rngC n (-1) n) (fun k ρ => ∃ q : Nat, ρ = enc q ∧ 1 ≤ q ∧ q ≤ n ∧ Q q ∧ ∀ j, n - k < j → j < q → ¬ Q j) (enc n) ⟨n, rfl, h1, Nat.le_refl _, hQ, fun j a b => by omega⟩ fun k d ρ hd ⟨q, hρ, b1, b2, b3, b4⟩ => by
    obtain ⟨hk, rfl⟩ := rngC_get hd
    have ej : (n : Int) + (k : Int) * (-1) = ((n - k : Nat) : Int) := by omega
    rw [ej, hρ]
    refine bk_imp (hs q (n - k) (by omega) (by omega)) fun ρ1 h => ?_
    revert h
    generalize body ρ1 = o
    cases o with
    | nx ρ2 =>
      rw [lk_nx, lk_nx]
      rintro ⟨c1, c2⟩
      by_cases g : Q (n - k)
      · exact ⟨n - k, c1 g, by omega, by omega, g, fun j a b => by omega⟩
      · refine ⟨q, c2 g, b1, b2, b3, fun j a b => ?_⟩
        by_cases z : j = n - k
        · rw [z]; exact g
        · exact b4 j (by omega) b
    | ct ρ2 =>
      rw [lk_ct, lk_ct]
      rintro ⟨c1, c2⟩
      by_cases g : Q (n - k)
      · exact ⟨n - k, c1 g, by omega, by omega, g, fun j a b => by omega⟩
      · refine ⟨q, c2 g, b1, b2, b3, fun j a b => ?_⟩
        by_cases z : j = n - k
        · rw [z]; exact g
        · exact b4 j (by omega) b
    | rt od ρ2 => rw [lk_rt]; exact fun z => z.elim
    | ex c fs ρ2 => unfold Out.lk; exact fun z => z.elim
    | bk ρ2 => unfold Out.lk; exact fun z => z.elim
    | st => unfold Out.lk; exact fun z => z.elim
  exact ⟨q, e, a1, a2, a3, fun j b1 b2 => a4 j (by rw [rngC_len]; omega) b2⟩
theorem dMul_nat (i j : Nat) (h : j < 1000000) : dMul (.int i) (.int j) = some (.int ((i * j : Nat) : Int)) := by
  rw [dMul_int, if_pos (mulOk_r (by omega))]; rfl
theorem dDiv_nat (n j : Nat) (h : 1 ≤ j) (h2 : j < 1000000) : dDiv (.int n) (.int j) = some (.int ((n / j : Nat) : Int)) := by
  show (if divW j = true then some (D.int ((n : Int) / (j : Int))) else _) = _
  rw [if_pos (divW_ok (by omega) (by omega))]; rfl
theorem rep_map {α β : Type} (f : α → β) (A : List α) : ∀ k : Nat, (List.replicate k (A.map f)).flatten = (List.replicate k A).flatten.map f
  | 0 => rfl
  | k + 1 => by rw [List.replicate_succ, List.replicate_succ, List.flatten_cons, List.flatten_cons, rep_map f A k, List.map_append]
theorem ok_dec {A B : Prop} [Decidable A] [Decidable B] (h : A ↔ B) : (R.ok (decide A) : R Bool) = .ok (decide B) := by rw [decide_eq_decide.mpr h]
theorem ok_false {B : Prop} [Decidable B] (h : ¬ B) : (R.ok false : R Bool) = .ok (decide B) := by rw [decide_eq_false h]
theorem dMul_dS {A : List (List Nat)} {k : Nat} (h : A.length * k ≤ 16777216) (h2 : k < 1000000) : dMul (dS A) (.int k) = some (dS (List.replicate k A).flatten) := by
  unfold dS
  rw [dMul_lst, Int.toNat_natCast, if_pos (by unfold okSz; simp; omega)]
  rw [rep_map]
theorem dMul_st {r : List Nat} {k : Nat} (h : r.length * k ≤ 16777216) (h2 : k < 1000000) : dMul (.str r) (.int k) = some (.str (List.replicate k r).flatten) := by
  rw [dMul_str, Int.toNat_natCast, if_pos (by unfold okSz; simp; omega)]
theorem flat_len {α : Type} (xs : List α) (n : Nat) : (List.replicate n xs).flatten.length = n * xs.length := by simp
def eR (C : List (List Nat)) (p e q : Nat) (k : Option OD) (t : Option OD) (o6 : Option OD) : En := [some (.sh (dS C)), some (.sh (.int p)), some (.sh (.int e)), some (.sh (.int q)), k, t, o6]
section
variable {C : List (List Nat)} {p e q j : Nat} {t o6 : Option OD}
theorem rp_1 (hl : C.length = p) (hp : p ≤ 60) (h1 : 1 ≤ j) (h2 : j ≤ p) : (andT (tst (op2 dEq (op2 dMul (op2 dDiv (var 1) (var 4)) (var 4)) (var 1))) (tst (op2 dEq (var 0) (sliceE (op2 dMul (sliceE (var 0) pN (pI (var 4))) (var 1)) pN (pI (var 1)))))) (eR C p e q (some (.sh (.int j))) t o6) = .ok (decide (Q1 C j)) := by
  have v1 : var 1 (eR C p e q (some (.sh (.int j))) t o6) = .ok (.int p) := rfl
  have v4 : var 4 (eR C p e q (some (.sh (.int j))) t o6) = .ok (.int j) := rfl
  have v0 : var 0 (eR C p e q (some (.sh (.int j))) t o6) = .ok (dS C) := rfl
  have a1 := tst_ok (op2_ok (op2_ok (op2_ok v1 v4 (dDiv_nat p j h1 (by omega))) v4 (dMul_nat _ j (by omega))) v1 (dEq_int _ _))
  have s1 := sl_to (xs := C.map D.str) v0 v4 (by omega) (by simp; omega)
  rw [Int.toNat_natCast, ← List.map_take] at s1
  have s2 := op2_ok s1 v1 (dMul_dS (A := C.take j) (by simp; have : min j C.length * p ≤ 60 * 60 := Nat.mul_le_mul (by omega) hp; omega) (by omega))
  have hjl : (C.take j).length = j := by simp; omega
  have hfl : p ≤ (List.replicate p (C.take j)).flatten.length := by rw [flat_len, hjl]; exact Nat.le_mul_of_pos_right _ h1
  have s3 := sl_to (xs := (List.replicate p (C.take j)).flatten.map D.str) s2 v1 (by omega) (by rw [List.length_map]; omega)
  rw [Int.toNat_natCast, ← List.map_take] at s3
  have a2 := tst_ok (op2_ok v0 s3 (dEq_dS C (tile C p j)))
  by_cases g : p / j * j = p
  · rw [decide_eq_true (by omega)] at a1
    rw [andT_t a1 a2]
    refine ok_dec ⟨fun z => ⟨by rw [hl]; exact g, by rw [hl]; exact z⟩, fun z => by have := z.2; rwa [hl] at this⟩
  · rw [decide_eq_false (by omega)] at a1
    rw [andT_f a1]
    exact ok_false fun z => g (by have := z.1; rwa [hl] at this)
theorem rp_2 (hC : Cl p e C) (hp : p ≤ 60) (he : e ≤ 60) (h1 : 1 ≤ j) (h2 : j ≤ e) : (andT (tst (op2 dEq (op2 dMul (op2 dDiv (var 2) (var 4)) (var 4)) (var 2))) (tst (op2 dEq (opA dLen (aCons (erE (lcE [0] [6] (bName 6) (itE (var 0)) (tst (op2 dNe (var 6) (sliceE (op2 dMul (sliceE (var 6) pN (pI (var 4))) (var 2)) pN (pI (var 2))))) (var 6))) aNil)) (con (.int 0))))) (eR C p e q (some (.sh (.int j))) t o6) = .ok (decide (Q2 C e j)) := by
  have v2 : var 2 (eR C p e q (some (.sh (.int j))) t o6) = .ok (.int e) := rfl
  have v4 : var 4 (eR C p e q (some (.sh (.int j))) t o6) = .ok (.int j) := rfl
  have a1 := tst_ok (op2_ok (op2_ok (op2_ok v2 v4 (dDiv_nat e j h1 (by omega))) v4 (dMul_nat _ j (by omega))) v2 (dEq_int _ _))
  have hl := hC.len
  have c1 := lcE_eq C D.str (fun r => !decide (r = tile r e j)) D.str (Ee := [0]) (vs := [6]) (bnd := bName 6) (it := itE (var 0)) (t := tst (op2 dNe (var 6) (sliceE (op2 dMul (sliceE (var 6) pN (pI (var 4))) (var 2)) pN (pI (var 2))))) (f := var 6) (ρ := eR C p e q (some (.sh (.int j))) t o6) rfl (by rw [flat_strs]; rfl) (by omega) fun r hr => by
    rw [bName, bk_some]
    have hr' := hC.row r hr
    refine ⟨?_, fun _ => rfl⟩
    have u2 : var 2 ((fgt [6] (eR C p e q (some (.sh (.int j))) t o6)).set 6 (some (.sh (.str r)))) = .ok (.int e) := rfl
    have u4 : var 4 ((fgt [6] (eR C p e q (some (.sh (.int j))) t o6)).set 6 (some (.sh (.str r)))) = .ok (.int j) := rfl
    have u6 : var 6 ((fgt [6] (eR C p e q (some (.sh (.int j))) t o6)).set 6 (some (.sh (.str r)))) = .ok (.str r) := rfl
    have s1 := ss_to u6 (by omega) u4 (by omega) (by omega)
    rw [Int.toNat_natCast] at s1
    have hjl : (r.take j).length = j := by simp; omega
    have hm : j * e ≤ 60 * 60 := Nat.mul_le_mul (by omega) he
    have s2 := op2_ok s1 u2 (dMul_st (by rw [hjl]; omega) (by omega))
    have hfl : (List.replicate e (r.take j)).flatten.length = e * j := by rw [flat_len, hjl]
    have hge : e ≤ e * j := Nat.le_mul_of_pos_right _ h1
    have s3 := ss_to s2 (by rw [hfl, Nat.mul_comm]; omega) u2 (by omega) (by rw [hfl]; omega)
    rw [Int.toNat_natCast] at s3
    refine tst_ok (op2_ok u6 s3 ?_)
    unfold dNe
    rw [D.dt_str, D.dt_str, Bool.and_self, if_pos rfl, eqv_str]
    congr 3
    rw [Bool.eq_iff_iff, beq_iff_eq]
    exact (decide_eq_true_iff (p := r = tile r e j)).symm
  have c2 := erE_ok c1
  rw [lstF_er] at c2
  have a2 := tst_ok (op2_ok (opA_ok c2 (dLen_lst' _ _ (List.length_map ..))) (rfl : con (.int 0) _ = _) (dEq_int _ _))
  have hz : (decide (((C.filter fun r => !decide (r = tile r e j)).length : Int) = 0)) = decide (∀ r ∈ C, r = tile r e j) := by
    rw [Bool.eq_iff_iff, decide_eq_true_iff, decide_eq_true_iff]
    constructor
    · intro h r hr
      have h0 : (C.filter fun r => !decide (r = tile r e j)) = [] := List.eq_nil_of_length_eq_zero (by omega)
      have := (List.filter_eq_nil_iff.mp h0) r hr
      simpa using this
    · intro h
      have : (C.filter fun r => !decide (r = tile r e j)) = [] := List.filter_eq_nil_iff.mpr fun r hr => by simpa using h r hr
      rw [this]; rfl
  rw [hz] at a2
  by_cases g : e / j * j = e
  · rw [decide_eq_true (by omega)] at a1
    rw [andT_t a1 a2]
    exact ok_dec ⟨fun z => ⟨g, z⟩, fun z => z.2⟩
  · rw [decide_eq_false (by omega)] at a1
    rw [andT_f a1]
    exact ok_false fun z => g z.1
end
theorem tile_self {α : Type} (xs : List α) (h : 1 ≤ xs.length) : tile xs xs.length xs.length = xs := by
  unfold tile
  obtain ⟨n, hn⟩ : ∃ n, xs.length = n + 1 := ⟨xs.length - 1, by omega⟩
  rw [List.take_length, hn, List.replicate_succ, List.flatten_cons, ← hn, List.take_left]
theorem lrep_ok {p e : Nat} {C : List (List Nat)} (hC : Cl p e C) (h1 : 1 ≤ p) (hp : p ≤ 60) (h3 : 1 ≤ e) (he : e ≤ 60) : ∃ s t : Nat, m__law_repeat [dS C] = .ok (oS (redN C s t)) ∧ Lst (Q1 C) p s ∧ Lst (Q2 C e) e t := by
  have hl := hC.len
  have h0 : 0 < C.length := by omega
  have hr0 := hC.row _ (List.getElem_mem h0)
  have g0 := get_dS h0
  rw [Int.natCast_zero] at g0
  have hQ1 : Q1 C p := by
    unfold Q1
    rw [hl, Nat.div_self (by omega)]
    refine ⟨by omega, ?_⟩
    have := tile_self C (by omega)
    rw [hl] at this; exact this.symm
  have hQ2 : Q2 C e e := by
    unfold Q2
    rw [Nat.div_self (by omega)]
    refine ⟨by omega, fun r hr => ?_⟩
    have hr' := hC.row r hr
    have := tile_self r (by omega)
    rw [hr'] at this; exact this.symm
  have lp1 := down_loop (fg := [4]) (bnd := bName 4) (body := l1__law_repeat) (n := p) (fun q => eR C p e q none none none) (Q1 C) hQ1 h1 fun q j a b => by
    rw [show bName 4 (.int (j : Int)) (eR C p e q none none none) = some (eR C p e q (some (.sh (.int j))) none none) from rfl, bk_some]
    unfold l1__law_repeat
    by_cases g : Q1 C j
    · rw [ifS_t (by rw [rp_1 hl hp a b, decide_eq_true g]), setS_ok (d := .int j) rfl rfl, lk_nx]
      exact ⟨fun _ => rfl, fun z => absurd g z⟩
    · rw [ifS_f (by rw [rp_1 hl hp a b, decide_eq_false g]), nxS, lk_nx]
      exact ⟨fun z => absurd z g, fun _ => rfl⟩
  obtain ⟨s, e1, hs⟩ := lp1
  have lp2 := down_loop (fg := [4]) (bnd := bName 4) (body := l2__law_repeat) (n := e) (fun q => eR C p e s none (some (.sh (.int q))) none) (Q2 C e) hQ2 h3 fun q j a b => by
    rw [show bName 4 (.int (j : Int)) (eR C p e s none (some (.sh (.int q))) none) = some (eR C p e s (some (.sh (.int j))) (some (.sh (.int q))) none) from rfl, bk_some]
    unfold l2__law_repeat
    by_cases g : Q2 C e j
    · rw [ifS_t (by rw [rp_2 hC hp he a b, decide_eq_true g]), setS_ok (d := .int j) rfl rfl, lk_nx]
      exact ⟨fun _ => rfl, fun z => absurd g z⟩
    · rw [ifS_f (by rw [rp_2 hC hp he a b, decide_eq_false g]), nxS, lk_nx]
      exact ⟨fun z => absurd z g, fun _ => rfl⟩
  obtain ⟨t, e2, ht⟩ := lp2
  refine ⟨s, t, ?_, hs, ht⟩
  obtain ⟨s1, s2, _, _⟩ := hs
  obtain ⟨t1, t2, _, _⟩ := ht
  unfold m__law_repeat b__law_repeat mOf
  have e0 : ([dS C].map (fun d => some (OD.sh d)) ++ List.replicate (7 - 1) none) = [some (.sh (dS C)), none, none, none, none, none, none] := rfl
  have w1 : setS 1 [] (opA dLen (aCons (var 0) aNil)) [some (.sh (dS C)), none, none, none, none, none, none] = .nx [some (.sh (dS C)), some (.sh (.int p)), none, none, none, none, none] := by
    rw [setS_ok (opA_ok (a := dS C) rfl (dLen_lst' _ p (by simp; exact hl))) rfl]; rfl
  have w2 : setS 2 [] (opA dLen (aCons (op2 dIx (var 0) (con (.int 0))) aNil)) [some (.sh (dS C)), some (.sh (.int p)), none, none, none, none, none] = .nx [some (.sh (dS C)), some (.sh (.int p)), some (.sh (.int e)), none, none, none, none] := by
    rw [setS_ok (opA_ok (op2_ok (a := dS C) rfl rfl g0) (dLen_str' _ _ hr0 (by omega))) rfl]; rfl
  have w3 : setS 3 [1] (var 1) [some (.sh (dS C)), some (.sh (.int p)), some (.sh (.int e)), none, none, none, none] = .nx (eR C p e p none none none) := by
    rw [setS_ok (d := .int p) rfl rfl]; rfl
  have w4 := for_down (fg := [4]) (bnd := bName 4) (body := l1__law_repeat) (fa := aCons (var 1) (aCons (con (.int 0)) (aCons (op1 dNeg (con (.int 1))) aNil))) (n := p) (by omega) (args3 rfl rfl rfl) e1
  have w5 : setS 5 [2] (var 2) (eR C p e s none none none) = .nx (eR C p e s none (some (.sh (.int e))) none) := by
    rw [setS_ok (d := .int e) rfl rfl]; rfl
  have w6 := for_down (fg := [4]) (bnd := bName 4) (body := l2__law_repeat) (fa := aCons (var 2) (aCons (con (.int 0)) (aCons (op1 dNeg (con (.int 1))) aNil))) (n := e) (by omega) (args3 rfl rfl rfl) e2
  have b1 : itE (sliceE (var 0) pN (pI (var 3))) (eR C p e s none (some (.sh (.int t))) none) = .ok ((C.take s).map D.str) := by
    have := sl_to (f := var 0) (g := var 3) (ρ := eR C p e s none (some (.sh (.int t))) none) (xs := C.map D.str) (k := s) rfl rfl (by omega) (by simp; omega)
    unfold itE
    rw [this, R.bind_ok, Int.toNat_natCast, ← List.map_take]; rfl
  have w7 := lcE_map (C.take s) D.str (fun r => D.str (r.take t)) (Ee := [0]) (vs := [6]) (bnd := bName 6) (f := sliceE (var 6) pN (pI (var 5))) b1 (by rw [flat_strs]; rfl) (by simp; omega) fun r hr => by
    rw [bName, bk_some]
    have hr' := hC.row r (List.mem_of_mem_take hr)
    have := ss_to (f := var 6) (g := var 5) (ρ := (fgt [6] (eR C p e s none (some (.sh (.int t))) none)).set 6 (some (.sh (.str r)))) (xs := r) (k := t) rfl (by omega) rfl (by omega) (by omega)
    rw [Int.toNat_natCast] at this
    exact this
  have e3 : (C.take s).map (fun r => D.str (r.take t)) = (redN C s t).map D.str := by unfold redN; rw [List.map_map]; rfl
  rw [e3] at w7
  rw [if_pos (by rfl), e0, seqS_nx w1, seqS_nx w2, seqS_nx w3, seqS_nx w4, seqS_nx w5, seqS_nx w6, retF_ok w7 (fl_strs _), oS_lstF]
/-! ### _law_turn_over -/
theorem turn_ok (r : List Nat) (hl : r.length < 1000) : m__law_turn_over [.str r] = .ok (.sh (.str (r.map fun c => chB (c == 46)))) := by
  unfold m__law_turn_over b__law_turn_over mOf
  have e0 : ([D.str r].map (fun d => some (OD.sh d)) ++ List.replicate (2 - 1) none) = [some (.sh (.str r)), none] := rfl
  have h := lcE_map r (fun c => D.str [c]) (fun c => D.str [chB (c == 46)]) (Ee := [0]) (vs := [1]) (bnd := bName 1) (it := itE (var 0)) (f := op2 dIx (con (.str [46, 35])) (opA dInt (aCons (op2 dEq (var 1) (con (.str [46]))) aNil))) (ρ := [some (.sh (.str r)), none]) rfl (by simp [D.flat]) (by omega) fun c hc => by
    rw [bName, bk_some]
    refine pick_ch (op2_ok (a := .str [c]) (b := .str [46]) rfl rfl ?_)
    unfold dEq
    rw [D.dt_str, D.dt_str, Bool.and_self, if_pos rfl, eqv_str]
    congr 2
    rw [Bool.eq_iff_iff]; simp
  have h2 := erE_ok h
  rw [lstF_er, chars_map] at h2
  rw [if_pos (by rfl), e0, retS_ok (join_chars h2 (by simp; omega)) rfl]
end K02
set_option Elab.async false
set_option linter.all false
set_option maxRecDepth 100000
namespace K02
open PySem L2 DL DLC
/-! ### _law_shift -/
def eSh (C : List (List Nat)) (a b : Nat) (S : List (List Nat)) (k r : Option OD) : En := [some (.sh (dS C)), some (.sh (.int a)), some (.sh (.int b)), some (oS S), k, r]
def lshN (C : List (List Nat)) (a b : Nat) : List (List Nat) := (List.range C.length).map fun k => rotN (C.getD ((k + a) % C.length) []) b
theorem retV_ok {i : Nat} {ρ : En} {od : OD} (h : ρ[i]? = some (some od)) : retV i ρ = .rt od (ρ.set i none) := by unfold retV; rw [h]
section
variable {p e a b k : Nat} {C S : List (List Nat)}
theorem sf_turn (hC : Cl p e C) (h1 : 1 ≤ p) (hp : p ≤ 60) (h3 : 1 ≤ e) (he : e ≤ 60) (hR : S.length = k) (hk : k < p) (b' : Nat) (hb' : b' = b % e) (R' : List (List Nat)) (hR' : R' = S ++ [rotN (C.getD ((k + a) % C.length) []) b']) :
    (l1__law_shift (eSh C a b S (some (.sh (.int k))) none)).lk (fun ρ2 => fgt [4, 5] ρ2 = eSh C a b R' none none) fun _ => False := by
  have hl := hC.len
  have hm : (k + a) % C.length < C.length := Nat.mod_lt _ (by omega)
  have hr' := hC.row _ (List.getElem_mem hm)
  have hbe : b' < e := by rw [hb']; exact Nat.mod_lt _ h3
  have w1 : setS 5 ([0] ++ []) (op2 dIx (var 0) (op2 dMod (opA dInt (aCons (op2 dAdd (var 4) (var 1)) aNil)) (opA dLen (aCons (var 0) aNil)))) (eSh C a b S (some (.sh (.int k))) none) = .nx (eSh C a b S (some (.sh (.int k))) (some (.sh (.str C[(k + a) % C.length])))) := by
    have q1 : op2 dMod (opA dInt (aCons (op2 dAdd (var 4) (var 1)) aNil)) (opA dLen (aCons (var 0) aNil)) (eSh C a b S (some (.sh (.int k))) none) = .ok (.int (((k + a) % C.length : Nat) : Int)) :=
      op2_ok (a := .int ((k + a : Nat) : Int)) (opA_ok (op2_ok (a := .int k) (b := .int a) rfl rfl rfl) rfl) (opA_ok (a := dS C) rfl (dLen_lst' _ C.length (by simp))) (dMod_nat _ _ (by omega))
    rw [setS_ok (op2_ok (a := dS C) rfl q1 (get_dS hm)) rfl]; rfl
  have v5 : var 5 (eSh C a b S (some (.sh (.int k))) (some (.sh (.str C[(k + a) % C.length])))) = .ok (.str C[(k + a) % C.length]) := rfl
  have q2 : op2 dMod (opA dInt (aCons (var 2) aNil)) (opA dLen (aCons (var 5) aNil)) (eSh C a b S (some (.sh (.int k))) (some (.sh (.str C[(k + a) % C.length])))) = .ok (.int b') := by
    rw [hb']
    exact op2_ok (a := .int b) (opA_ok (a := .int b) rfl rfl) (opA_ok v5 (dLen_str' _ e hr' (by omega))) (dMod_nat _ _ h3)
  have q3 := ss_from v5 (by omega) q2 (by omega) (by omega)
  have q4 := ss_to v5 (by omega) q2 (by omega) (by omega)
  rw [Int.toNat_natCast] at q3 q4
  have q5 := op2_ok q3 q4 (dAdd_str' (by simp; omega))
  have eg : C.getD ((k + a) % C.length) [] = C[(k + a) % C.length] := by simp [List.getD, List.getElem?_eq_getElem hm]
  unfold l1__law_shift
  rw [seqS_nx w1]
  unfold appS
  rw [show ownL 3 (eSh C a b S (some (.sh (.int k))) (some (.sh (.str C[(k + a) % C.length])))) = some (S.map fun r => .sh (.str r)) from rfl]
  simp only
  rw [q5, R.out_ok, if_pos (by unfold okLen keeps; simp [D.flat]; omega), frzIf_flat rfl, lk_nx, hR', eg]
  show fgt [4, 5] [some (.sh (dS C)), some (.sh (.int a)), some (.sh (.int b)), some (.lst _), some (.sh (.int k)), _] = _
  unfold eSh oS rotN
  rw [List.map_append]; rfl
theorem lsh_loop (hC : Cl p e C) (h1 : 1 ≤ p) (hp : p ≤ 60) (h3 : 1 ≤ e) (he : e ≤ 60) : loopS [4, 5] (bName 4) l1__law_shift (rngL 0 p) (eSh C a b [] none none) = .nx (eSh C a b (lshN C a (b % e)) none none) := by
  have hl := hC.len
  obtain ⟨ρ', e1, S, rfl, hR⟩ := loop_inv (fg := [4, 5]) (bnd := bName 4) (body := l1__law_shift) (rngL 0 p) (fun k ρ => ∃ S, ρ = eSh C a b S none none ∧ S = (List.range k).map fun k => rotN (C.getD ((k + a) % C.length) []) (b % e)) (eSh C a b [] none none) ⟨[], rfl, rfl⟩ fun k d ρ hd hρ => by
    obtain ⟨S, rfl, hR⟩ := hρ
    obtain ⟨hk, rfl⟩ := rngL_get hd
    rw [Int.zero_add, show bName 4 (.int (k : Int)) (eSh C a b S none none) = some (eSh C a b S (some (.sh (.int k))) none) from rfl, bk_some]
    have h := sf_turn (a := a) (b := b) (k := k) (S := S) hC h1 hp h3 he (by rw [hR]; simp) hk (b % e) rfl _ rfl
    revert h
    generalize l1__law_shift (eSh C a b S (some (.sh (.int k))) none) = o
    have hR2 : S ++ [rotN (C.getD ((k + a) % C.length) []) (b % e)] = (List.range (k + 1)).map fun k => rotN (C.getD ((k + a) % C.length) []) (b % e) := by rw [List.range_succ, List.map_append, hR]; rfl
    cases o with
    | nx ρ2 => rw [lk_nx, lk_nx]; exact fun z => ⟨_, z, hR2⟩
    | ct ρ2 => rw [lk_ct, lk_ct]; exact fun z => ⟨_, z, hR2⟩
    | rt od ρ2 => rw [lk_rt]; exact fun z => z.elim
    | ex c fs ρ2 => unfold Out.lk; exact fun z => z.elim
    | bk ρ2 => unfold Out.lk; exact fun z => z.elim
    | st => unfold Out.lk; exact fun z => z.elim
  rw [rngL_len] at hR
  have eq : S = lshN C a (b % e) := by unfold lshN; rw [hR, hl]
  rw [e1, eq]
theorem lsh_w1 : setF 3 [] (lstE aNil) [some (.sh (dS C)), some (.sh (.int a)), some (.sh (.int b)), none, none, none] = .nx (eSh C a b [] none none) := by
  unfold eSh oS
  simp [mOf, seqS, exprS, setS, setF, retS, retF, retV, retN, nxS, ifS, op1, op2, op2F, aNil, aCons, opA, opAF, erE, callE, tst, andT, orT, notT, andV, orV, notV, asB, var, con, sliceE, sliceF, pI, pN, asI, ifE, lstE, tupE, strOp, asS, frzIf, frzO, frz, frz1, D.flat, OD.fl_sh, List.replicate, fgt, fgt1, bName, dInt, dAbs, okSz, okLen, lstF_eq]
theorem lsh_w2 (hl : C.length = p) : (aCons (opA dLen (aCons (var 0) aNil)) aNil) (eSh C a b [] none none) = .ok [.int p] := args1 (opA_ok (a := dS C) rfl (dLen_lst' _ p (by simp; exact hl)))
theorem lsh_w4 {S : List (List Nat)} : retV 3 (eSh C a b S none none) = .rt (oS S) ((eSh C a b S none none).set 3 none) := rfl
theorem lshift_ok (hC : Cl p e C) (h1 : 1 ≤ p) (hp : p ≤ 60) (h3 : 1 ≤ e) (he : e ≤ 60) : m__law_shift [dS C, .int a, .int b] = .ok (oS (lshN C a (b % e))) := by
  have e1 := lsh_loop (a := a) (b := b) hC h1 hp h3 he
  generalize lshN C a (b % e) = S at e1 ⊢
  have w3 := for_rng1 (show p < 1099511627776 by omega) (lsh_w2 hC.len) e1
  have w : b__law_shift [some (.sh (dS C)), some (.sh (.int a)), some (.sh (.int b)), none, none, none] = .rt (oS S) ((eSh C a b S none none).set 3 none) := by
    unfold b__law_shift
    rw [seqS_nx lsh_w1, seqS_nx w3, lsh_w4]
  exact mOf_rt rfl rfl w
end
end K02
set_option Elab.async false
set_option linter.all false
set_option maxRecDepth 100000
namespace K02
open PySem L2 DL DLC
/-! ### lists that repeat -/
section
variable {α : Type}
theorem tile_len {xs : List α} {n j : Nat} (h1 : 1 ≤ j) (h2 : j ≤ xs.length) : (tile xs n j).length = n := by
  unfold tile
  rw [List.length_take, flat_len, List.length_take, Nat.min_eq_left h2]
  exact Nat.min_eq_left (Nat.le_mul_of_pos_right _ h1)
theorem rep_get (ys : List α) : ∀ (n i : Nat), i < n * ys.length → (List.replicate n ys).flatten[i]? = ys[i % ys.length]?
  | 0, i, h => by omega
  | n + 1, i, h => by
    rw [List.replicate_succ, List.flatten_cons]
    by_cases hi : i < ys.length
    · rw [List.getElem?_append_left hi, Nat.mod_eq_of_lt hi]
    · rw [List.getElem?_append_right (by omega), rep_get ys n (i - ys.length) (by rw [Nat.succ_mul] at h; omega)]
      congr 1
      exact (Nat.mod_eq_sub_mod (by omega)).symm
theorem tile_get {xs : List α} {n j i : Nat} (h1 : 1 ≤ j) (h2 : j ≤ xs.length) (hi : i < n) : (tile xs n j)[i]? = xs[i % j]? := by
  unfold tile
  have hl : (xs.take j).length = j := by rw [List.length_take]; omega
  have hm : i % j < j := Nat.mod_lt _ h1
  have : i < n * (xs.take j).length := by rw [hl]; exact Nat.lt_of_lt_of_le hi (Nat.le_mul_of_pos_right _ h1)
  rw [List.getElem?_take_of_lt hi, rep_get _ _ _ this, hl, List.getElem?_take_of_lt hm]
theorem tile_iff {xs : List α} {j : Nat} (h1 : 1 ≤ j) (h2 : j ≤ xs.length) : xs = tile xs xs.length j ↔ ∀ i, i < xs.length → xs[i]? = xs[i % j]? := by
  constructor
  · intro h i hi
    have : xs[i]? = (tile xs xs.length j)[i]? := congrArg (fun l : List α => l[i]?) h
    rw [tile_get h1 h2 hi] at this
    exact this
  · intro h
    apply List.ext_getElem?
    intro i
    by_cases hi : i < xs.length
    · rw [h i hi, tile_get h1 h2 hi]
    · rw [List.getElem?_eq_none (by omega), List.getElem?_eq_none (by rw [tile_len h1 h2]; omega)]
theorem drop_iff {xs : List α} {j : Nat} (h1 : 1 ≤ j) : xs.drop j = xs.take (xs.length - j) ↔ ∀ i, i + j < xs.length → xs[i + j]? = xs[i]? := by
  constructor
  · intro h i hi
    have := congrArg (fun l : List α => l[i]?) h
    simp only [List.getElem?_drop] at this
    rw [List.getElem?_take_of_lt (by omega), Nat.add_comm] at this
    exact this
  · intro h
    apply List.ext_getElem?
    intro i
    rw [List.getElem?_drop]
    by_cases hi : i + j < xs.length
    · rw [List.getElem?_take_of_lt (by omega), Nat.add_comm, h i hi]
    · rw [List.getElem?_eq_none (by omega), List.getElem?_eq_none (by rw [List.length_take]; omega)]
theorem mod_iff {xs : List α} {j : Nat} (h1 : 1 ≤ j) : (∀ i, i + j < xs.length → xs[i + j]? = xs[i]?) ↔ ∀ i, i < xs.length → xs[i]? = xs[i % j]? := by
  constructor
  · intro h i
    induction i using Nat.strongRecOn with
    | _ i ih =>
      intro hi
      by_cases hij : i < j
      · rw [Nat.mod_eq_of_lt hij]
      · have h2 := h (i - j) (by omega)
        rw [show i - j + j = i from by omega] at h2
        rw [h2, ih (i - j) (by omega) (by omega), ← Nat.mod_eq_sub_mod (by omega)]
  · intro h i hi
    rw [h (i + j) hi, h i (by omega), Nat.add_mod_right]
theorem div_iff {n j : Nat} (h1 : 1 ≤ j) : n / j * j = n ↔ n % j = 0 := by
  have := Nat.div_add_mod n j
  rw [Nat.mul_comm] at this
  omega
theorem per_iff {xs : List α} {j : Nat} (h1 : 1 ≤ j) (h2 : j ≤ xs.length) : Per xs j ↔ (xs.length / j * j = xs.length ∧ xs = tile xs xs.length j) := by
  unfold Per
  rw [div_iff h1, drop_iff h1, mod_iff h1, tile_iff h1 h2]
end
/-- the least repeats of the two ways are one -/
theorem lst_lp {C : List (List Nat)} {s t : Nat} (h : IsLp C s) (g : Lst (Q1 C) C.length t) : s = t := by
  obtain ⟨g1, g2, g3, g4⟩ := g
  rcases Nat.lt_trichotomy s t with z | z | z
  · exact absurd ((per_iff h.lo h.hi).mp h.per) (g4 s h.lo z)
  · exact z
  · exact absurd ((per_iff g1 g2).mpr g3) (h.min t g1 z)
theorem cols_get {C : List (List Nat)} {e j : Nat} (h : j < e) : (colsN C e)[j]? = some (colN C j) := by
  unfold colsN
  rw [List.getElem?_map, List.getElem?_range h]; rfl
theorem per_cols {p e j : Nat} {C : List (List Nat)} (hC : Cl p e C) (h1 : 1 ≤ j) (h2 : j ≤ e) : Per (colsN C e) j ↔ Q2 C e j := by
  rw [per_iff h1 (by rw [cols_len]; exact h2)]
  unfold Q2
  rw [cols_len]
  refine and_congr_right fun _ => ?_
  have h3 := tile_iff (xs := colsN C e) h1 (by rw [cols_len]; exact h2)
  rw [cols_len] at h3
  rw [h3]
  constructor
  · intro h r hr
    have hl := hC.row r hr
    have := (tile_iff (xs := r) h1 (by omega)).mpr fun i hi => by
      have hi' : i < e := by omega
      have hm : i % j < e := Nat.lt_of_lt_of_le (Nat.mod_lt _ h1) h2
      have q := h i hi'
      rw [cols_get hi', cols_get hm] at q
      have q := Option.some.inj q
      obtain ⟨n, hn, en⟩ := List.getElem_of_mem hr
      have q2 := congrArg (fun l : List Nat => l[n]?) q
      simp only [colN, List.getElem?_map, List.getElem?_eq_getElem hn, en, Option.map_some, Option.some.injEq] at q2
      rw [List.getD_eq_getElem?_getD, List.getD_eq_getElem?_getD] at q2
      rw [List.getElem?_eq_getElem hi, List.getElem?_eq_getElem (show i % j < r.length by omega)] at q2 ⊢
      simpa using q2
    rw [hl] at this; exact this
  · intro h i hi
    have hm : i % j < e := Nat.lt_of_lt_of_le (Nat.mod_lt _ h1) h2
    rw [cols_get hi, cols_get hm]
    congr 1
    unfold colN
    apply List.map_congr_left
    intro r hr
    have hl := hC.row r hr
    have q := (tile_iff (xs := r) h1 (by omega)).mp (by rw [hl]; exact h r hr) i (by omega)
    rw [List.getD_eq_getElem?_getD, List.getD_eq_getElem?_getD, q]
theorem lst_cols {p e s t : Nat} {C : List (List Nat)} (hC : Cl p e C) (h : IsLp (colsN C e) s) (g : Lst (Q2 C e) e t) : s = t := by
  obtain ⟨g1, g2, g3, g4⟩ := g
  have hs := h.hi
  rw [cols_len] at hs
  rcases Nat.lt_trichotomy s t with z | z | z
  · exact absurd ((per_cols hC h.lo hs).mp h.per) (g4 s h.lo z)
  · exact z
  · exact absurd ((per_cols hC g1 g2).mpr g3) (h.min t g1 z)
/-! ### the least repeat is its own -/
theorem per_take {α : Type} {xs : List α} {s j : Nat} (hs : Per xs s) (h1 : 1 ≤ s) (h2 : s ≤ xs.length) (hj : 1 ≤ j) (hjs : j ≤ s) (h : Per (xs.take s) j) : Per xs j := by
  have hl : (xs.take s).length = s := by rw [List.length_take]; omega
  rw [per_iff h1 h2, tile_iff h1 h2] at hs
  rw [per_iff hj (by omega), tile_iff hj (by omega), hl] at h
  rw [per_iff hj (by omega), tile_iff hj (by omega)]
  obtain ⟨a1, a2⟩ := hs
  obtain ⟨b1, b2⟩ := h
  have hmod : xs.length % j = 0 := by
    have e1 : s ∣ xs.length := ⟨xs.length / s, by rw [Nat.mul_comm]; exact a1.symm⟩
    have e2 : j ∣ s := ⟨s / j, by rw [Nat.mul_comm]; exact b1.symm⟩
    exact Nat.mod_eq_zero_of_dvd (Nat.dvd_trans e2 e1)
  refine ⟨(div_iff hj).mpr hmod, fun i hi => ?_⟩
  have hm : i % s < s := Nat.mod_lt _ h1
  have q := b2 (i % s) hm
  rw [List.getElem?_take_of_lt hm, List.getElem?_take_of_lt (Nat.lt_of_lt_of_le (Nat.mod_lt _ hj) hjs)] at q
  have e2 : j ∣ s := ⟨s / j, by rw [Nat.mul_comm]; exact b1.symm⟩
  rw [Nat.mod_mod_of_dvd _ e2] at q
  rw [a2 i hi, q]
end K02
set_option Elab.async false
set_option linter.all false
set_option maxRecDepth 100000
namespace K02
open PySem L2 DL DLC
theorem Cl.red {p e s t : Nat} {C : List (List Nat)} (hC : Cl p e C) (hs : s ≤ p) (ht : t ≤ e) : Cl s t (redN C s t) where
  len := by unfold redN; rw [List.length_map, List.length_take, hC.len]; omega
  row := fun r hr => by
    obtain ⟨x, hx, rfl⟩ := List.mem_map.mp hr
    rw [List.length_take, hC.row x (List.mem_of_mem_take hx)]; omega
  chr := fun r hr c hc => by
    obtain ⟨x, hx, rfl⟩ := List.mem_map.mp hr
    exact hC.chr x (List.mem_of_mem_take hx) c (List.mem_of_mem_take hc)
/-- the first place, row by row -/
def Fst (Q : Nat → Nat → Prop) (p e : Nat) : Option (Nat × Nat) → Prop
  | none => ∀ a, a < p → ∀ b, b < e → ¬ Q a b
  | some (a, b) => a < p ∧ b < e ∧ Q a b ∧ (∀ a', a' < a → ∀ b', b' < e → ¬ Q a' b') ∧ ∀ b', b' < b → ¬ Q a b'
theorem Fst.uniq {Q : Nat → Nat → Prop} {p e : Nat} : ∀ {o o' : Option (Nat × Nat)}, Fst Q p e o → Fst Q p e o' → o = o'
  | none, none, _, _ => rfl
  | none, some (a, b), h, g => absurd g.2.2.1 (h a g.1 b g.2.1)
  | some (a, b), none, g, h => absurd g.2.2.1 (h a g.1 b g.2.1)
  | some (a, b), some (a', b'), ⟨h1, h2, h3, h4, h5⟩, ⟨g1, g2, g3, g4, g5⟩ => by
    have ea : a = a' := by
      rcases Nat.lt_trichotomy a a' with z | z | z
      · exact absurd h3 (g4 a z b h2)
      · exact z
      · exact absurd g3 (h4 a' z b' g2)
    subst ea
    have eb : b = b' := by
      rcases Nat.lt_trichotomy b b' with z | z | z
      · exact absurd h3 (g5 b z)
      · exact z
      · exact absurd g3 (h5 b' z)
    rw [eb]
def dO : Option (Nat × Nat) → D
  | none => .non
  | some (a, b) => .tup [.int a, .int b]
def eU (X Y RX RY : List (List Nat)) (o4 o5 : Option OD) : En := [some (.sh (dS X)), some (.sh (dS Y)), some (oS RX), some (oS RY), o4, o5]
section
variable {X Y RX RY : List (List Nat)} {s t a b : Nat} {o4 o5 : Option OD}
theorem up_v2 : var 2 (eU X Y RX RY o4 o5) = .ok (dS RX) := by show R.ok (oS RX).er = _; rw [oS_er]
theorem up_v3 : var 3 (eU X Y RX RY o4 o5) = .ok (dS RY) := by show R.ok (oS RY).er = _; rw [oS_er]
theorem up_turn (hC : Cl s t RY) (h1 : 1 ≤ s) (hp : s ≤ 60) (h3 : 1 ≤ t) (he : t ≤ 60) (ha : a < s) (hb : b < t) :
    tst (op2 dEq (erE (callE m_shift_rows (aCons (var 3) (aCons (var 4) (aCons (var 5) aNil))))) (var 2)) (eU X Y RX RY (some (.sh (.int a))) (some (.sh (.int b)))) = .ok (decide (shN RY a b = RX)) := by
  have q : callE m_shift_rows (aCons (var 3) (aCons (var 4) (aCons (var 5) aNil))) (eU X Y RX RY (some (.sh (.int a))) (some (.sh (.int b)))) = .ok (.sh (dS (shN RY a b))) := by
    rw [call3 (a := dS RY) (b := .int a) (c := .int b) up_v3 rfl rfl]; exact shift_ok hC h1 hp h3 he ha hb
  exact tst_ok (op2_ok (erE_ok q) up_v2 (dEq_dS _ _))
theorem up_ret : retS ([4] ++ ([5] ++ [])) (tupE (aCons (var 4) (aCons (var 5) aNil))) (eU X Y RX RY (some (.sh (.int a))) (some (.sh (.int b)))) = .rt (.sh (.tup [.int a, .int b])) (eU X Y RX RY (some (.sh (.int a))) (some (.sh (.int b)))) := by
  have q : tupE (aCons (var 4) (aCons (var 5) aNil)) (eU X Y RX RY (some (.sh (.int a))) (some (.sh (.int b)))) = .ok (.tup [.int a, .int b]) := by
    unfold tupE
    rw [args2 (a := .int a) (b := .int b) rfl rfl, R.bind_ok]; rfl
  unfold retS
  rw [q, R.out_ok]
  rfl
theorem up_inner (hC : Cl s t RY) (h1 : 1 ≤ s) (hp : s ≤ 60) (h3 : 1 ≤ t) (he : t ≤ 60) (ha : a < s) :
    (loopS [5] (bName 5) l1_same_up_to_shift (rngL 0 t) (eU X Y RX RY (some (.sh (.int a))) none) = .nx (eU X Y RX RY (some (.sh (.int a))) none) ∧ ∀ b, b < t → ¬ shN RY a b = RX) ∨
    ∃ (b : Nat) (ρ : En), b < t ∧ loopS [5] (bName 5) l1_same_up_to_shift (rngL 0 t) (eU X Y RX RY (some (.sh (.int a))) none) = .rt (.sh (.tup [.int a, .int b])) ρ ∧ shN RY a b = RX ∧ ∀ b', b' < b → ¬ shN RY a b' = RX := by
  rcases loop_rt (fg := [5]) (bnd := bName 5) (body := l1_same_up_to_shift) (rngL 0 t) (fun k ρ => ρ = eU X Y RX RY (some (.sh (.int a))) none ∧ ∀ b, b < k → ¬ shN RY a b = RX) (fun k od => od = .sh (.tup [.int a, .int k]) ∧ shN RY a k = RX ∧ ∀ b, b < k → ¬ shN RY a b = RX)
    (eU X Y RX RY (some (.sh (.int a))) none) ⟨rfl, fun b h => by omega⟩ (fun k d ρ hd hρ => by
      obtain ⟨rfl, hn⟩ := hρ
      obtain ⟨hk, rfl⟩ := rngL_get hd
      rw [Int.zero_add, show bName 5 (.int (k : Int)) (eU X Y RX RY (some (.sh (.int a))) none) = some (eU X Y RX RY (some (.sh (.int a))) (some (.sh (.int k)))) from rfl, bk_some]
      unfold l1_same_up_to_shift
      by_cases g : shN RY a k = RX
      · rw [ifS_t (by rw [up_turn hC h1 hp h3 he ha hk, decide_eq_true g]), up_ret, lk_rt]
        exact ⟨rfl, g, hn⟩
      · rw [ifS_f (by rw [up_turn hC h1 hp h3 he ha hk, decide_eq_false g]), nxS, lk_nx]
        refine ⟨rfl, fun b hb => ?_⟩
        by_cases z : b = k
        · rw [z]; exact g
        · exact hn b (by omega)) with ⟨ρ', e1, rfl, hn⟩ | ⟨k, od, ρ2, hk, e1, rfl, g, hn⟩
  · rw [rngL_len] at hn
    exact .inl ⟨e1, hn⟩
  · rw [rngL_len] at hk
    exact .inr ⟨k, ρ2, hk, e1, g, hn⟩
theorem up_len (hC : Cl s t RY) (h1 : 1 ≤ s) (he : t ≤ 60) : (aCons (opA dLen (aCons (op2 dIx (var 3) (con (.int 0))) aNil)) aNil) (eU X Y RX RY o4 o5) = .ok [.int t] := by
  have h0 : 0 < RY.length := by rw [hC.len]; omega
  have g0 := get_dS h0
  rw [Int.natCast_zero] at g0
  exact args1 (opA_ok (op2_ok up_v3 rfl g0) (dLen_str' _ _ (hC.row _ (List.getElem_mem h0)) (by omega)))
theorem up_outer (hC : Cl s t RY) (h1 : 1 ≤ s) (hp : s ≤ 60) (h3 : 1 ≤ t) (he : t ≤ 60) :
    (loopS [4, 5] (bName 4) l2_same_up_to_shift (rngL 0 s) (eU X Y RX RY none none) = .nx (eU X Y RX RY none none) ∧ Fst (fun a b => shN RY a b = RX) s t none) ∨
    ∃ (a b : Nat) (ρ : En), loopS [4, 5] (bName 4) l2_same_up_to_shift (rngL 0 s) (eU X Y RX RY none none) = .rt (.sh (.tup [.int a, .int b])) ρ ∧ Fst (fun a b => shN RY a b = RX) s t (some (a, b)) := by
  rcases loop_rt (fg := [4, 5]) (bnd := bName 4) (body := l2_same_up_to_shift) (rngL 0 s) (fun k ρ => ρ = eU X Y RX RY none none ∧ ∀ a, a < k → ∀ b, b < t → ¬ shN RY a b = RX) (fun k od => ∃ b : Nat, od = .sh (.tup [.int k, .int b]) ∧ b < t ∧ shN RY k b = RX ∧ (∀ b', b' < b → ¬ shN RY k b' = RX) ∧ ∀ a, a < k → ∀ b, b < t → ¬ shN RY a b = RX)
    (eU X Y RX RY none none) ⟨rfl, fun b h => by omega⟩ (fun k d ρ hd hρ => by
      obtain ⟨rfl, hn⟩ := hρ
      obtain ⟨hk, rfl⟩ := rngL_get hd
      rw [Int.zero_add, show bName 4 (.int (k : Int)) (eU X Y RX RY none none) = some (eU X Y RX RY (some (.sh (.int k))) none) from rfl, bk_some]
      unfold l2_same_up_to_shift
      rcases up_inner (X := X) (Y := Y) (RX := RX) (a := k) hC h1 hp h3 he hk with ⟨e1, hb⟩ | ⟨b, ρ, hb, e1, g, hm⟩
      · rw [for_rng1 (show t < 1099511627776 by omega) (up_len hC h1 he) e1, lk_nx]
        refine ⟨rfl, fun a ha b hb' => ?_⟩
        by_cases z : a = k
        · rw [z]; exact hb b hb'
        · exact hn a (by omega) b hb'
      · rw [for_rng1 (show t < 1099511627776 by omega) (up_len hC h1 he) e1, lk_rt]
        exact ⟨b, rfl, hb, g, hm, hn⟩) with ⟨ρ', e1, rfl, hn⟩ | ⟨k, od, ρ2, hk, e1, b, rfl, hb, g, hm, hn⟩
  · rw [rngL_len] at hn
    exact .inl ⟨e1, hn⟩
  · rw [rngL_len] at hk
    exact .inr ⟨k, b, ρ2, e1, hk, hb, g, hn, hm⟩
end
end K02
set_option Elab.async false
set_option linter.all false
set_option maxRecDepth 100000
namespace K02
open PySem L2 DL DLC
theorem seqS_nx' {s t : En → Out} {ρ ρ' : En} {o : Out} (h : s ρ = .nx ρ') (h2 : t ρ' = o) : seqS s t ρ = o := by rw [seqS_nx h, h2]
theorem upto_ok {p e p' e' s0 t0 s t : Nat} {X Y RX RY : List (List Nat)} (hX : Cl p e X) (hY : Cl p' e' Y) (h1 : 1 ≤ p) (hp : p ≤ 60) (h3 : 1 ≤ e) (he : e ≤ 60) (h1' : 1 ≤ p') (hp' : p' ≤ 60) (h3' : 1 ≤ e') (he' : e' ≤ 60)
    (rX : m_repeat_of [dS X] = .ok (oS RX)) (rY : m_repeat_of [dS Y] = .ok (oS RY)) (hA : Cl s0 t0 RX) (hB : Cl s t RY) (a1 : 1 ≤ s0) (a2 : s0 ≤ 60) (a3 : 1 ≤ t0) (a4 : t0 ≤ 60) (b1 : 1 ≤ s) (b2 : s ≤ 60) (b3 : 1 ≤ t) (b4 : t ≤ 60) :
    ∃ o, m_same_up_to_shift [dS X, dS Y] = .ok (.sh (dO o)) ∧ ((s0 = s ∧ t0 = t) → Fst (fun a b => shN RY a b = RX) s t o) ∧ (¬ (s0 = s ∧ t0 = t) → o = none) := by
  have w1 : exprS (erE (callE m_check_cloth (aCons (var 0) aNil))) [some (.sh (dS X)), some (.sh (dS Y)), none, none, none, none] = .nx [some (.sh (dS X)), some (.sh (dS Y)), none, none, none, none] := by
    have : callE m_check_cloth (aCons (var 0) aNil) [some (.sh (dS X)), some (.sh (dS Y)), none, none, none, none] = .ok (.sh .non) := by
      rw [call1 (a := dS X) rfl]; exact check_ok hX h1 hp h3 he
    exact exprS_ok (erE_ok this)
  have w2 : exprS (erE (callE m_check_cloth (aCons (var 1) aNil))) [some (.sh (dS X)), some (.sh (dS Y)), none, none, none, none] = .nx [some (.sh (dS X)), some (.sh (dS Y)), none, none, none, none] := by
    have : callE m_check_cloth (aCons (var 1) aNil) [some (.sh (dS X)), some (.sh (dS Y)), none, none, none, none] = .ok (.sh .non) := by
      rw [call1 (a := dS Y) rfl]; exact check_ok hY h1' hp' h3' he'
    exact exprS_ok (erE_ok this)
  have w3 : setF 2 ([0] ++ []) (callE m_repeat_of (aCons (var 0) aNil)) [some (.sh (dS X)), some (.sh (dS Y)), none, none, none, none] = .nx [some (.sh (dS X)), some (.sh (dS Y)), some (oS RX), none, none, none] := by
    have q : callE m_repeat_of (aCons (var 0) aNil) [some (.sh (dS X)), some (.sh (dS Y)), none, none, none, none] = .ok (oS RX) := by rw [call1 (a := dS X) rfl]; exact rX
    rw [setF_ok q (fl_oS _)]; rfl
  have w4 : setF 3 ([1] ++ []) (callE m_repeat_of (aCons (var 1) aNil)) [some (.sh (dS X)), some (.sh (dS Y)), some (oS RX), none, none, none] = .nx (eU X Y RX RY none none) := by
    have q : callE m_repeat_of (aCons (var 1) aNil) [some (.sh (dS X)), some (.sh (dS Y)), some (oS RX), none, none, none] = .ok (oS RY) := by rw [call1 (a := dS Y) rfl]; exact rY
    rw [setF_ok q (fl_oS _)]; rfl
  have l2 : opA dLen (aCons (var 2) aNil) (eU X Y RX RY none none) = .ok (.int s0) := opA_ok up_v2 (dLen_lst' _ _ (by rw [List.length_map]; exact hA.len))
  have l3 : opA dLen (aCons (var 3) aNil) (eU X Y RX RY none none) = .ok (.int s) := opA_ok up_v3 (dLen_lst' _ _ (by rw [List.length_map]; exact hB.len))
  have hA0 : 0 < RX.length := by rw [hA.len]; omega
  have hB0 : 0 < RY.length := by rw [hB.len]; omega
  have gA := get_dS hA0
  have gB := get_dS hB0
  rw [Int.natCast_zero] at gA gB
  have k2 : opA dLen (aCons (op2 dIx (var 2) (con (.int 0))) aNil) (eU X Y RX RY none none) = .ok (.int t0) := opA_ok (op2_ok up_v2 rfl gA) (dLen_str' _ _ (hA.row _ (List.getElem_mem hA0)) (by omega))
  have k3 : opA dLen (aCons (op2 dIx (var 3) (con (.int 0))) aNil) (eU X Y RX RY none none) = .ok (.int t) := opA_ok (op2_ok up_v3 rfl gB) (dLen_str' _ _ (hB.row _ (List.getElem_mem hB0)) (by omega))
  have c1 := tst_ok (op2_ok l2 l3 (dNe_int _ _))
  have c2 := tst_ok (op2_ok k2 k3 (dNe_int _ _))
  have e0 : ([dS X, dS Y].map (fun d => some (OD.sh d)) ++ List.replicate (6 - 2) none) = [some (.sh (dS X)), some (.sh (dS Y)), none, none, none, none] := rfl
  by_cases g : s0 = s ∧ t0 = t
  · have g' := g
    obtain ⟨g1, g2⟩ := g'
    subst g1 g2
    rw [decide_eq_true rfl] at c1 c2
    have w5 : (ifS (orT (tst (op2 dNe (opA dLen (aCons (var 2) aNil)) (opA dLen (aCons (var 3) aNil)))) (tst (op2 dNe (opA dLen (aCons (op2 dIx (var 2) (con (.int 0))) aNil)) (opA dLen (aCons (op2 dIx (var 3) (con (.int 0))) aNil))))) (retS [] (con .non)) nxS) (eU X Y RX RY none none) = .nx (eU X Y RX RY none none) := by
      rw [ifS_f (orT_f c1 c2)]; rfl
    rcases up_outer (X := X) (Y := Y) (RX := RX) hB b1 b2 b3 b4 with ⟨e1, hF⟩ | ⟨a, b, ρ, e1, hF⟩
    · refine ⟨none, ?_, fun _ => hF, fun z => absurd g z⟩
      have w6 := for_rng1 (show s0 < 1099511627776 by omega) (args1 l3) e1
      have w : b_same_up_to_shift [some (.sh (dS X)), some (.sh (dS Y)), none, none, none, none] = .rt (.sh .non) (eU X Y RX RY none none) := by
        unfold b_same_up_to_shift
        exact seqS_nx' w1 (seqS_nx' w2 (seqS_nx' w3 (seqS_nx' w4 (seqS_nx' w5 (seqS_nx' w6 (retS_ok rfl rfl))))))
      exact mOf_rt rfl e0 w
    · refine ⟨some (a, b), ?_, fun _ => hF, fun z => absurd g z⟩
      have w6 := for_rng1 (show s0 < 1099511627776 by omega) (args1 l3) e1
      have w : b_same_up_to_shift [some (.sh (dS X)), some (.sh (dS Y)), none, none, none, none] = .rt (.sh (.tup [.int a, .int b])) ρ := by
        unfold b_same_up_to_shift
        exact seqS_nx' w1 (seqS_nx' w2 (seqS_nx' w3 (seqS_nx' w4 (seqS_nx' w5 (seqS_rt w6)))))
      exact mOf_rt rfl e0 w
  · refine ⟨none, ?_, fun z => absurd z g, fun _ => rfl⟩
    have hc : orT (tst (op2 dNe (opA dLen (aCons (var 2) aNil)) (opA dLen (aCons (var 3) aNil)))) (tst (op2 dNe (opA dLen (aCons (op2 dIx (var 2) (con (.int 0))) aNil)) (opA dLen (aCons (op2 dIx (var 3) (con (.int 0))) aNil)))) (eU X Y RX RY none none) = .ok true := by
      by_cases q : s0 = s
      · rw [decide_eq_true (by omega)] at c1
        rw [decide_eq_false (by omega)] at c2
        exact orT_f c1 c2
      · rw [decide_eq_false (by omega)] at c1
        exact orT_t c1
    have w5 : (ifS (orT (tst (op2 dNe (opA dLen (aCons (var 2) aNil)) (opA dLen (aCons (var 3) aNil)))) (tst (op2 dNe (opA dLen (aCons (op2 dIx (var 2) (con (.int 0))) aNil)) (opA dLen (aCons (op2 dIx (var 3) (con (.int 0))) aNil))))) (retS [] (con .non)) nxS) (eU X Y RX RY none none) = .rt (.sh .non) (eU X Y RX RY none none) := by
      rw [ifS_t hc]; exact retS_ok rfl rfl
    have w : b_same_up_to_shift [some (.sh (dS X)), some (.sh (dS Y)), none, none, none, none] = .rt (.sh .non) (eU X Y RX RY none none) := by
      unfold b_same_up_to_shift
      exact seqS_nx' w1 (seqS_nx' w2 (seqS_nx' w3 (seqS_nx' w4 (seqS_rt w5))))
    exact mOf_rt rfl e0 w
/-! ### the two shifts are one -/
theorem rot_get {α : Type} {xs : List α} {a i : Nat} (ha : a < xs.length) (hi : i < xs.length) : (rotN xs a)[i]? = xs[(i + a) % xs.length]? := by
  unfold rotN
  by_cases h : i < xs.length - a
  · rw [List.getElem?_append_left (by rw [List.length_drop]; exact h), List.getElem?_drop, Nat.mod_eq_of_lt (by omega), Nat.add_comm]
  · rw [List.getElem?_append_right (by rw [List.length_drop]; omega), List.length_drop, List.getElem?_take_of_lt (by omega)]
    congr 1
    rw [Nat.mod_eq_sub_mod (by omega), Nat.mod_eq_of_lt (by omega)]
    omega
theorem sh_eq {p e a b : Nat} {C : List (List Nat)} (hC : Cl p e C) (ha : a < p) : lshN C a b = shN C a b := by
  have hl := hC.len
  apply List.ext_getElem?
  intro i
  unfold lshN shN
  by_cases hi : i < p
  · rw [rot_get (by rw [List.length_map]; omega) (by rw [List.length_map]; omega), List.length_map, List.getElem?_map, List.getElem?_map, List.getElem?_range (by omega)]
    have hm : (i + a) % C.length < C.length := Nat.mod_lt _ (by omega)
    rw [List.getElem?_eq_getElem hm, Option.map_some, Option.map_some, List.getD_eq_getElem?_getD, List.getElem?_eq_getElem hm]; rfl
  · rw [List.getElem?_eq_none (by rw [List.length_map, List.length_range]; omega), List.getElem?_eq_none (by unfold rotN; rw [List.length_append, List.length_drop, List.length_take, List.length_map]; omega)]
end K02
set_option Elab.async false
set_option linter.all false
set_option maxRecDepth 100000
namespace K02
open PySem L2 DL DLC
theorem rot_zero {α : Type} (xs : List α) : rotN xs 0 = xs := by simp [rotN]
theorem sh_zero (C : List (List Nat)) : shN C 0 0 = C := by
  unfold shN
  rw [rot_zero]
  have : (fun r : List Nat => rotN r 0) = id := funext fun r => rot_zero r
  rw [this, List.map_id]
theorem fst_zero {C : List (List Nat)} {s t : Nat} (hs : 1 ≤ s) (ht : 1 ≤ t) {o : Option (Nat × Nat)} (h : Fst (fun a b => shN C a b = C) s t o) : o = some (0, 0) :=
  Fst.uniq h ⟨by omega, by omega, sh_zero C, fun _ z => absurd z (Nat.not_lt_zero _), fun _ z => absurd z (Nat.not_lt_zero _)⟩
/-- periods through a map that is one-to-one on the items -/
theorem per_map {α β : Type} (f : α → β) {xs : List α} {j : Nat} (hj : 1 ≤ j) (h2 : j ≤ xs.length) (inj : ∀ x ∈ xs, ∀ y ∈ xs, f x = f y → x = y) (h : Per (xs.map f) j) : Per xs j := by
  rw [per_iff hj (by rw [List.length_map]; exact h2), tile_iff hj (by rw [List.length_map]; exact h2), List.length_map] at h
  rw [per_iff hj h2, tile_iff hj h2]
  refine ⟨h.1, fun i hi => ?_⟩
  have q := h.2 i hi
  have hm : i % j < xs.length := Nat.lt_of_lt_of_le (Nat.mod_lt _ hj) h2
  rw [List.getElem?_map, List.getElem?_map, List.getElem?_eq_getElem hi, List.getElem?_eq_getElem hm, Option.map_some, Option.map_some] at q
  rw [List.getElem?_eq_getElem hi, List.getElem?_eq_getElem hm, inj _ (List.getElem_mem hi) _ (List.getElem_mem hm) (Option.some.inj q)]
theorem per_of_tile {xs : List Nat} {e j : Nat} (he : xs.length = e) (hj : 1 ≤ j) (h2 : j ≤ e) (hd : e / j * j = e) (h : xs = tile xs e j) : Per xs j := by
  subst he
  exact (per_iff hj h2).mpr ⟨hd, h⟩
theorem red_red {p e s t s' t' : Nat} {C : List (List Nat)} (hC : Cl p e C) (hs : IsLp C s) (ht : IsLp (colsN C e) t) (hs' : IsLp (redN C s t) s') (ht' : IsLp (colsN (redN C s t) t) t') : redN (redN C s t) s' t' = redN C s t := by
  have hl := hC.len
  have htl := ht.hi
  rw [cols_len] at htl
  have hsl := hs.hi
  have hR := Cl.red (s := s) (t := t) hC (by omega) htl
  have hq := (per_cols hC ht.lo htl).mp ht.per
  have hrow : ∀ r ∈ C, Per r t := fun r hr => per_of_tile (hC.row r hr) ht.lo htl hq.1 (hq.2 r hr)
  have hs1 : s' ≤ s := by have := hs'.hi; rw [hR.len] at this; exact this
  have ht1 : t' ≤ t := by have := ht'.hi; rw [cols_len] at this; exact this
  -- rows
  have es : s' = s := by
    have hp : Per (C.take s) s' := by
      refine per_map (fun r : List Nat => r.take t) hs'.lo (by rw [List.length_take]; omega) (fun x hx y hy hxy => ?_) hs'.per
      have hx' := List.mem_of_mem_take hx
      have hy' := List.mem_of_mem_take hy
      have e1 := hq.2 x hx'
      have e2 := hq.2 y hy'
      rw [e1, e2]
      unfold tile
      rw [show x.take t = y.take t from hxy]
    have := per_take hs.per hs.lo hs.hi hs'.lo hs1 hp
    rcases Nat.lt_or_ge s' s with z | z
    · exact absurd this (hs.min s' hs'.lo z)
    · omega
  -- columns
  have et : t' = t := by
    have q2 := (per_cols hR ht'.lo ht1).mp ht'.per
    have hrow2 : ∀ x ∈ C.take s, Per x t' := fun x hx => by
      have hx' := List.mem_of_mem_take hx
      have hm : x.take t ∈ redN C s t := List.mem_map.mpr ⟨x, hx, rfl⟩
      have hlx := hC.row x hx'
      have hpt : Per (x.take t) t' := per_of_tile (hR.row _ hm) ht'.lo ht1 q2.1 (q2.2 _ hm)
      exact per_take (hrow x hx') ht.lo (by omega) ht'.lo ht1 hpt
    have hall : ∀ r ∈ C, Per r t' := fun r hr => by
      obtain ⟨n, hn, en⟩ := List.getElem_of_mem hr
      have hp := hs.per
      rw [per_iff hs.lo hs.hi, tile_iff hs.lo hs.hi] at hp
      have q := hp.2 n hn
      have hm : n % s < s := Nat.mod_lt _ hs.lo
      rw [List.getElem?_eq_getElem hn, List.getElem?_eq_getElem (show n % s < C.length by omega)] at q
      have q := Option.some.inj q
      rw [en] at q
      rw [q]
      refine hrow2 _ ?_
      have : (C.take s)[n % s]'(by rw [List.length_take]; omega) = C[n % s]'(by omega) := List.getElem_take
      rw [← this]
      exact List.getElem_mem _
    have h0 : 0 < C.length := by have := hs.lo; omega
    have hr0 := List.getElem_mem h0
    have hl0 := hC.row _ hr0
    have hper : Per (colsN C e) t' := by
      refine (per_cols hC ht'.lo (by omega)).mpr ⟨?_, fun r hr => ?_⟩
      · have := (per_iff ht'.lo (by omega)).mp (hall _ hr0)
        rw [hl0] at this; exact this.1
      · have := (per_iff ht'.lo (by rw [hC.row r hr]; omega)).mp (hall r hr)
        rw [hC.row r hr] at this; exact this.2
    rcases Nat.lt_or_ge t' t with z | z
    · exact absurd hper (ht.min t' ht'.lo z)
    · omega
  rw [es, et]
  have h1 : (redN C s t).take s = redN C s t := List.take_of_length_le (by rw [hR.len]; exact Nat.le_refl _)
  have h2 : ∀ r ∈ redN C s t, r.take t = r := fun r hr => List.take_of_length_le (by rw [hR.row r hr]; exact Nat.le_refl _)
  conv => lhs; unfold redN
  rw [show (C.take s).map (fun r : List Nat => r.take t) = redN C s t from rfl, h1]
  exact (List.map_congr_left h2).trans (List.map_id _)
end K02
set_option Elab.async false
set_option linter.all false
set_option maxRecDepth 100000
namespace K02
open PySem L2 DL DLC
def eW (ns : List Int) (o1 o2 o3 o4 o5 o6 o7 o8 o9 o10 o11 : Option OD) : En := [some (.sh (.scr ns)), o1, o2, o3, o4, o5, o6, o7, o8, o9, o10, o11, none]
theorem cell_ok {ρ : En} {ns : List Int} (k : Nat) (h : var 0 ρ = .ok (.scr ns)) : erE (callE m__law_cell (aCons (var 0) (aCons (con (.int k)) aNil))) ρ = .ok (.int (ns.getD k 0)) := by
  have : callE m__law_cell (aCons (var 0) (aCons (con (.int k)) aNil)) ρ = .ok (.sh (.int (ns.getD k 0))) := by
    rw [call2 h (rfl : con (.int k) ρ = .ok (.int k))]; exact law_cell ns k
  exact erE_ok this
theorem lw_cloth {ρ : En} {ns : List Int} (k : Nat) (h : var 0 ρ = .ok (.scr ns)) : ∃ (p e : Nat) (C : List (List Nat)), callE m__law_cloth (aCons (opA dAbs (aCons (erE (callE m__law_cell (aCons (var 0) (aCons (con (.int k)) aNil)))) aNil)) (aCons (con (.int 5)) (aCons (con (.int 5)) aNil))) ρ = .ok (oS C) ∧ Cl p e C ∧ 1 ≤ p ∧ p ≤ 5 ∧ 1 ≤ e ∧ e ≤ 5 := by
  obtain ⟨p, e, C, h1, h2⟩ := law_cloth ((ns.getD k 0).natAbs) 5 5 (by decide) (by decide) (by decide) (by decide)
  refine ⟨p, e, C, ?_, h2⟩
  rw [call3 (opA_ok (cell_ok k h) (by rw [dAbs, abs_eq])) rfl rfl]
  exact h1
theorem dMod_i (x : Int) (m : Int) (h : 0 < m) : dMod (.int x) (.int m) = some (.int (x % m)) := by
  show (if decide (0 < m) = true then some (D.int (x % m)) else _) = _
  rw [if_pos (decide_eq_true h)]
theorem dDiv_i (x : Int) (m : Int) (h : 0 < m) (h2 : m < 2147483648) : dDiv (.int x) (.int m) = some (.int (x / m)) := by
  show (if divW m = true then some (D.int (x / m)) else _) = _
  rw [if_pos (divW_ok h h2)]
theorem cellI {ρ : En} {ns : List Int} (k : Nat) (h : var 0 ρ = .ok (.scr ns)) : opA dInt (aCons (erE (callE m__law_cell (aCons (var 0) (aCons (con (.int k)) aNil)))) aNil) ρ = .ok (.int (ns.getD k 0)) := opA_ok (cell_ok k h) rfl
theorem Cl.rep {p e u v : Nat} {C : List (List Nat)} (hC : Cl p e C) : Cl (p * u) (e * v) ((List.replicate u C).flatten.map fun r => (List.replicate v r).flatten) where
  len := by rw [List.length_map, flat_len, hC.len, Nat.mul_comm]
  row := fun r hr => by
    obtain ⟨x, hx, rfl⟩ := List.mem_map.mp hr
    obtain ⟨l, hl, hx⟩ := List.mem_flatten.mp hx
    rw [(List.mem_replicate.mp hl).2] at hx
    rw [flat_len, hC.row x hx, Nat.mul_comm]
  chr := fun r hr c hc => by
    obtain ⟨x, hx, rfl⟩ := List.mem_map.mp hr
    obtain ⟨l, hl, hx⟩ := List.mem_flatten.mp hx
    rw [(List.mem_replicate.mp hl).2] at hx
    obtain ⟨l2, hl2, hc⟩ := List.mem_flatten.mp hc
    rw [(List.mem_replicate.mp hl2).2] at hc
    exact hC.chr x hx c hc
theorem Cl.lsh {p e a b : Nat} {C : List (List Nat)} (hC : Cl p e C) (h1 : 1 ≤ p) (hb : b < e) : Cl p e (lshN C a b) where
  len := by unfold lshN; simp; exact hC.len
  row := fun r hr => by
    obtain ⟨k, _, rfl⟩ := List.mem_map.mp hr
    have hm : (k + a) % C.length < C.length := Nat.mod_lt _ (by rw [hC.len]; omega)
    have eg : C.getD ((k + a) % C.length) [] = C[(k + a) % C.length] := by simp [List.getD, List.getElem?_eq_getElem hm]
    have := hC.row _ (List.getElem_mem hm)
    rw [eg]; unfold rotN
    rw [List.length_append, List.length_drop, List.length_take]; omega
  chr := fun r hr c hc => by
    obtain ⟨k, _, rfl⟩ := List.mem_map.mp hr
    have hm : (k + a) % C.length < C.length := Nat.mod_lt _ (by rw [hC.len]; omega)
    have eg : C.getD ((k + a) % C.length) [] = C[(k + a) % C.length] := by simp [List.getD, List.getElem?_eq_getElem hm]
    rw [eg] at hc
    rcases List.mem_append.mp hc with hc | hc
    · exact hC.chr _ (List.getElem_mem hm) c (List.mem_of_mem_drop hc)
    · exact hC.chr _ (List.getElem_mem hm) c (List.mem_of_mem_take hc)
section
variable {ns : List Int} {A B : List (List Nat)} {p e p2 e2 : Nat} {w : Int}
theorem lw_v1 {o2 o3 o4 o5 o6 o7 o8 o9 o10 o11 : Option OD} : var 1 (eW ns (some (oS A)) o2 o3 o4 o5 o6 o7 o8 o9 o10 o11) = .ok (dS A) := by show R.ok (oS A).er = _; rw [oS_er]
theorem lw_v2 {o1 o3 o4 o5 o6 o7 o8 o9 o10 o11 : Option OD} : var 2 (eW ns o1 (some (oS B)) o3 o4 o5 o6 o7 o8 o9 o10 o11) = .ok (dS B) := by show R.ok (oS B).er = _; rw [oS_er]
theorem lw_w (o4 : Option OD) (m : Int) : tst (op2 dLt (var 3) (con (.int m))) (eW ns (some (oS A)) (some (oS B)) (some (.sh (.int w))) o4 none none none none none none none) = .ok (decide (w < m)) := tst_ok (op2_ok (a := .int w) (b := .int m) rfl rfl (dLt_int _ _))
/-- steps 4 and 5 -/
theorem lw_45 (hA : Cl p e A) (hB : Cl p2 e2 B) (h1 : 1 ≤ p) (h2 : p ≤ 5) (h3 : 1 ≤ e) (h4 : e ≤ 5) (g1 : 1 ≤ p2) (g2 : p2 ≤ 5) (g3 : 1 ≤ e2) (g4 : e2 ≤ 5) :
    ∃ (p3 e3 : Nat) (B' B2 : List (List Nat)), (ifS (tst (op2 dLt (var 3) (con (.int 3)))) (setF 2 ([1] ++ []) (opAF fList (aCons (var 1) aNil))) nxS) (eW ns (some (oS A)) (some (oS B)) (some (.sh (.int w))) none none none none none none none none) = .nx (eW ns (some (oS A)) (some (oS B2)) (some (.sh (.int w))) none none none none none none none none) ∧
      (ifS (tst (op2 dLt (var 3) (con (.int 3)))) (setF 2 [] (lcE ([1] ++ ([] ++ [])) [12] (bName 12) (itE (op2 dMul (var 1) (op2 dAdd (con (.int 1)) (op2 dMod (op2 dDiv (opA dInt (aCons (erE (callE m__law_cell (aCons (var 0) (aCons (con (.int 3)) aNil)))) aNil)) (con (.int 2))) (con (.int 2)))))) tYesD (op2 dMul (var 12) (op2 dAdd (con (.int 1)) (op2 dMod (opA dInt (aCons (erE (callE m__law_cell (aCons (var 0) (aCons (con (.int 3)) aNil)))) aNil)) (con (.int 2))))))) nxS) (eW ns (some (oS A)) (some (oS B2)) (some (.sh (.int w))) none none none none none none none none) = .nx (eW ns (some (oS A)) (some (oS B')) (some (.sh (.int w))) none none none none none none none none) ∧
      Cl p3 e3 B' ∧ 1 ≤ p3 ∧ p3 ≤ 10 ∧ 1 ≤ e3 ∧ e3 ≤ 10 := by
  by_cases hw : w < 3
  · obtain ⟨u, hu⟩ : ∃ u : Nat, (u : Int) = 1 + ns.getD 3 0 / 2 % 2 := ⟨(1 + ns.getD 3 0 / 2 % 2).toNat, by omega⟩
    obtain ⟨v, hv⟩ : ∃ v : Nat, (v : Int) = 1 + ns.getD 3 0 % 2 := ⟨(1 + ns.getD 3 0 % 2).toNat, by omega⟩
    have u1 : 1 ≤ u ∧ u ≤ 2 := by omega
    have v1 : 1 ≤ v ∧ v ≤ 2 := by omega
    refine ⟨p * u, e * v, (List.replicate u A).flatten.map fun r => (List.replicate v r).flatten, A, ?_, ?_, Cl.rep hA, Nat.mul_pos h1 u1.1, Nat.mul_le_mul h2 u1.2, Nat.mul_pos h3 v1.1, Nat.mul_le_mul h4 v1.2⟩
    · rw [ifS_t (by rw [lw_w, decide_eq_true hw]), setF_ok (opAF_ok lw_v1 (show fList [dS A] = some (lstF (A.map D.str)) from rfl)) (fl_strs _), oS_lstF]; rfl
    · have q1 : op2 dAdd (con (.int 1)) (op2 dMod (op2 dDiv (opA dInt (aCons (erE (callE m__law_cell (aCons (var 0) (aCons (con (.int 3)) aNil)))) aNil)) (con (.int 2))) (con (.int 2))) (eW ns (some (oS A)) (some (oS A)) (some (.sh (.int w))) none none none none none none none none) = .ok (.int u) :=
        op2_ok (a := .int 1) rfl (op2_ok (op2_ok (cellI 3 rfl) rfl (dDiv_i _ 2 (by decide) (by decide))) rfl (dMod_i _ 2 (by decide))) (by rw [dAdd_int, hu])
      have q2 := op2_ok lw_v1 q1 (dMul_dS (A := A) (k := u) (by rw [hA.len]; have : p * u ≤ 5 * 2 := Nat.mul_le_mul h2 u1.2; omega) (by omega))
      have q3 : itE (op2 dMul (var 1) (op2 dAdd (con (.int 1)) (op2 dMod (op2 dDiv (opA dInt (aCons (erE (callE m__law_cell (aCons (var 0) (aCons (con (.int 3)) aNil)))) aNil)) (con (.int 2))) (con (.int 2))))) (eW ns (some (oS A)) (some (oS A)) (some (.sh (.int w))) none none none none none none none none) = .ok ((List.replicate u A).flatten.map D.str) := by
        unfold itE; rw [q2, R.bind_ok]; rfl
      have q4 := lcE_map (List.replicate u A).flatten D.str (fun r => D.str (List.replicate v r).flatten) (Ee := ([1] ++ ([] ++ []))) (vs := [12]) (bnd := bName 12) (f := op2 dMul (var 12) (op2 dAdd (con (.int 1)) (op2 dMod (opA dInt (aCons (erE (callE m__law_cell (aCons (var 0) (aCons (con (.int 3)) aNil)))) aNil)) (con (.int 2))))) q3 (by rw [flat_strs]; rfl) (by rw [flat_len, hA.len]; have : u * p ≤ 2 * 5 := Nat.mul_le_mul u1.2 h2; omega) fun r hr => by
        rw [bName, bk_some]
        obtain ⟨l, hl, hr⟩ := List.mem_flatten.mp hr
        rw [(List.mem_replicate.mp hl).2] at hr
        have hrl := hA.row r hr
        refine op2_ok (a := .str r) rfl (op2_ok (a := .int 1) rfl (op2_ok (cellI 3 rfl) rfl (dMod_i _ 2 (by decide))) (by rw [dAdd_int, ← hv])) (dMul_st (by rw [hrl]; have : e * v ≤ 5 * 2 := Nat.mul_le_mul h4 v1.2; omega) (by omega))
      have e1 : (List.replicate u A).flatten.map (fun r => D.str (List.replicate v r).flatten) = ((List.replicate u A).flatten.map fun r => (List.replicate v r).flatten).map D.str := by rw [List.map_map]; rfl
      rw [e1] at q4
      rw [ifS_t (by rw [lw_w, decide_eq_true hw]), setF_ok q4 (fl_strs _), oS_lstF]; rfl
  · refine ⟨p2, e2, B, B, ?_, ?_, hB, g1, by omega, g3, by omega⟩
    · rw [ifS_f (by rw [lw_w, decide_eq_false hw])]; rfl
    · rw [ifS_f (by rw [lw_w, decide_eq_false hw])]; rfl
end
end K02
set_option Elab.async false
set_option linter.all false
set_option maxRecDepth 100000
namespace K02
open PySem L2 DL DLC
theorem Cl.setRow {p e n : Nat} {C : List (List Nat)} {r : List Nat} (hC : Cl p e C) (h1 : r.length = e) (h2 : ∀ c ∈ r, c = 35 ∨ c = 46) : Cl p e (C.set n r) where
  len := by rw [List.length_set]; exact hC.len
  row := fun s hs => by
    rcases List.mem_or_eq_of_mem_set hs with h | h
    · exact hC.row s h
    · rw [h]; exact h1
  chr := fun s hs => by
    rcases List.mem_or_eq_of_mem_set hs with h | h
    · exact hC.chr s h
    · rw [h]; exact h2
theorem ixN_nat {n j : Nat} (h : j < n) : L2.ixN n (j : Int) = some j := by
  unfold L2.ixN
  rw [if_pos (by omega), if_pos (by omega), Int.toNat_natCast]
section
variable {ns : List Int} {A B : List (List Nat)} {p e : Nat} {w : Int}
theorem lw_6 (hB : Cl p e B) (h1 : 1 ≤ p) (h2 : p ≤ 10) (h3 : 1 ≤ e) (h4 : e ≤ 10) :
    ∃ B', (ifS (tst (op2 dIn (var 3) (erE (lstE (aCons (con (.int 1)) (aCons (con (.int 2)) aNil)))))) (setF 2 ([2] ++ ([] ++ ([] ++ []))) (callE m__law_shift (aCons (var 2) (aCons (op2 dMod (opA dInt (aCons (erE (callE m__law_cell (aCons (var 0) (aCons (con (.int 4)) aNil)))) aNil)) (con (.int 7))) (aCons (op2 dMod (op2 dDiv (opA dInt (aCons (erE (callE m__law_cell (aCons (var 0) (aCons (con (.int 4)) aNil)))) aNil)) (con (.int 7))) (con (.int 7))) aNil))))) nxS) (eW ns (some (oS A)) (some (oS B)) (some (.sh (.int w))) none none none none none none none none) = .nx (eW ns (some (oS A)) (some (oS B')) (some (.sh (.int w))) none none none none none none none none) ∧ Cl p e B' := by
  have q0 : lstE (aCons (con (.int 1)) (aCons (con (.int 2)) aNil)) (eW ns (some (oS A)) (some (oS B)) (some (.sh (.int w))) none none none none none none none none) = .ok (lstF [.int 1, .int 2]) := by
    unfold lstE
    rw [args2 (a := .int 1) (b := .int 2) rfl rfl, R.bind_ok]; rfl
  have q1 := erE_ok q0
  rw [lstF_er] at q1
  obtain ⟨bb, hb⟩ : ∃ bb : Bool, tst (op2 dIn (var 3) (erE (lstE (aCons (con (.int 1)) (aCons (con (.int 2)) aNil))))) (eW ns (some (oS A)) (some (oS B)) (some (.sh (.int w))) none none none none none none none none) = .ok bb :=
    ⟨_, tst_ok (op2_ok (a := .int w) rfl q1 (by rw [dIn_lst, if_pos (by simp)]))⟩
  cases bb with
  | false => exact ⟨B, by rw [ifS_f hb]; rfl, hB⟩
  | true =>
    obtain ⟨a, ha⟩ : ∃ a : Nat, (a : Int) = ns.getD 4 0 % 7 := ⟨(ns.getD 4 0 % 7).toNat, by omega⟩
    obtain ⟨b, hb'⟩ : ∃ b : Nat, (b : Int) = ns.getD 4 0 / 7 % 7 := ⟨(ns.getD 4 0 / 7 % 7).toNat, by omega⟩
    have q : callE m__law_shift (aCons (var 2) (aCons (op2 dMod (opA dInt (aCons (erE (callE m__law_cell (aCons (var 0) (aCons (con (.int 4)) aNil)))) aNil)) (con (.int 7))) (aCons (op2 dMod (op2 dDiv (opA dInt (aCons (erE (callE m__law_cell (aCons (var 0) (aCons (con (.int 4)) aNil)))) aNil)) (con (.int 7))) (con (.int 7))) aNil))) (eW ns (some (oS A)) (some (oS B)) (some (.sh (.int w))) none none none none none none none none) = .ok (oS (lshN B a (b % e))) := by
      have c4 : opA dInt (aCons (erE (callE m__law_cell (aCons (var 0) (aCons (con (.int 4)) aNil)))) aNil) (eW ns (some (oS A)) (some (oS B)) (some (.sh (.int w))) none none none none none none none none) = .ok (.int (ns.getD 4 0)) := cellI 4 rfl
      rw [call3 (a := dS B) (b := .int a) (c := .int b) lw_v2 (op2_ok c4 rfl (by rw [dMod_i _ 7 (by decide), ha])) (op2_ok (op2_ok c4 rfl (dDiv_i _ 7 (by decide) (by decide))) rfl (by rw [dMod_i _ 7 (by decide), hb']))]
      exact lshift_ok hB h1 (by omega) h3 (by omega)
    exact ⟨lshN B a (b % e), by rw [ifS_t hb, setF_ok q (fl_oS _)]; rfl, Cl.lsh hB h1 (Nat.mod_lt _ h3)⟩
theorem lw_7 (hB : Cl p e B) (h1 : 1 ≤ p) (h2 : p ≤ 10) (h3 : 1 ≤ e) (h4 : e ≤ 10) :
    ∃ B' o4, (ifS (tst (op2 dEq (var 3) (con (.int 2)))) (seqS (setS 4 [] (op2 dMod (opA dInt (aCons (erE (callE m__law_cell (aCons (var 0) (aCons (con (.int 5)) aNil)))) aNil)) (opA dLen (aCons (var 2) aNil))))
    (subS 2 ((([2] ++ [4]) ++ []) ++ ([2] ++ [4])) (op2 dAdd (erE (callE m__law_turn_over (aCons (sliceE (op2 dIx (var 2) (var 4)) pN (pI (con (.int 1)))) aNil))) (sliceE (op2 dIx (var 2) (var 4)) (pI (con (.int 1))) pN)) (var 4))) nxS) (eW ns (some (oS A)) (some (oS B)) (some (.sh (.int w))) none none none none none none none none) = .nx (eW ns (some (oS A)) (some (oS B')) (some (.sh (.int w))) o4 none none none none none none none) ∧ Cl p e B' := by
  have hb : tst (op2 dEq (var 3) (con (.int 2))) (eW ns (some (oS A)) (some (oS B)) (some (.sh (.int w))) none none none none none none none none) = .ok (decide (w = 2)) := tst_ok (op2_ok (a := .int w) (b := .int 2) rfl rfl (dEq_int _ _))
  by_cases hw : w = 2
  · rw [decide_eq_true hw] at hb
    have hl := hB.len
    obtain ⟨j, hj⟩ : ∃ j : Nat, (j : Int) = ns.getD 5 0 % (p : Int) := ⟨(ns.getD 5 0 % (p : Int)).toNat, by have := Int.emod_nonneg (ns.getD 5 0) (show (p : Int) ≠ 0 by omega); omega⟩
    have hjp : j < p := by have := Int.emod_lt_of_pos (ns.getD 5 0) (show (0 : Int) < p by omega); omega
    have hjl : j < B.length := by omega
    have hr := hB.row _ (List.getElem_mem hjl)
    have hc := hB.chr _ (List.getElem_mem hjl)
    have w1 : setS 4 [] (op2 dMod (opA dInt (aCons (erE (callE m__law_cell (aCons (var 0) (aCons (con (.int 5)) aNil)))) aNil)) (opA dLen (aCons (var 2) aNil))) (eW ns (some (oS A)) (some (oS B)) (some (.sh (.int w))) none none none none none none none none) = .nx (eW ns (some (oS A)) (some (oS B)) (some (.sh (.int w))) (some (.sh (.int j))) none none none none none none none) := by
      have c5 : opA dInt (aCons (erE (callE m__law_cell (aCons (var 0) (aCons (con (.int 5)) aNil)))) aNil) (eW ns (some (oS A)) (some (oS B)) (some (.sh (.int w))) none none none none none none none none) = .ok (.int (ns.getD 5 0)) := cellI 5 rfl
      rw [setS_ok (op2_ok c5 (opA_ok lw_v2 (dLen_lst' _ p (by rw [List.length_map]; exact hl))) (by rw [dMod_i _ (p : Int) (by omega), ← hj])) rfl]; rfl
    have x : op2 dIx (var 2) (var 4) (eW ns (some (oS A)) (some (oS B)) (some (.sh (.int w))) (some (.sh (.int j))) none none none none none none none) = .ok (.str B[j]) := op2_ok (b := .int j) lw_v2 rfl (get_dS hjl)
    have s1 := ss_to (g := con (.int 1)) (k := 1) x (by omega) rfl (by omega) (by omega)
    have s2 := ss_from (g := con (.int 1)) (k := 1) x (by omega) rfl (by omega) (by omega)
    have t1 : callE m__law_turn_over (aCons (sliceE (op2 dIx (var 2) (var 4)) pN (pI (con (.int 1)))) aNil) (eW ns (some (oS A)) (some (oS B)) (some (.sh (.int w))) (some (.sh (.int j))) none none none none none none none) = .ok (.sh (.str ((B[j].take 1).map fun c => chB (c == 46)))) := by
      rw [call1 s1]; exact turn_ok _ (by rw [List.length_take]; omega)
    have t2 := op2_ok (erE_ok t1) s2 (dAdd_str' (by rw [List.length_map, List.length_take, List.length_drop]; omega))
    generalize hN : ((B[j].take 1).map fun c => chB (c == 46)) ++ B[j].drop (1 : Int).toNat = nr at t2
    have hnl : nr.length = e := by rw [← hN]; simp; omega
    have hnc : ∀ c ∈ nr, c = 35 ∨ c = 46 := fun c hc' => by
      rw [← hN] at hc'
      rcases List.mem_append.mp hc' with z | z
      · obtain ⟨y, _, rfl⟩ := List.mem_map.mp z; exact chB_or _
      · exact hc c (List.mem_of_mem_drop z)
    refine ⟨B.set j nr, some (.sh (.int j)), ?_, Cl.setRow hB hnl hnc⟩
    have w2 : subS 2 ((([2] ++ [4]) ++ []) ++ ([2] ++ [4])) (op2 dAdd (erE (callE m__law_turn_over (aCons (sliceE (op2 dIx (var 2) (var 4)) pN (pI (con (.int 1)))) aNil))) (sliceE (op2 dIx (var 2) (var 4)) (pI (con (.int 1))) pN)) (var 4) (eW ns (some (oS A)) (some (oS B)) (some (.sh (.int w))) (some (.sh (.int j))) none none none none none none none) = .nx (eW ns (some (oS A)) (some (oS (B.set j nr))) (some (.sh (.int w))) (some (.sh (.int j))) none none none none none none none) := by
      unfold subS
      rw [show (op2 dAdd (erE (callE m__law_turn_over (aCons (sliceE (op2 dIx (var 2) (var 4)) pN (pI (con (.int 1)))) aNil))) (sliceE (op2 dIx (var 2) (var 4)) (pI (con (.int 1))) pN)) _ = .ok (.str nr) from t2, R.out_ok, show ownL 2 (eW ns (some (oS A)) (some (oS B)) (some (.sh (.int w))) (some (.sh (.int j))) none none none none none none none) = some (B.map fun r => .sh (.str r)) from rfl]
      simp only
      rw [show var 4 (eW ns (some (oS A)) (some (oS B)) (some (.sh (.int w))) (some (.sh (.int j))) none none none none none none none) = .ok (.int j) from rfl, R.out_ok]
      simp only
      rw [List.length_map, ixN_nat hjl]
      simp only
      rw [if_pos (by unfold keeps; rfl), frzIf_flat rfl]
      unfold oS
      rw [List.map_set]; rfl
    rw [ifS_t hb, seqS_nx w1, w2]
  · rw [decide_eq_false hw] at hb
    exact ⟨B, none, by rw [ifS_f hb]; rfl, hB⟩
end
end K02
set_option Elab.async false
set_option linter.all false
set_option maxRecDepth 100000
namespace K02
open PySem L2 DL DLC
theorem both_ok {p e : Nat} {C : List (List Nat)} (hC : Cl p e C) (h1 : 1 ≤ p) (hp : p ≤ 60) (h3 : 1 ≤ e) (he : e ≤ 60) : ∃ s t : Nat, m__law_repeat [dS C] = .ok (oS (redN C s t)) ∧ m_repeat_of [dS C] = .ok (oS (redN C s t)) ∧ IsLp C s ∧ IsLp (colsN C e) t := by
  obtain ⟨s, t, r1, hs, ht⟩ := repeat_ok hC h1 hp h3 he
  obtain ⟨s', t', r2, hs', ht'⟩ := lrep_ok hC h1 hp h3 he
  rw [← hC.len] at hs'
  have e1 := lst_lp hs hs'
  have e2 := lst_cols hC ht ht'
  subst e1 e2
  exact ⟨s, t, r2, r1, hs, ht⟩
/-- what the law has found ahead of (a, b) -/
def Bf (Q : Nat → Nat → Prop) (t a b : Nat) : Option (Nat × Nat) → Prop
  | none => (∀ a', a' < a → ∀ b', b' < t → ¬ Q a' b') ∧ ∀ b', b' < b → ¬ Q a b'
  | some (x, y) => y < t ∧ (x < a ∨ (x = a ∧ y < b)) ∧ Q x y ∧ (∀ a', a' < x → ∀ b', b' < t → ¬ Q a' b') ∧ ∀ b', b' < y → ¬ Q x b'
theorem Bf.row {Q : Nat → Nat → Prop} {t a : Nat} : ∀ {o : Option (Nat × Nat)}, Bf Q t a t o → Bf Q t (a + 1) 0 o
  | none, h => ⟨fun a' ha b' hb => by
      by_cases z : a' = a
      · rw [z]; exact h.2 b' hb
      · exact h.1 a' (by omega) b' hb, fun _ z => absurd z (Nat.not_lt_zero _)⟩
  | some (x, y), h => ⟨h.1, .inl (by have := h.2.1; omega), h.2.2⟩
theorem Bf.fst {Q : Nat → Nat → Prop} {s t : Nat} : ∀ {o : Option (Nat × Nat)}, Bf Q t s 0 o → Fst Q s t o
  | none, h => h.1
  | some (x, y), h => ⟨by have := h.2.1; omega, h.1, h.2.2⟩
def eZ (ns : List Int) (A B RA RB : List (List Nat)) (o3 o4 o7 : Option OD) (o : Option (Nat × Nat)) (o9 o10 : Option OD) : En := eW ns (some (oS A)) (some (oS B)) o3 o4 (some (oS RA)) (some (oS RB)) o7 (some (.sh (dO o))) o9 o10 none
section
variable {ns : List Int} {A B RA RB : List (List Nat)} {s t a b : Nat} {o3 o4 o7 : Option OD} {o : Option (Nat × Nat)} {o9 o10 : Option OD}
theorem z_v5 : var 5 (eZ ns A B RA RB o3 o4 o7 o o9 o10) = .ok (dS RA) := by show R.ok (oS RA).er = _; rw [oS_er]
theorem z_v6 : var 6 (eZ ns A B RA RB o3 o4 o7 o o9 o10) = .ok (dS RB) := by show R.ok (oS RB).er = _; rw [oS_er]
theorem z_is : tst (op2 dIs (var 8) (con .non)) (eZ ns A B RA RB o3 o4 o7 o o9 o10) = .ok o.isNone := by
  refine tst_ok (op2_ok (a := dO o) (b := .non) rfl rfl ?_)
  cases o with
  | none => rfl
  | some q => rfl
theorem z_sh (hB : Cl s t RB) (h1 : 1 ≤ s) (hp : s ≤ 60) (h3 : 1 ≤ t) (he : t ≤ 60) (ha : a < s) (hb : b < t) : tst (op2 dEq (erE (callE m__law_shift (aCons (var 6) (aCons (var 9) (aCons (var 10) aNil))))) (var 5)) (eZ ns A B RA RB o3 o4 o7 o (some (.sh (.int a))) (some (.sh (.int b)))) = .ok (decide (shN RB a b = RA)) := by
  have q : callE m__law_shift (aCons (var 6) (aCons (var 9) (aCons (var 10) aNil))) (eZ ns A B RA RB o3 o4 o7 o (some (.sh (.int a))) (some (.sh (.int b)))) = .ok (oS (lshN RB a (b % t))) := by
    rw [call3 (a := dS RB) (b := .int a) (c := .int b) z_v6 rfl rfl]; exact lshift_ok hB h1 hp h3 he
  rw [Nat.mod_eq_of_lt hb, sh_eq hB ha] at q
  have q2 := erE_ok q
  rw [oS_er] at q2
  exact tst_ok (op2_ok q2 z_v5 (dEq_dS _ _))
theorem z_set : setS 8 ([9] ++ ([10] ++ [])) (tupE (aCons (var 9) (aCons (var 10) aNil))) (eZ ns A B RA RB o3 o4 o7 o (some (.sh (.int a))) (some (.sh (.int b)))) = .nx (eZ ns A B RA RB o3 o4 o7 (some (a, b)) (some (.sh (.int a))) (some (.sh (.int b)))) := by
  have q : tupE (aCons (var 9) (aCons (var 10) aNil)) (eZ ns A B RA RB o3 o4 o7 o (some (.sh (.int a))) (some (.sh (.int b)))) = .ok (.tup [.int a, .int b]) := by
    unfold tupE
    rw [args2 (a := .int a) (b := .int b) rfl rfl, R.bind_ok]; rfl
  unfold setS
  rw [q, R.out_ok]
  rfl
theorem z_inner (hB : Cl s t RB) (h1 : 1 ≤ s) (hp : s ≤ 60) (h3 : 1 ≤ t) (he : t ≤ 60) (ha : a < s) (h : Bf (fun a b => shN RB a b = RA) t a 0 o) :
    ∃ o', loopS [10] (bName 10) l1_law (rngL 0 t) (eZ ns A B RA RB o3 o4 o7 o (some (.sh (.int a))) none) = .nx (eZ ns A B RA RB o3 o4 o7 o' (some (.sh (.int a))) none) ∧ Bf (fun a b => shN RB a b = RA) t a t o' := by
  obtain ⟨ρ', e1, o', rfl, hb⟩ := loop_inv (fg := [10]) (bnd := bName 10) (body := l1_law) (rngL 0 t) (fun k ρ => ∃ o, ρ = eZ ns A B RA RB o3 o4 o7 o (some (.sh (.int a))) none ∧ Bf (fun a b => shN RB a b = RA) t a k o) (eZ ns A B RA RB o3 o4 o7 o (some (.sh (.int a))) none) ⟨o, rfl, h⟩ (fun k d ρ hd hρ => by
    obtain ⟨o, rfl, h⟩ := hρ
    obtain ⟨hk, rfl⟩ := rngL_get hd
    rw [Int.zero_add, show bName 10 (.int (k : Int)) (eZ ns A B RA RB o3 o4 o7 o (some (.sh (.int a))) none) = some (eZ ns A B RA RB o3 o4 o7 o (some (.sh (.int a))) (some (.sh (.int k)))) from rfl, bk_some]
    unfold l1_law
    have hs := z_sh (ns := ns) (A := A) (B := B) (RA := RA) (o3 := o3) (o4 := o4) (o7 := o7) (o := o) hB h1 hp h3 he ha hk
    cases o with
    | some q =>
      obtain ⟨x, y⟩ := q
      rw [ifS_f (andT_f z_is), nxS, lk_nx]
      exact ⟨some (x, y), rfl, h.1, by have := h.2.1; omega, h.2.2⟩
    | none =>
      by_cases g : shN RB a k = RA
      · rw [ifS_t (andT_t z_is (by rw [hs, decide_eq_true g])), z_set, lk_nx]
        exact ⟨some (a, k), rfl, hk, .inr ⟨rfl, by omega⟩, g, h.1, h.2⟩
      · rw [ifS_f (andT_t z_is (by rw [hs, decide_eq_false g])), nxS, lk_nx]
        refine ⟨none, rfl, h.1, fun b hb => ?_⟩
        by_cases z : b = k
        · rw [z]; exact g
        · exact h.2 b (by omega))
  rw [rngL_len] at hb
  exact ⟨o', e1, hb⟩
theorem z_len0 (hB : Cl s t RB) (h1 : 1 ≤ s) (he : t ≤ 60) : opA dLen (aCons (op2 dIx (var 6) (con (.int 0))) aNil) (eZ ns A B RA RB o3 o4 o7 o o9 o10) = .ok (.int t) := by
  have h0 : 0 < RB.length := by rw [hB.len]; omega
  have g0 := get_dS h0
  rw [Int.natCast_zero] at g0
  exact opA_ok (op2_ok z_v6 rfl g0) (dLen_str' _ _ (hB.row _ (List.getElem_mem h0)) (by omega))
theorem z_outer (hB : Cl s t RB) (h1 : 1 ≤ s) (hp : s ≤ 60) (h3 : 1 ≤ t) (he : t ≤ 60) :
    ∃ o', loopS [9, 10] (bName 9) l2_law (rngL 0 s) (eZ ns A B RA RB o3 o4 o7 none none none) = .nx (eZ ns A B RA RB o3 o4 o7 o' none none) ∧ Fst (fun a b => shN RB a b = RA) s t o' := by
  obtain ⟨ρ', e1, o', rfl, hb⟩ := loop_inv (fg := [9, 10]) (bnd := bName 9) (body := l2_law) (rngL 0 s) (fun k ρ => ∃ o, ρ = eZ ns A B RA RB o3 o4 o7 o none none ∧ Bf (fun a b => shN RB a b = RA) t k 0 o) (eZ ns A B RA RB o3 o4 o7 none none none) ⟨none, rfl, fun _ z => absurd z (Nat.not_lt_zero _), fun _ z => absurd z (Nat.not_lt_zero _)⟩ (fun k d ρ hd hρ => by
    obtain ⟨o, rfl, h⟩ := hρ
    obtain ⟨hk, rfl⟩ := rngL_get hd
    rw [Int.zero_add, show bName 9 (.int (k : Int)) (eZ ns A B RA RB o3 o4 o7 o none none) = some (eZ ns A B RA RB o3 o4 o7 o (some (.sh (.int k))) none) from rfl, bk_some]
    unfold l2_law
    obtain ⟨o', e1, hb⟩ := z_inner (ns := ns) (A := A) (B := B) (RA := RA) (o3 := o3) (o4 := o4) (o7 := o7) hB h1 hp h3 he hk h
    rw [for_rng1 (show t < 1099511627776 by omega) (args1 (z_len0 hB h1 he)) e1, lk_nx]
    exact ⟨o', rfl, hb.row⟩)
  rw [rngL_len] at hb
  exact ⟨o', e1, hb.fst⟩
end
end K02
set_option Elab.async false
set_option linter.all false
set_option maxRecDepth 100000
namespace K02
open PySem L2 DL DLC
theorem dNe_bl (x : Bool) : dNe (.bl x) (.bl x) = some (.bl false) := by
  unfold dNe
  rw [D.dt_bl, Bool.and_self, if_pos rfl, eqv_bl]
  simp
theorem dNe_dO (o : Option (Nat × Nat)) : dNe (dO o) (dO o) = some (.bl false) := by
  unfold dNe
  cases o with
  | none => rfl
  | some q =>
    obtain ⟨a, b⟩ := q
    unfold dO
    have h : (D.tup [.int a, .int b]).dt 20 = true := by rw [show (20 : Nat) = 19 + 1 from rfl, D.dt_tup]; simp
    rw [h, Bool.and_self, if_pos rfl, eqv_tup]
    simp
theorem dEq_00 : dEq (dO (some (0, 0))) (.tup [.int 0, .int 0]) = some (.bl true) := by
  have e : dO (some (0, 0)) = .tup [.int 0, .int 0] := rfl
  have h : (D.tup [.int 0, .int 0]).dt 20 = true := by rw [show (20 : Nat) = 19 + 1 from rfl, D.dt_tup]; simp
  rw [e]
  unfold dEq
  rw [h, Bool.and_self, if_pos rfl, eqv_tup]
  simp
section
variable {ns : List Int} {A B : List (List Nat)} {p e p2 e2 : Nat} {w : Int} {o4 : Option OD}
theorem law_end (hA : Cl p e A) (hB : Cl p2 e2 B) (h1 : 1 ≤ p) (h2 : p ≤ 10) (h3 : 1 ≤ e) (h4 : e ≤ 10) (g1 : 1 ≤ p2) (g2 : p2 ≤ 10) (g3 : 1 ≤ e2) (g4 : e2 ≤ 10) :
    ∃ ρ, (seqS (setF 5 ([1] ++ []) (callE m__law_repeat (aCons (var 1) aNil)))
    (seqS (setF 6 ([2] ++ []) (callE m__law_repeat (aCons (var 2) aNil)))
    (seqS (ifS (orT (tst (op2 dNe (erE (callE m_repeat_of (aCons (erE (opAF fList (aCons (var 1) aNil))) aNil))) (var 5))) (tst (op2 dNe (erE (callE m_repeat_of (aCons (var 2) aNil))) (var 6)))) (retS [] (con (.bl false))) nxS)
    (seqS (setF 7 ([1] ++ ([2] ++ [])) (callE m_same_endless (aCons (var 1) (aCons (var 2) aNil))))
    (seqS (ifS (orT (notT (tst (op1 (isD .bool) (var 7)))) (tst (op2 dNe (var 7) (op2 dEq (var 5) (var 6))))) (retS [] (con (.bl false))) nxS)
    (seqS (setS 8 [] (con .non))
    (seqS (ifS (andT (tst (op2 dEq (opA dLen (aCons (var 5) aNil)) (opA dLen (aCons (var 6) aNil)))) (tst (op2 dEq (opA dLen (aCons (op2 dIx (var 5) (con (.int 0))) aNil)) (opA dLen (aCons (op2 dIx (var 6) (con (.int 0))) aNil))))) (forS [] [9, 10] (bName 9) (rgE rgF1 (aCons (opA dLen (aCons (var 6) aNil)) aNil)) l2_law) nxS)
    (seqS (setF 11 ([1] ++ ([2] ++ [])) (callE m_same_up_to_shift (aCons (var 1) (aCons (var 2) aNil))))
    (seqS (ifS (tst (op2 dNe (var 11) (var 8))) (retS [] (con (.bl false))) nxS)
    (retS [] (andV (op2 dEq (erE (callE m_same_up_to_shift (aCons (var 1) (aCons (var 1) aNil)))) (tupE (aCons (con (.int 0)) (aCons (con (.int 0)) aNil)))) (op2 dIs (erE (callE m_same_endless (aCons (var 2) (aCons (var 6) aNil)))) (con (.bl true)))))))))))))) (eW ns (some (oS A)) (some (oS B)) (some (.sh (.int w))) o4 none none none none none none none) = .rt (.sh (.bl true)) ρ := by
  obtain ⟨s, t, lA, rA, sA, tA⟩ := both_ok hA h1 (by omega) h3 (by omega)
  obtain ⟨s2, t2, lB, rB, sB, tB⟩ := both_ok hB g1 (by omega) g3 (by omega)
  have ps := sA.hi
  have ps2 := sB.hi
  have pt := tA.hi
  have pt2 := tB.hi
  rw [hA.len] at ps
  rw [hB.len] at ps2
  rw [cols_len] at pt pt2
  have cA := Cl.red (s := s) (t := t) hA ps pt
  have cB := Cl.red (s := s2) (t := t2) hB ps2 pt2
  have a1 := sA.lo
  have a3 := tA.lo
  have b1 := sB.lo
  have b3 := tB.lo
  obtain ⟨s3, t3, _, rR, sR, tR⟩ := both_ok cB b1 (by omega) b3 (by omega)
  have rR := rR
  rw [red_red hB sB tB sR tR] at rR
  obtain ⟨o, uo, uF, uN⟩ := upto_ok hA hB h1 (by omega) h3 (by omega) g1 (by omega) g3 (by omega) rA rB cA cB a1 (by omega) a3 (by omega) b1 (by omega) b3 (by omega)
  obtain ⟨o0, uo0, uF0, _⟩ := upto_ok hA hA h1 (by omega) h3 (by omega) h1 (by omega) h3 (by omega) rA rA cA cA a1 (by omega) a3 (by omega) a1 (by omega) a3 (by omega)
  have e00 := fst_zero a1 a3 (uF0 ⟨rfl, rfl⟩)
  subst e00
  have en := endless_ok hA hB h1 (by omega) h3 (by omega) g1 (by omega) g3 (by omega) rA rB
  have en2 := endless_ok hB cB g1 (by omega) g3 (by omega) b1 (by omega) b3 (by omega) rB rR
  rw [decide_eq_true rfl] at en2
  generalize redN A s t = RA at *
  generalize redN B s2 t2 = RB at *
  have w8 : setF 5 ([1] ++ []) (callE m__law_repeat (aCons (var 1) aNil)) (eW ns (some (oS A)) (some (oS B)) (some (.sh (.int w))) o4 none none none none none none none) = .nx (eW ns (some (oS A)) (some (oS B)) (some (.sh (.int w))) o4 (some (oS RA)) none none none none none none) := by
    rw [setF_ok ((call1 lw_v1).trans lA) (fl_oS _)]; rfl
  have w9 : setF 6 ([2] ++ []) (callE m__law_repeat (aCons (var 2) aNil)) (eW ns (some (oS A)) (some (oS B)) (some (.sh (.int w))) o4 (some (oS RA)) none none none none none none) = .nx (eW ns (some (oS A)) (some (oS B)) (some (.sh (.int w))) o4 (some (oS RA)) (some (oS RB)) none none none none none) := by
    rw [setF_ok ((call1 lw_v2).trans lB) (fl_oS _)]; rfl
  have v5 : ∀ o7 o8 o9 o10 o11, var 5 (eW ns (some (oS A)) (some (oS B)) (some (.sh (.int w))) o4 (some (oS RA)) (some (oS RB)) o7 o8 o9 o10 o11) = .ok (dS RA) := fun _ _ _ _ _ => by show R.ok (oS RA).er = _; rw [oS_er]
  have v6 : ∀ o7 o8 o9 o10 o11, var 6 (eW ns (some (oS A)) (some (oS B)) (some (.sh (.int w))) o4 (some (oS RA)) (some (oS RB)) o7 o8 o9 o10 o11) = .ok (dS RB) := fun _ _ _ _ _ => by show R.ok (oS RB).er = _; rw [oS_er]
  have w10 : (ifS (orT (tst (op2 dNe (erE (callE m_repeat_of (aCons (erE (opAF fList (aCons (var 1) aNil))) aNil))) (var 5))) (tst (op2 dNe (erE (callE m_repeat_of (aCons (var 2) aNil))) (var 6)))) (retS [] (con (.bl false))) nxS) (eW ns (some (oS A)) (some (oS B)) (some (.sh (.int w))) o4 (some (oS RA)) (some (oS RB)) none none none none none) = .nx (eW ns (some (oS A)) (some (oS B)) (some (.sh (.int w))) o4 (some (oS RA)) (some (oS RB)) none none none none none) := by
    have x1 : erE (opAF fList (aCons (var 1) aNil)) (eW ns (some (oS A)) (some (oS B)) (some (.sh (.int w))) o4 (some (oS RA)) (some (oS RB)) none none none none none) = .ok (dS A) := by
      rw [erE_ok (opAF_ok lw_v1 (show fList [dS A] = some (lstF (A.map D.str)) from rfl)), lstF_er]; rfl
    have x2 := erE_ok ((call1 x1).trans rA)
    have x3 := erE_ok ((call1 (m := m_repeat_of) (f := var 2) (ρ := eW ns (some (oS A)) (some (oS B)) (some (.sh (.int w))) o4 (some (oS RA)) (some (oS RB)) none none none none none) lw_v2).trans rB)
    rw [oS_er] at x2 x3
    rw [ifS_f (orT_f (tst_ok (op2_ok x2 (v5 _ _ _ _ _) (by rw [dNe_dS, decide_eq_true rfl]; rfl))) (tst_ok (op2_ok x3 (v6 _ _ _ _ _) (by rw [dNe_dS, decide_eq_true rfl]; rfl))))]; rfl
  have w11 : setF 7 ([1] ++ ([2] ++ [])) (callE m_same_endless (aCons (var 1) (aCons (var 2) aNil))) (eW ns (some (oS A)) (some (oS B)) (some (.sh (.int w))) o4 (some (oS RA)) (some (oS RB)) none none none none none) = .nx (eW ns (some (oS A)) (some (oS B)) (some (.sh (.int w))) o4 (some (oS RA)) (some (oS RB)) (some (.sh (.bl (decide (RA = RB))))) none none none none) := by
    rw [setF_ok ((call2 lw_v1 lw_v2).trans en) rfl]; rfl
  have w12 : (ifS (orT (notT (tst (op1 (isD .bool) (var 7)))) (tst (op2 dNe (var 7) (op2 dEq (var 5) (var 6))))) (retS [] (con (.bl false))) nxS) (eW ns (some (oS A)) (some (oS B)) (some (.sh (.int w))) o4 (some (oS RA)) (some (oS RB)) (some (.sh (.bl (decide (RA = RB))))) none none none none) = .nx (eW ns (some (oS A)) (some (oS B)) (some (.sh (.int w))) o4 (some (oS RA)) (some (oS RB)) (some (.sh (.bl (decide (RA = RB))))) none none none none) := by
    rw [ifS_f (orT_f (b := false) (by unfold notT; rw [tst_ok (b := true) (op1_ok (g := isD .bool) (a := .bl (decide (RA = RB))) rfl rfl)]; rfl) (tst_ok (op2_ok (a := .bl (decide (RA = RB))) rfl (op2_ok (v5 _ _ _ _ _) (v6 _ _ _ _ _) (dEq_dS _ _)) (dNe_bl _))))]; rfl
  have w13 : setS 8 [] (con .non) (eW ns (some (oS A)) (some (oS B)) (some (.sh (.int w))) o4 (some (oS RA)) (some (oS RB)) (some (.sh (.bl (decide (RA = RB))))) none none none none) = .nx (eZ ns A B RA RB (some (.sh (.int w))) o4 (some (.sh (.bl (decide (RA = RB))))) none none none) := by
    rw [setS_ok (d := .non) rfl rfl]; rfl
  generalize (some (OD.sh (.bl (decide (RA = RB))))) = o7 at w11 w12 w13
  have w14 : (ifS (andT (tst (op2 dEq (opA dLen (aCons (var 5) aNil)) (opA dLen (aCons (var 6) aNil)))) (tst (op2 dEq (opA dLen (aCons (op2 dIx (var 5) (con (.int 0))) aNil)) (opA dLen (aCons (op2 dIx (var 6) (con (.int 0))) aNil))))) (forS [] [9, 10] (bName 9) (rgE rgF1 (aCons (opA dLen (aCons (var 6) aNil)) aNil)) l2_law) nxS) (eZ ns A B RA RB (some (.sh (.int w))) o4 o7 none none none) = .nx (eZ ns A B RA RB (some (.sh (.int w))) o4 o7 o none none) := by
    have n5 : opA dLen (aCons (var 5) aNil) (eZ ns A B RA RB (some (.sh (.int w))) o4 o7 none none none) = .ok (.int s) := opA_ok z_v5 (dLen_lst' _ _ (by rw [List.length_map]; exact cA.len))
    have n6 : opA dLen (aCons (var 6) aNil) (eZ ns A B RA RB (some (.sh (.int w))) o4 o7 none none none) = .ok (.int s2) := opA_ok z_v6 (dLen_lst' _ _ (by rw [List.length_map]; exact cB.len))
    have hA0 : 0 < RA.length := by rw [cA.len]; omega
    have gA := get_dS hA0
    rw [Int.natCast_zero] at gA
    have m5 : opA dLen (aCons (op2 dIx (var 5) (con (.int 0))) aNil) (eZ ns A B RA RB (some (.sh (.int w))) o4 o7 none none none) = .ok (.int t) := opA_ok (op2_ok z_v5 rfl gA) (dLen_str' _ _ (cA.row _ (List.getElem_mem hA0)) (by omega))
    have m6 := z_len0 (ns := ns) (A := A) (B := B) (RA := RA) (RB := RB) (o3 := some (.sh (.int w))) (o4 := o4) (o7 := o7) (o := none) (o9 := none) (o10 := none) cB b1 (by omega)
    have t1 := tst_ok (op2_ok n5 n6 (dEq_int _ _))
    have t2' := tst_ok (op2_ok m5 m6 (dEq_int _ _))
    by_cases g : s = s2 ∧ t = t2
    · rw [decide_eq_true (by omega)] at t1 t2'
      obtain ⟨o', e1, hF⟩ := z_outer (ns := ns) (A := A) (B := B) (RA := RA) (RB := RB) (o3 := some (.sh (.int w))) (o4 := o4) (o7 := o7) cB b1 (by omega) b3 (by omega)
      have eo := Fst.uniq hF (uF g)
      subst eo
      rw [ifS_t (andT_t t1 t2'), for_rng1 (show s2 < 1099511627776 by omega) (args1 n6) e1]
    · have eo := uN g
      subst eo
      by_cases q : s = s2
      · rw [decide_eq_true (by omega)] at t1
        rw [decide_eq_false (by omega)] at t2'
        rw [ifS_f (andT_t t1 t2')]; rfl
      · rw [decide_eq_false (by omega)] at t1
        rw [ifS_f (andT_f t1)]; rfl
  have w15 : setF 11 ([1] ++ ([2] ++ [])) (callE m_same_up_to_shift (aCons (var 1) (aCons (var 2) aNil))) (eZ ns A B RA RB (some (.sh (.int w))) o4 o7 o none none) = .nx (frzO (.sh (dO o)) ([1] ++ ([2] ++ [])) (eZ ns A B RA RB (some (.sh (.int w))) o4 o7 o none none) |>.set 11 (some (.sh (dO o)))) := by
    have q : callE m_same_up_to_shift (aCons (var 1) (aCons (var 2) aNil)) (eZ ns A B RA RB (some (.sh (.int w))) o4 o7 o none none) = .ok (.sh (dO o)) := (call2 (a := dS A) (b := dS B) lw_v1 lw_v2).trans uo
    unfold setF
    rw [q, R.out_ok]
  obtain ⟨ρ, hρ, z1, z2, z6, z8, z11⟩ : ∃ ρ : En, ρ = (frzO (.sh (dO o)) ([1] ++ ([2] ++ [])) (eZ ns A B RA RB (some (.sh (.int w))) o4 o7 o none none)).set 11 (some (.sh (dO o))) ∧ var 1 ρ = .ok (dS A) ∧ var 2 ρ = .ok (dS B) ∧ var 6 ρ = .ok (dS RB) ∧ var 8 ρ = .ok (dO o) ∧ var 11 ρ = .ok (dO o) := by
    refine ⟨_, rfl, ?_⟩
    cases o with
    | none =>
      refine ⟨?_, ?_, ?_, rfl, rfl⟩
      · show R.ok (oS A).er = _; rw [oS_er]
      · show R.ok (oS B).er = _; rw [oS_er]
      · show R.ok (oS RB).er = _; rw [oS_er]
    | some q =>
      obtain ⟨x, y⟩ := q
      refine ⟨?_, ?_, ?_, rfl, rfl⟩
      · show R.ok (oS A).er = _; rw [oS_er]
      · show R.ok (oS B).er = _; rw [oS_er]
      · show R.ok (oS RB).er = _; rw [oS_er]
  rw [← hρ] at w15
  have w16 : (ifS (tst (op2 dNe (var 11) (var 8))) (retS [] (con (.bl false))) nxS) ρ = .nx ρ := by
    rw [ifS_f (tst_ok (op2_ok z11 z8 (dNe_dO _)))]; rfl
  have w17 : retS [] (andV (op2 dEq (erE (callE m_same_up_to_shift (aCons (var 1) (aCons (var 1) aNil)))) (tupE (aCons (con (.int 0)) (aCons (con (.int 0)) aNil)))) (op2 dIs (erE (callE m_same_endless (aCons (var 2) (aCons (var 6) aNil)))) (con (.bl true)))) ρ = .rt (.sh (.bl true)) ρ := by
    have q1 := op2_ok (g := dEq) (erE_ok ((call2 z1 z1).trans uo0)) (show tupE (aCons (con (.int 0)) (aCons (con (.int 0)) aNil)) ρ = .ok (.tup [.int 0, .int 0]) from by unfold tupE; rw [args2 (a := .int 0) (b := .int 0) rfl rfl, R.bind_ok]; rfl) dEq_00
    have q2 := op2_ok (g := dIs) (f2 := con (.bl true)) (erE_ok ((call2 z2 z6).trans en2)) rfl (show dIs (OD.sh (.bl true)).er (.bl true) = some (.bl true) from rfl)
    refine retS_ok ?_ rfl
    unfold andV
    rw [q1, R.bind_ok]
    exact q2
  exact ⟨ρ, seqS_nx' w8 (seqS_nx' w9 (seqS_nx' w10 (seqS_nx' w11 (seqS_nx' w12 (seqS_nx' w13 (seqS_nx' w14 (seqS_nx' w15 (seqS_nx' w16 w17))))))))⟩
end
end K02
set_option Elab.async false
set_option linter.all false
set_option maxRecDepth 100000
namespace K02
open PySem L2 DL DLC
theorem law_true (ns : List Int) : m_law [.scr ns] = .ok (.sh (.bl true)) := by
  have e0 : (([.scr ns] : List D).map (fun d => some (OD.sh d)) ++ List.replicate (13 - 1) none) = eW ns none none none none none none none none none none none := rfl
  obtain ⟨p, e, A, cA, hA, p1, p2, e1, e2⟩ := lw_cloth (ρ := eW ns none none none none none none none none none none none) (ns := ns) 0 rfl
  have w1 : setF 1 ([] ++ ([] ++ ([] ++ []))) (callE m__law_cloth (aCons (opA dAbs (aCons (erE (callE m__law_cell (aCons (var 0) (aCons (con (.int 0)) aNil)))) aNil)) (aCons (con (.int 5)) (aCons (con (.int 5)) aNil)))) (eW ns none none none none none none none none none none none) = .nx (eW ns (some (oS A)) none none none none none none none none none none) := by
    have q : callE m__law_cloth (aCons (opA dAbs (aCons (erE (callE m__law_cell (aCons (var 0) (aCons (con (.int 0)) aNil)))) aNil)) (aCons (con (.int 5)) (aCons (con (.int 5)) aNil))) (eW ns none none none none none none none none none none none) = .ok (oS A) := cA
    rw [setF_ok q (fl_oS _)]; rfl
  obtain ⟨q1, q2, B, cB, hB, r1, r2, r3, r4⟩ := lw_cloth (ρ := eW ns (some (oS A)) none none none none none none none none none none) (ns := ns) 1 rfl
  have w2 : setF 2 ([] ++ ([] ++ ([] ++ []))) (callE m__law_cloth (aCons (opA dAbs (aCons (erE (callE m__law_cell (aCons (var 0) (aCons (con (.int 1)) aNil)))) aNil)) (aCons (con (.int 5)) (aCons (con (.int 5)) aNil)))) (eW ns (some (oS A)) none none none none none none none none none none) = .nx (eW ns (some (oS A)) (some (oS B)) none none none none none none none none none) := by
    have q : callE m__law_cloth (aCons (opA dAbs (aCons (erE (callE m__law_cell (aCons (var 0) (aCons (con (.int 1)) aNil)))) aNil)) (aCons (con (.int 5)) (aCons (con (.int 5)) aNil))) (eW ns (some (oS A)) none none none none none none none none none none) = .ok (oS B) := cB
    rw [setF_ok q (fl_oS _)]; rfl
  have w3 : setS 3 [] (op2 dMod (opA dInt (aCons (erE (callE m__law_cell (aCons (var 0) (aCons (con (.int 2)) aNil)))) aNil)) (con (.int 5))) (eW ns (some (oS A)) (some (oS B)) none none none none none none none none none) = .nx (eW ns (some (oS A)) (some (oS B)) (some (.sh (.int (ns.getD 2 0 % 5)))) none none none none none none none none) := by
    have c2 : opA dInt (aCons (erE (callE m__law_cell (aCons (var 0) (aCons (con (.int 2)) aNil)))) aNil) (eW ns (some (oS A)) (some (oS B)) none none none none none none none none none) = .ok (.int (ns.getD 2 0)) := cellI 2 rfl
    rw [setS_ok (op2_ok c2 rfl (dMod_i _ 5 (by decide))) rfl]; rfl
  obtain ⟨p3, e3, B', B2, w4, w5, hB', s1, s2, s3, s4⟩ := lw_45 (ns := ns) (w := ns.getD 2 0 % 5) hA hB p1 p2 e1 e2 r1 r2 r3 r4
  obtain ⟨B3, w6, hB3⟩ := lw_6 (ns := ns) (A := A) (w := ns.getD 2 0 % 5) hB' s1 s2 s3 s4
  obtain ⟨B4, o4, w7, hB4⟩ := lw_7 (ns := ns) (A := A) (w := ns.getD 2 0 % 5) hB3 s1 s2 s3 s4
  obtain ⟨ρ, w8⟩ := law_end (ns := ns) (w := ns.getD 2 0 % 5) (o4 := o4) hA hB4 p1 (by omega) e1 (by omega) s1 s2 s3 s4
  have w : b_law (eW ns none none none none none none none none none none none) = .rt (.sh (.bl true)) ρ := by
    unfold b_law
    exact seqS_nx' w1 (seqS_nx' w2 (seqS_nx' w3 (seqS_nx' w4 (seqS_nx' w5 (seqS_nx' w6 (seqS_nx' w7 w8))))))
  exact mOf_rt rfl e0 w
end K02
set_option Elab.async false
set_option linter.all false
set_option maxRecDepth 100000
set_option maxHeartbeats 0
namespace K02
open PySem PySem.Spec PyProof.Rows L2 DL
/-! ### the head -/
def w__law_draw : He.DefD := ⟨("_law_draw", none), "_law_draw", "_law_draw", defArgs (top 17), defBody (top 17), defScope (top 17), [], []⟩
def w__law_cloth : He.DefD := ⟨("_law_cloth", none), "_law_cloth", "_law_cloth", defArgs (top 18), defBody (top 18), defScope (top 18), [], []⟩
def w__law_repeat : He.DefD := ⟨("_law_repeat", none), "_law_repeat", "_law_repeat", defArgs (top 20), defBody (top 20), defScope (top 20), [], []⟩
def w_check_cloth : He.DefD := ⟨("check_cloth", none), "check_cloth", "check_cloth", defArgs (top 7), defBody (top 7), defScope (top 7), [], []⟩
def w_least_period : He.DefD := ⟨("least_period", none), "least_period", "least_period", defArgs (top 11), defBody (top 11), defScope (top 11), [], []⟩
def w_column_of : He.DefD := ⟨("column_of", none), "column_of", "column_of", defArgs (top 8), defBody (top 8), defScope (top 8), [], []⟩
def w_columns_of : He.DefD := ⟨("columns_of", none), "columns_of", "columns_of", defArgs (top 9), defBody (top 9), defScope (top 9), [], []⟩
def w_repeat_of : He.DefD := ⟨("repeat_of", none), "repeat_of", "repeat_of", defArgs (top 12), defBody (top 12), defScope (top 12), [], []⟩
def w_same_endless : He.DefD := ⟨("same_endless", none), "same_endless", "same_endless", defArgs (top 13), defBody (top 13), defScope (top 13), [], []⟩
def w_shift_rows : He.DefD := ⟨("shift_rows", none), "shift_rows", "shift_rows", defArgs (top 10), defBody (top 10), defScope (top 10), [], []⟩
def w_same_up_to_shift : He.DefD := ⟨("same_up_to_shift", none), "same_up_to_shift", "same_up_to_shift", defArgs (top 14), defBody (top 14), defScope (top 14), [], []⟩
def w__law_shift : He.DefD := ⟨("_law_shift", none), "_law_shift", "_law_shift", defArgs (top 21), defBody (top 21), defScope (top 21), [], []⟩
def w__law_cell : He.DefD := ⟨("_law_cell", none), "_law_cell", "_law_cell", defArgs (top 16), defBody (top 16), defScope (top 16), [], []⟩
def w__law_turn_over : He.DefD := ⟨("_law_turn_over", none), "_law_turn_over", "_law_turn_over", defArgs (top 19), defBody (top 19), defScope (top 19), [], []⟩
def w_law : He.DefD := ⟨("law", none), "law", "law", defArgs (top 22), defBody (top 22), defScope (top 22), [], []⟩
def fn : List He.DefD := [w__law_draw, w__law_cloth, w__law_repeat, w_check_cloth, w_least_period, w_column_of, w_columns_of, w_repeat_of, w_same_endless, w_shift_rows, w_same_up_to_shift, w__law_shift, w__law_cell, w__law_turn_over, w_law]
def fa : List He.Fa := [.glo "_law_draw", .glo "_law_cloth", .glo "_law_repeat", .glo "check_cloth", .glo "least_period", .glo "column_of", .glo "columns_of", .glo "repeat_of", .glo "same_endless", .glo "shift_rows", .glo "same_up_to_shift", .glo "_law_shift", .glo "_law_cell", .glo "_law_turn_over", .glo "law", .free "abs", .free "len", .free "range", .free "int", .free "list", .free "isinstance", .free "bool", .int "MOST" 60, .str "OVER" "#", .str "UNDER" "."]
abbrev Rr : PySem.W.OpenRow := PySem.W.OpenLaw.row PySem.Challenge.rw_heddlebook_k02_endless_cloths
abbrev hk : PySem.W.Hook := He.hookD 4 fa fn
def ob (s : PySem.W.SharedT) : He.AlD := He.obsDG 4 fa fn (HandSHeadRun.getT s)
theorem ob_eq (s : PySem.W.SharedT) : ob s = hk.obs s.abs := He.obsDG_eq (HandSHeadRun.getT_eq s)
def lo0 : List PySem.Str := ["HeddleError", "BadCloth", "MOST", "OVER", "UNDER", "check_cloth", "column_of", "columns_of", "shift_rows", "least_period", "repeat_of", "same_endless", "same_up_to_shift", "_law_cell", "_law_draw", "_law_cloth", "_law_turn_over", "_law_repeat", "_law_shift"]
abbrev lo : List PySem.Str := lo0
theorem run (w : World) : HandSHeadRun.RunEq Rr (PySem.W.view Rr.prog [22]) hk ob 4000 lo w := by
  intro os
  kernel_rfl
theorem facts {P : Program} {w : World} {K : PySem.W.Frag} {h : Heap} {mg : Str → Option Value} {f : Addr} (X : K.In h) (G : h.Ns mainGlobals mg) (hfa : mg ("law" : Str) = some (.ref f)) (c : He.SaysD fa fn K) :
    ∃ fd : FuncData, (∀ (s : Shared) (v : Value), BindsTo s fd ⟨[v], []⟩ [("script", v)]) ∧ ∀ base : Heap, K.In base → base.Ns mainGlobals mg → FnOk P w K mg base (L2.CX P w) 5 f fd ["script"] (spD ⟨K, mg, none⟩ 1 m_law) := by
  obtain ⟨fd__law_draw, F__law_draw⟩ := c.def_ 0 (d := w__law_draw) rfl
  obtain ⟨fd__law_cloth, F__law_cloth⟩ := c.def_ 1 (d := w__law_cloth) rfl
  obtain ⟨fd__law_repeat, F__law_repeat⟩ := c.def_ 2 (d := w__law_repeat) rfl
  obtain ⟨fd_check_cloth, F_check_cloth⟩ := c.def_ 3 (d := w_check_cloth) rfl
  obtain ⟨fd_least_period, F_least_period⟩ := c.def_ 4 (d := w_least_period) rfl
  obtain ⟨fd_column_of, F_column_of⟩ := c.def_ 5 (d := w_column_of) rfl
  obtain ⟨fd_columns_of, F_columns_of⟩ := c.def_ 6 (d := w_columns_of) rfl
  obtain ⟨fd_repeat_of, F_repeat_of⟩ := c.def_ 7 (d := w_repeat_of) rfl
  obtain ⟨fd_same_endless, F_same_endless⟩ := c.def_ 8 (d := w_same_endless) rfl
  obtain ⟨fd_shift_rows, F_shift_rows⟩ := c.def_ 9 (d := w_shift_rows) rfl
  obtain ⟨fd_same_up_to_shift, F_same_up_to_shift⟩ := c.def_ 10 (d := w_same_up_to_shift) rfl
  obtain ⟨fd__law_shift, F__law_shift⟩ := c.def_ 11 (d := w__law_shift) rfl
  obtain ⟨fd__law_cell, F__law_cell⟩ := c.def_ 12 (d := w__law_cell) rfl
  obtain ⟨fd__law_turn_over, F__law_turn_over⟩ := c.def_ 13 (d := w__law_turn_over) rfl
  obtain ⟨fd_law, F_law⟩ := c.def_ 14 (d := w_law) rfl
  have a__law_draw := He.glo_ok X G (c.fact 0 (f := .glo "_law_draw") rfl)
  have a__law_cloth := He.glo_ok X G (c.fact 1 (f := .glo "_law_cloth") rfl)
  have a__law_repeat := He.glo_ok X G (c.fact 2 (f := .glo "_law_repeat") rfl)
  have a_check_cloth := He.glo_ok X G (c.fact 3 (f := .glo "check_cloth") rfl)
  have a_least_period := He.glo_ok X G (c.fact 4 (f := .glo "least_period") rfl)
  have a_column_of := He.glo_ok X G (c.fact 5 (f := .glo "column_of") rfl)
  have a_columns_of := He.glo_ok X G (c.fact 6 (f := .glo "columns_of") rfl)
  have a_repeat_of := He.glo_ok X G (c.fact 7 (f := .glo "repeat_of") rfl)
  have a_same_endless := He.glo_ok X G (c.fact 8 (f := .glo "same_endless") rfl)
  have a_shift_rows := He.glo_ok X G (c.fact 9 (f := .glo "shift_rows") rfl)
  have a_same_up_to_shift := He.glo_ok X G (c.fact 10 (f := .glo "same_up_to_shift") rfl)
  have a__law_shift := He.glo_ok X G (c.fact 11 (f := .glo "_law_shift") rfl)
  have a__law_cell := He.glo_ok X G (c.fact 12 (f := .glo "_law_cell") rfl)
  have a__law_turn_over := He.glo_ok X G (c.fact 13 (f := .glo "_law_turn_over") rfl)
  have a_law := He.glo_ok X G (c.fact 14 (f := .glo "law") rfl)
  have n_abs := He.free_ok X G (c.fact 15 (f := .free "abs") rfl)
  have n_len := He.free_ok X G (c.fact 16 (f := .free "len") rfl)
  have n_range := He.free_ok X G (c.fact 17 (f := .free "range") rfl)
  have n_int := He.free_ok X G (c.fact 18 (f := .free "int") rfl)
  have n_list := He.free_ok X G (c.fact 19 (f := .free "list") rfl)
  have n_isinstance := He.free_ok X G (c.fact 20 (f := .free "isinstance") rfl)
  have n_bool := He.free_ok X G (c.fact 21 (f := .free "bool") rfl)
  have g_MOST := He.int_ok X G (c.fact 22 (f := .int "MOST" 60) rfl)
  have g_OVER := He.str_ok X G (c.fact 23 (f := .str "OVER" "#") rfl)
  have g_UNDER := He.str_ok X G (c.fact 24 (f := .str "UNDER" ".") rfl)
  cases hfa.symm.trans a_law
  refine ⟨fd_law, fun s v => FunD.bindsA (ps := ["script"]) F_law (fun _ _ _ _ _ _ us hl => match us, hl with | [_], _ => rfl) s [v] rfl, fun base _ _ => ?_⟩
  have c__law_draw : DefOk P w K mg base "_law_draw" 1 2 m__law_draw := ok__law_draw F__law_draw a__law_draw n_abs n_len n_range n_int
  have c__law_cloth : DefOk P w K mg base "_law_cloth" 2 3 m__law_cloth := ok__law_cloth F__law_cloth a__law_cloth c__law_draw n_range n_int
  have c__law_repeat : DefOk P w K mg base "_law_repeat" 1 1 m__law_repeat := ok__law_repeat F__law_repeat a__law_repeat n_len n_range
  have c_check_cloth : DefOk P w K mg base "check_cloth" 1 1 m_check_cloth := ok_check_cloth F_check_cloth a_check_cloth n_len n_range g_MOST g_OVER g_UNDER
  have c_least_period : DefOk P w K mg base "least_period" 1 1 m_least_period := ok_least_period F_least_period a_least_period n_len n_range
  have c_column_of : DefOk P w K mg base "column_of" 1 2 m_column_of := ok_column_of F_column_of a_column_of 
  have c_columns_of : DefOk P w K mg base "columns_of" 2 1 m_columns_of := ok_columns_of F_columns_of a_columns_of c_column_of n_len n_range
  have c_repeat_of : DefOk P w K mg base "repeat_of" 3 1 m_repeat_of := ok_repeat_of F_repeat_of a_repeat_of c_check_cloth c_least_period c_columns_of n_list
  have c_same_endless : DefOk P w K mg base "same_endless" 4 2 m_same_endless := ok_same_endless F_same_endless a_same_endless c_check_cloth c_repeat_of
  have c_shift_rows : DefOk P w K mg base "shift_rows" 1 3 m_shift_rows := ok_shift_rows F_shift_rows a_shift_rows n_len
  have c_same_up_to_shift : DefOk P w K mg base "same_up_to_shift" 4 2 m_same_up_to_shift := ok_same_up_to_shift F_same_up_to_shift a_same_up_to_shift c_check_cloth c_repeat_of c_shift_rows n_len n_range
  have c__law_shift : DefOk P w K mg base "_law_shift" 1 3 m__law_shift := ok__law_shift F__law_shift a__law_shift n_len n_range n_int
  have c__law_cell : DefOk P w K mg base "_law_cell" 1 2 m__law_cell := ok__law_cell F__law_cell a__law_cell n_len
  have c__law_turn_over : DefOk P w K mg base "_law_turn_over" 1 1 m__law_turn_over := ok__law_turn_over F__law_turn_over a__law_turn_over n_int
  exact fn_okD F_law sc_law rfl (t_law c__law_cloth c__law_cell c__law_shift c__law_turn_over c__law_repeat c_repeat_of c_same_endless c_same_up_to_shift n_abs n_int n_list n_len n_isinstance n_bool n_range)
end K02
open PySem PySem.W PySem.Calls PyProof.Rows
theorem K02.holds (hm : ∀ ns : List Int, ns.length ≤ 63 → (∀ z ∈ ns, Builtin.Int.intBits z ≤ 1048576) → K02.m_law [.scr ns] = .ok (.sh (.bl true))) : PySem.Challenge.rw_heddlebook_k02_endless_cloths.Holds := by
  w_on; o_law
  refine HandSHeadRun.head_any (r := OpenLaw.row PySem.Challenge.rw_heddlebook_k02_endless_cloths) (q := view (OpenLaw.row PySem.Challenge.rw_heddlebook_k02_endless_cloths).prog [22]) (H := K02.hk) (ob := K02.ob) (M := 4000) (loose := K02.lo) (d := HandSHeadRun.topDef (OpenLaw.row PySem.Challenge.rw_heddlebook_k02_endless_cloths).prog 22) (kwd := []) K02.ob_eq
    (by kernel_rfl) (fun s => by kernel_rfl) K02.run (by kernel_rfl) (by kernel_rfl) (by kernel_rfl) (by rfl) (by first | assumption | decide +kernel) (by decide +kernel) ⟨rfl, rfl, rfl, rfl, rfl, by decide +kernel⟩ ?hw ?hc
  case hw => w_witness2
  case hc =>
    refine DL.end_law (l := PySem.Challenge.rw_heddlebook_k02_endless_cloths) (n := 63) (k := 5) (x := "script") (m := K02.m_law) rfl (by decide) (by kernel_rfl) ⟨rfl, by decide, by decide⟩ ?F hm
    intro w mg fa h Y G hmg0
    obtain ⟨K, KX, c⟩ := Y
    have hmg : mg ("law" : PySem.Str) = some (.ref fa) := by
      have e : (HandSHeadRun.topDef (OpenLaw.row PySem.Challenge.rw_heddlebook_k02_endless_cloths).prog 22).name = ("law" : PySem.Str) := by kernel_rfl
      rw [← e]
      exact hmg0
    obtain ⟨fd, hb, hF⟩ := K02.facts (P := (PySem.Challenge.rw_heddlebook_k02_endless_cloths).prog) (w := w) KX G hmg c
    exact ⟨K, fd, KX, hb, hF⟩
theorem PySem.Challenge.cw_heddlebook_k02_endless_cloths_holds : PySem.Challenge.rw_heddlebook_k02_endless_cloths.Holds :=
  K02.holds fun ns _ _ => K02.law_true ns
