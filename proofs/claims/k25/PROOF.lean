import PyProof.Rows.All
import Wide.All
import OpenK.AllK
import Wide.FinOn
import HandS.ForMost
import HandS.ForExc
import HandS.TryMany
import HandS.Defaults
import HandS.HeadHook2
import HandS.Wide
import HandS.Style
import HandS.List
import HandS.Conv
import KE.DataEq
import PyProof.StrOps2
import HandS.IsInst
import PyProof.SliceStr2
import HandS.Rev
import HandS.Rindex
import HandS.Words
import HandS.ExcOwn
import HandS.WordsExc
import HandS.Head0
import HandS.Head1
import HandS.Head2
import HandS.HeadEnd
import HandS.HeadHook1
import HandS.HeadHook3
import HandS.EndBits
import PyProof.Rows.StrRev
import HandS.Zip
import KE.GoesEnum
import HandS.Dict
import HandS.ExcInit
import HandS.Nested
import KE.KExcSuper
import KE.KSuper
import HandS.ExcField
import HandS.ExcIs
import KE.KExcIs
import HandS.DictComp
import HandS.More
import HandS.Deep
import HandS.SetFor
import HandS.Codes
import PySem.Challenge.RW_heddlebook_k25_yarn_of_a_plan
set_option Elab.async false
set_option linter.all false
set_option maxRecDepth 100000
namespace DL
open PySem PySem.Spec PyProof.Rows L2

/-! ## data -/
inductive D where
  | non | bl (b : Bool) | int (i : Int) | str (s : List Nat) | lst (xs : List D) | tup (xs : List D)
  | dic (kvs : List (D × D)) | obj (c : Str) (fs : List (Str × D)) | exn (c : Str) (fs : List (Str × D)) | scr (ns : List Int)

/-- what a piece of code yields: a value, an exception of the program's (class, fields), or nothing is said -/
inductive R (α : Type) where
  | ok (a : α) | ex (c : Str) (fs : List (Str × D)) | st
def R.bind {α β : Type} (r : R α) (f : α → R β) : R β := match r with
  | .ok a => f a
  | .ex c fs => .ex c fs
  | .st => .st
def R.ofO {α : Type} (o : Option α) : R α := match o with
  | some a => .ok a
  | none => .st
@[simp] theorem R.bind_ok {α β : Type} (a : α) (f : α → R β) : (R.ok a).bind f = f a := rfl
@[simp] theorem R.bind_ex {α β : Type} (c : Str) (fs : List (Str × D)) (f : α → R β) : (R.ex c fs).bind f = .ex c fs := rfl
@[simp] theorem R.bind_st {α β : Type} (f : α → R β) : (R.st : R α).bind f = .st := rfl
@[simp] theorem R.ofO_some {α : Type} (a : α) : R.ofO (some a) = .ok a := rfl
@[simp] theorem R.ofO_none {α : Type} : R.ofO (none : Option α) = .st := rfl

/-! ## hiding -/
open Classical in
noncomputable def cut (H : Hp) (p : Addr → Prop) : Hp := fun a => if p a then none else H a
theorem cut_out {H : Hp} {p : Addr → Prop} {a : Addr} (h : ¬ p a) : cut H p a = H a := by unfold cut; rw [if_neg h]
theorem cut_in {H : Hp} {p : Addr → Prop} {a : Addr} (h : p a) : cut H p a = none := by unfold cut; rw [if_pos h]
theorem cut_some {H : Hp} {p : Addr → Prop} {a : Addr} {o : HO} (h : cut H p a = some o) : ¬ p a ∧ H a = some o := by
  by_cases hp : p a
  · rw [cut_in hp] at h; cases h
  · rw [cut_out hp] at h; exact ⟨hp, h⟩
theorem cut_of {H : Hp} {p : Addr → Prop} {a : Addr} {o : HO} (hp : ¬ p a) (h : H a = some o) : cut H p a = some o := by rw [cut_out hp]; exact h
theorem cut_same {H : Hp} {p : Addr → Prop} : Same (cut H p) H := fun a o h => (cut_some h).2
theorem cut_mono {H H' : Hp} {p q : Addr → Prop} (hs : Same H H') (hp : ∀ a, q a → p a) : Same (cut H p) (cut H' q) := fun a o h => by
  obtain ⟨h1, h2⟩ := cut_some h
  exact cut_of (fun z => h1 (hp a z)) (hs a o h2)

theorem Rd.same {H H' : Hp} {a : Addr} {u : HO} (e : Same H H') (h : Rd H a u) : Rd H' a u := by
  rcases h with h | ⟨o, h⟩
  · exact .inl (e a _ h)
  · exact .inr ⟨o, e a _ h⟩
theorem SqT.same {K : PySem.W.Frag} {H H' : Hp} {a : Addr} {xs : List V} (e : Same H H') (h : SqT K H a xs) : SqT K H' a xs := by
  rcases h with h | h
  · exact .inl (Rd.same e h)
  · exact .inr h

/-! ## a value reads as data over a heap that does not change -/
/-- the exception that is being handled -/
abbrev Hot := Option (Addr × Value × Option Addr)
/-- the written part, the module's names, the exception in hand -/
structure Wd where
  K : PySem.W.Frag
  mg : Str → Option Value
  hot : Hot
/-- a field's value that needs no heap -/
def FlatV : V → D → Prop
  | .non, .non => True
  | .bl b, .bl c => b = c
  | .int i, .int j => i = j
  | .str x, .str y => x.cps.toList = y
  | _, _ => False
def ExF (vfs : List (Str × V)) (fs : List (Str × D)) : Prop := ∀ f d, fs.lookup f = some d → ∃ v, vfs.lookup f = some v ∧ FlatV v d
def kD : Key → D
  | .inl i => .int i
  | .inr x => .str x.cps.toList
mutual
inductive Rep (P : Wd) (G : Hp) : V → D → Prop
  | non : Rep P G .non .non
  | bl (b : Bool) : Rep P G (.bl b) (.bl b)
  | int (i : Int) : Rep P G (.int i) (.int i)
  | str (x : Str) : Rep P G (.str x) (.str x.cps.toList)
  | lst {a : Addr} {xs : List V} {ds : List D} : G a = some (.lst xs) → RepL P G xs ds → Rep P G (.ref a) (.lst ds)
  | tup {a : Addr} {xs : List V} {ds : List D} : SqT P.K G a xs → RepL P G xs ds → Rep P G (.ref a) (.tup ds)
  | dic {a : Addr} {kvs : List (Key × V)} {ds : List (D × D)} : Rd G a (.dK kvs) → RepK P G kvs ds → Rep P G (.ref a) (.dic ds)
  | obj {a C dx : Addr} {c : Str} {fs : List (Str × V)} {ds : List (Str × D)} : P.mg c = some (.ref C) → G a = some (.ins C dx fs) → RepF P G fs ds → Rep P G (.ref a) (.obj c ds)
  | exn {a C dx : Addr} {c : Str} {vfs : List (Str × V)} {fs : List (Str × D)} : P.hot = some (a, .ref C, some dx) → P.mg c = some (.ref C) → G dx = some (.xd vfs) → ExF vfs fs → Rep P G (.ref a) (.exn c fs)
  | scr {a : Addr} {ns : List Int} : SqL P.K G a (ns.map V.int) → Rep P G (.ref a) (.scr ns)
inductive RepL (P : Wd) (G : Hp) : List V → List D → Prop
  | nil : RepL P G [] []
  | cons {v : V} {vs : List V} {d : D} {ds : List D} : Rep P G v d → RepL P G vs ds → RepL P G (v :: vs) (d :: ds)
inductive RepK (P : Wd) (G : Hp) : List (Key × V) → List (D × D) → Prop
  | nil : RepK P G [] []
  | cons {k : Key} {v : V} {vs : List (Key × V)} {d : D} {ds : List (D × D)} : Rep P G v d → RepK P G vs ds → RepK P G ((k, v) :: vs) ((kD k, d) :: ds)
inductive RepT (P : Wd) (G : Hp) : List (List Key × V) → List (D × D) → Prop
  | nil : RepT P G [] []
  | cons {k : List Key} {v : V} {vs : List (List Key × V)} {d : D} {ds : List (D × D)} : Rep P G v d → RepT P G vs ds → RepT P G ((k, v) :: vs) ((.tup (k.map kD), d) :: ds)
inductive RepF (P : Wd) (G : Hp) : List (Str × V) → List (Str × D) → Prop
  | nil : RepF P G [] []
  | cons {f : Str} {v : V} {vs : List (Str × V)} {d : D} {ds : List (Str × D)} : Rep P G v d → RepF P G vs ds → RepF P G ((f, v) :: vs) ((f, d) :: ds)
end
section
variable {P : Wd} {G G' : Hp}
mutual
theorem Rep.mono (s : Same G G') : ∀ (d : D) (v : V), Rep P G v d → Rep P G' v d
  | .non, _, h => by cases h; exact .non
  | .bl _, _, h => by cases h; exact .bl _
  | .int _, _, h => by cases h; exact .int _
  | .str _, _, h => by cases h; exact .str _
  | .lst ds, _, h => by
    cases h with
    | lst h1 h2 => exact .lst (s _ _ h1) (RepL.mono s ds _ h2)
  | .tup ds, _, h => by
    cases h with
    | tup h1 h2 => exact .tup (SqT.same s h1) (RepL.mono s ds _ h2)
  | .dic ds, _, h => by
    cases h with
    | dic h1 h2 => exact .dic (Rd.same s h1) (RepK.mono s ds _ h2)
  | .obj c ds, _, h => by
    cases h with
    | obj h0 h1 h2 => exact .obj h0 (s _ _ h1) (RepF.mono s ds _ h2)
  | .exn c ds, _, h => by
    cases h with
    | exn h0 h1 h2 h3 => exact .exn h0 h1 (s _ _ h2) h3
  | .scr ns, _, h => by
    cases h with
    | scr h1 => exact .scr (Same.seq s h1)
theorem RepL.mono (s : Same G G') : ∀ (ds : List D) (vs : List V), RepL P G vs ds → RepL P G' vs ds
  | [], _, h => by cases h; exact .nil
  | d :: ds, _, h => by
    cases h with
    | cons h1 h2 => exact .cons (Rep.mono s d _ h1) (RepL.mono s ds _ h2)
theorem RepK.mono (s : Same G G') : ∀ (ds : List (D × D)) (vs : List (Key × V)), RepK P G vs ds → RepK P G' vs ds
  | [], _, h => by cases h; exact .nil
  | (_, d) :: ds, _, h => by
    cases h with
    | cons h1 h2 => exact .cons (Rep.mono s d _ h1) (RepK.mono s ds _ h2)
theorem RepT.mono (s : Same G G') : ∀ (ds : List (D × D)) (vs : List (List Key × V)), RepT P G vs ds → RepT P G' vs ds
  | [], _, h => by cases h; exact .nil
  | (_, d) :: ds, _, h => by
    cases h with
    | cons h1 h2 => exact .cons (Rep.mono s d _ h1) (RepT.mono s ds _ h2)
theorem RepF.mono (s : Same G G') : ∀ (ds : List (Str × D)) (vs : List (Str × V)), RepF P G vs ds → RepF P G' vs ds
  | [], _, h => by cases h; exact .nil
  | (_, d) :: ds, _, h => by
    cases h with
    | cons h1 h2 => exact .cons (Rep.mono s d _ h1) (RepF.mono s ds _ h2)
end
theorem Rep.up {v : V} {d : D} (h : Rep P G v d) (s : Same G G') : Rep P G' v d := Rep.mono s d v h
theorem RepL.up {v : List V} {d : List D} (h : RepL P G v d) (s : Same G G') : RepL P G' v d := RepL.mono s d v h
theorem RepL.len {ds : List D} : ∀ {vs : List V}, RepL P G vs ds → vs.length = ds.length := by
  induction ds with
  | nil => intro vs h; cases h; rfl
  | cons d ds ih =>
    intro vs h
    cases h with
    | cons h1 h2 => rw [List.length_cons, List.length_cons, ih h2]
theorem RepL.get {ds : List D} : ∀ {vs : List V} {i : Nat} {v : V}, RepL P G vs ds → vs[i]? = some v → ∃ d, ds[i]? = some d ∧ Rep P G v d := by
  induction ds with
  | nil => intro vs i v h e; cases h; simp at e
  | cons d ds ih =>
    intro vs i v h e
    cases h with
    | cons h1 h2 =>
      cases i with
      | zero => simp at e; subst e; exact ⟨d, rfl, h1⟩
      | succ i => simpa using ih h2 (by simpa using e)
theorem RepL.getD {ds : List D} {vs : List V} {i : Nat} {d : D} (h : RepL P G vs ds) (e : ds[i]? = some d) : ∃ v, vs[i]? = some v ∧ Rep P G v d := by
  have hl := h.len
  have hi : i < vs.length := by rw [hl]; exact (List.getElem?_eq_some_iff.mp e).1
  obtain ⟨d', e', r⟩ := h.get (List.getElem?_eq_getElem hi)
  rw [e] at e'; cases e'
  exact ⟨_, List.getElem?_eq_getElem hi, r⟩
theorem RepL.append {ds es : List D} : ∀ {vs ws : List V}, RepL P G vs ds → RepL P G ws es → RepL P G (vs ++ ws) (ds ++ es) := by
  induction ds with
  | nil => intro vs ws h g; cases h; exact g
  | cons d ds ih =>
    intro vs ws h g
    cases h with
    | cons h1 h2 => exact .cons h1 (ih h2 g)
theorem RepL.drop {ds : List D} : ∀ {vs : List V} (n : Nat), RepL P G vs ds → RepL P G (vs.drop n) (ds.drop n) := by
  induction ds with
  | nil => intro vs n h; cases h; simp; exact .nil
  | cons d ds ih =>
    intro vs n h
    cases h with
    | cons h1 h2 =>
      cases n with
      | zero => exact .cons h1 h2
      | succ n => exact ih n h2
theorem RepL.take {ds : List D} : ∀ {vs : List V} (n : Nat), RepL P G vs ds → RepL P G (vs.take n) (ds.take n) := by
  induction ds with
  | nil => intro vs n h; cases h; simp; exact .nil
  | cons d ds ih =>
    intro vs n h
    cases h with
    | cons h1 h2 =>
      cases n with
      | zero => exact .nil
      | succ n => exact .cons h1 (ih n h2)
theorem RepL.set {ds : List D} {v : V} {d : D} (r : Rep P G v d) : ∀ {vs : List V} (n : Nat), RepL P G vs ds → RepL P G (vs.set n v) (ds.set n d) := by
  induction ds with
  | nil => intro vs n h; cases h; exact .nil
  | cons d' ds ih =>
    intro vs n h
    cases h with
    | cons h1 h2 =>
      cases n with
      | zero => exact .cons r h2
      | succ n => exact .cons h1 (ih n h2)
theorem RepL.reverse {ds : List D} : ∀ {vs : List V}, RepL P G vs ds → RepL P G vs.reverse ds.reverse := by
  induction ds with
  | nil => intro vs h; cases h; exact .nil
  | cons d ds ih =>
    intro vs h
    cases h with
    | cons h1 h2 =>
      rw [List.reverse_cons, List.reverse_cons]
      exact (ih h2).append (.cons h1 .nil)
theorem RepL.rep {vs : List V} {ds : List D} (h : RepL P G vs ds) : ∀ k : Nat, RepL P G (List.replicate k vs).flatten (List.replicate k ds).flatten
  | 0 => .nil
  | k + 1 => by
    rw [List.replicate_succ, List.replicate_succ, List.flatten_cons, List.flatten_cons]
    exact h.append (h.rep k)
end

/-- nothing below is an object that may change -/
def D.flat : D → Bool
  | .non => true
  | .bl _ => true
  | .int _ => true
  | .str _ => true
  | _ => false
theorem Rep.flat {P P' : Wd} {G G' : Hp} {v : V} {d : D} (h : Rep P G v d) (f : d.flat = true) : Rep P' G' v d := by
  cases h with
  | non => exact .non
  | bl => exact .bl _
  | int => exact .int _
  | str => exact .str _
  | _ => cases f

/-! ## what a slot holds: shared data, or a tree of objects that nobody else holds -/
inductive OD where
  | sh (d : D) | lst (xs : List OD) | dic (kvs : List (D × OD)) | obj (c : Str) (fs : List (Str × OD))
mutual
def OD.er : OD → D
  | .sh d => d
  | .lst xs => .lst (OD.erL xs)
  | .dic kvs => .dic (OD.erK kvs)
  | .obj c fs => .obj c (OD.erF fs)
def OD.erL : List OD → List D
  | [] => []
  | x :: xs => x.er :: OD.erL xs
def OD.erK : List (D × OD) → List (D × D)
  | [] => []
  | (k, x) :: xs => (k, x.er) :: OD.erK xs
def OD.erF : List (Str × OD) → List (Str × D)
  | [] => []
  | (k, x) :: xs => (k, x.er) :: OD.erF xs
end
theorem OD.erL_map : ∀ xs : List OD, OD.erL xs = xs.map OD.er
  | [] => rfl
  | x :: xs => by rw [OD.erL, OD.erL_map xs]; rfl
@[simp] theorem OD.er_sh (d : D) : (OD.sh d).er = d := rfl
@[simp] theorem OD.er_lst (xs : List OD) : (OD.lst xs).er = .lst (xs.map OD.er) := by rw [OD.er, OD.erL_map]
theorem OD.map_sh (ds : List D) : (ds.map OD.sh).map OD.er = ds := by rw [List.map_map]; exact (List.map_congr_left fun _ _ => rfl).trans (List.map_id _)
@[simp] theorem OD.er_lst_sh (ds : List D) : (OD.lst (ds.map OD.sh)).er = .lst ds := by rw [OD.er_lst, OD.map_sh]

mutual
inductive RepO (P : Wd) (G H : Hp) : V → OD → List Addr → Prop
  | sh {v : V} {d : D} : Rep P G v d → RepO P G H v (.sh d) []
  | lst {a : Addr} {vs : List V} {xs : List OD} {A : List Addr} : H a = some (.lst vs) → RepOL P G H vs xs A → RepO P G H (.ref a) (.lst xs) (a :: A)
  | dic {a : Addr} {vs : List (Key × V)} {xs : List (D × OD)} {A : List Addr} : H a = some (.dK vs) → RepOK P G H vs xs A → RepO P G H (.ref a) (.dic xs) (a :: A)
  | obj {a C dx : Addr} {c : Str} {vs : List (Str × V)} {xs : List (Str × OD)} {A : List Addr} : P.mg c = some (.ref C) → H a = some (.ins C dx vs) → RepOF P G H vs xs A → RepO P G H (.ref a) (.obj c xs) (a :: A)
inductive RepOL (P : Wd) (G H : Hp) : List V → List OD → List Addr → Prop
  | nil : RepOL P G H [] [] []
  | cons {v : V} {vs : List V} {x : OD} {xs : List OD} {A B : List Addr} : RepO P G H v x A → RepOL P G H vs xs B → RepOL P G H (v :: vs) (x :: xs) (A ++ B)
inductive RepOK (P : Wd) (G H : Hp) : List (Key × V) → List (D × OD) → List Addr → Prop
  | nil : RepOK P G H [] [] []
  | cons {k : Key} {v : V} {vs : List (Key × V)} {x : OD} {xs : List (D × OD)} {A B : List Addr} : RepO P G H v x A → RepOK P G H vs xs B → RepOK P G H ((k, v) :: vs) ((kD k, x) :: xs) (A ++ B)
inductive RepOT (P : Wd) (G H : Hp) : List (List Key × V) → List (D × OD) → List Addr → Prop
  | nil : RepOT P G H [] [] []
  | cons {k : List Key} {v : V} {vs : List (List Key × V)} {x : OD} {xs : List (D × OD)} {A B : List Addr} : RepO P G H v x A → RepOT P G H vs xs B → RepOT P G H ((k, v) :: vs) ((.tup (k.map kD), x) :: xs) (A ++ B)
inductive RepOF (P : Wd) (G H : Hp) : List (Str × V) → List (Str × OD) → List Addr → Prop
  | nil : RepOF P G H [] [] []
  | cons {k : Str} {v : V} {vs : List (Str × V)} {x : OD} {xs : List (Str × OD)} {A B : List Addr} : RepO P G H v x A → RepOF P G H vs xs B → RepOF P G H ((k, v) :: vs) ((k, x) :: xs) (A ++ B)
end
section
variable {P : Wd} {G G' H H' : Hp}
/- the shared part grows, the owned objects stay -/
mutual
theorem RepO.mono (s : Same G G') : ∀ (x : OD) (v : V) (A : List Addr), RepO P G H v x A → (∀ a ∈ A, H' a = H a) → RepO P G' H' v x A
  | .sh d, _, _, h, k => by
    cases h with
    | sh r => exact .sh (r.up s)
  | .lst xs, _, _, h, k => by
    cases h with
    | lst h1 h2 => exact .lst ((k _ List.mem_cons_self).trans h1) (RepOL.mono s xs _ _ h2 fun a ha => k a (List.mem_cons_of_mem _ ha))
  | .dic xs, _, _, h, k => by
    cases h with
    | dic h1 h2 => exact .dic ((k _ List.mem_cons_self).trans h1) (RepOK.mono s xs _ _ h2 fun a ha => k a (List.mem_cons_of_mem _ ha))
  | .obj c xs, _, _, h, k => by
    cases h with
    | obj h0 h1 h2 => exact .obj h0 ((k _ List.mem_cons_self).trans h1) (RepOF.mono s xs _ _ h2 fun a ha => k a (List.mem_cons_of_mem _ ha))
theorem RepOL.mono (s : Same G G') : ∀ (x : List OD) (v : List V) (A : List Addr), RepOL P G H v x A → (∀ a ∈ A, H' a = H a) → RepOL P G' H' v x A
  | [], _, _, h, k => by cases h; exact .nil
  | x :: xs, _, _, h, k => by
    cases h with
    | cons h1 h2 => exact .cons (RepO.mono s x _ _ h1 fun a ha => k a (List.mem_append_left _ ha)) (RepOL.mono s xs _ _ h2 fun a ha => k a (List.mem_append_right _ ha))
theorem RepOK.mono (s : Same G G') : ∀ (x : List (D × OD)) (v : List (Key × V)) (A : List Addr), RepOK P G H v x A → (∀ a ∈ A, H' a = H a) → RepOK P G' H' v x A
  | [], _, _, h, k => by cases h; exact .nil
  | (_, x) :: xs, _, _, h, k => by
    cases h with
    | cons h1 h2 => exact .cons (RepO.mono s x _ _ h1 fun a ha => k a (List.mem_append_left _ ha)) (RepOK.mono s xs _ _ h2 fun a ha => k a (List.mem_append_right _ ha))
theorem RepOT.mono (s : Same G G') : ∀ (x : List (D × OD)) (v : List (List Key × V)) (A : List Addr), RepOT P G H v x A → (∀ a ∈ A, H' a = H a) → RepOT P G' H' v x A
  | [], _, _, h, k => by cases h; exact .nil
  | (_, x) :: xs, _, _, h, k => by
    cases h with
    | cons h1 h2 => exact .cons (RepO.mono s x _ _ h1 fun a ha => k a (List.mem_append_left _ ha)) (RepOT.mono s xs _ _ h2 fun a ha => k a (List.mem_append_right _ ha))
theorem RepOF.mono (s : Same G G') : ∀ (x : List (Str × OD)) (v : List (Str × V)) (A : List Addr), RepOF P G H v x A → (∀ a ∈ A, H' a = H a) → RepOF P G' H' v x A
  | [], _, _, h, k => by cases h; exact .nil
  | (_, x) :: xs, _, _, h, k => by
    cases h with
    | cons h1 h2 => exact .cons (RepO.mono s x _ _ h1 fun a ha => k a (List.mem_append_left _ ha)) (RepOF.mono s xs _ _ h2 fun a ha => k a (List.mem_append_right _ ha))
end
/- given away: what was owned is shared from here on -/
mutual
theorem RepO.rep (s : Same G G') : ∀ (x : OD) (v : V) (A : List Addr), RepO P G H v x A → (∀ a ∈ A, ∀ o, H a = some o → G' a = some o) → Rep P G' v x.er
  | .sh d, _, _, h, k => by
    cases h with
    | sh r => exact r.up s
  | .lst xs, _, _, h, k => by
    cases h with
    | lst h1 h2 => rw [OD.er]; exact .lst (k _ List.mem_cons_self _ h1) (RepOL.rep s xs _ _ h2 fun a ha => k a (List.mem_cons_of_mem _ ha))
  | .dic xs, _, _, h, k => by
    cases h with
    | dic h1 h2 => rw [OD.er]; exact .dic (.inl (k _ List.mem_cons_self _ h1)) (RepOK.rep s xs _ _ h2 fun a ha => k a (List.mem_cons_of_mem _ ha))
  | .obj c xs, _, _, h, k => by
    cases h with
    | obj h0 h1 h2 => rw [OD.er]; exact .obj h0 (k _ List.mem_cons_self _ h1) (RepOF.rep s xs _ _ h2 fun a ha => k a (List.mem_cons_of_mem _ ha))
theorem RepOL.rep (s : Same G G') : ∀ (x : List OD) (v : List V) (A : List Addr), RepOL P G H v x A → (∀ a ∈ A, ∀ o, H a = some o → G' a = some o) → RepL P G' v (OD.erL x)
  | [], _, _, h, k => by cases h; exact .nil
  | x :: xs, _, _, h, k => by
    cases h with
    | cons h1 h2 => rw [OD.erL]; exact .cons (RepO.rep s x _ _ h1 fun a ha => k a (List.mem_append_left _ ha)) (RepOL.rep s xs _ _ h2 fun a ha => k a (List.mem_append_right _ ha))
theorem RepOK.rep (s : Same G G') : ∀ (x : List (D × OD)) (v : List (Key × V)) (A : List Addr), RepOK P G H v x A → (∀ a ∈ A, ∀ o, H a = some o → G' a = some o) → RepK P G' v (OD.erK x)
  | [], _, _, h, k => by cases h; exact .nil
  | (_, x) :: xs, _, _, h, k => by
    cases h with
    | cons h1 h2 => rw [OD.erK]; exact .cons (RepO.rep s x _ _ h1 fun a ha => k a (List.mem_append_left _ ha)) (RepOK.rep s xs _ _ h2 fun a ha => k a (List.mem_append_right _ ha))
theorem RepOT.rep (s : Same G G') : ∀ (x : List (D × OD)) (v : List (List Key × V)) (A : List Addr), RepOT P G H v x A → (∀ a ∈ A, ∀ o, H a = some o → G' a = some o) → RepT P G' v (OD.erK x)
  | [], _, _, h, k => by cases h; exact .nil
  | (_, x) :: xs, _, _, h, k => by
    cases h with
    | cons h1 h2 => rw [OD.erK]; exact .cons (RepO.rep s x _ _ h1 fun a ha => k a (List.mem_append_left _ ha)) (RepOT.rep s xs _ _ h2 fun a ha => k a (List.mem_append_right _ ha))
theorem RepOF.rep (s : Same G G') : ∀ (x : List (Str × OD)) (v : List (Str × V)) (A : List Addr), RepOF P G H v x A → (∀ a ∈ A, ∀ o, H a = some o → G' a = some o) → RepF P G' v (OD.erF x)
  | [], _, _, h, k => by cases h; exact .nil
  | (_, x) :: xs, _, _, h, k => by
    cases h with
    | cons h1 h2 => rw [OD.erF]; exact .cons (RepO.rep s x _ _ h1 fun a ha => k a (List.mem_append_left _ ha)) (RepOF.rep s xs _ _ h2 fun a ha => k a (List.mem_append_right _ ha))
end
/- every owned address is tracked -/
mutual
theorem RepO.there : ∀ (x : OD) (v : V) (A : List Addr), RepO P G H v x A → ∀ a ∈ A, H a ≠ none
  | .sh d, _, _, h, a, ha => by cases h; cases ha
  | .lst xs, _, _, h, a, ha => by
    cases h with
    | lst h1 h2 =>
      rcases List.mem_cons.mp ha with rfl | ha
      · rw [h1]; exact nofun
      · exact RepOL.there xs _ _ h2 a ha
  | .dic xs, _, _, h, a, ha => by
    cases h with
    | dic h1 h2 =>
      rcases List.mem_cons.mp ha with rfl | ha
      · rw [h1]; exact nofun
      · exact RepOK.there xs _ _ h2 a ha
  | .obj c xs, _, _, h, a, ha => by
    cases h with
    | obj h0 h1 h2 =>
      rcases List.mem_cons.mp ha with rfl | ha
      · rw [h1]; exact nofun
      · exact RepOF.there xs _ _ h2 a ha
theorem RepOL.there : ∀ (x : List OD) (v : List V) (A : List Addr), RepOL P G H v x A → ∀ a ∈ A, H a ≠ none
  | [], _, _, h, a, ha => by cases h; cases ha
  | x :: xs, _, _, h, a, ha => by
    cases h with
    | cons h1 h2 =>
      rcases List.mem_append.mp ha with ha | ha
      · exact RepO.there x _ _ h1 a ha
      · exact RepOL.there xs _ _ h2 a ha
theorem RepOK.there : ∀ (x : List (D × OD)) (v : List (Key × V)) (A : List Addr), RepOK P G H v x A → ∀ a ∈ A, H a ≠ none
  | [], _, _, h, a, ha => by cases h; cases ha
  | (_, x) :: xs, _, _, h, a, ha => by
    cases h with
    | cons h1 h2 =>
      rcases List.mem_append.mp ha with ha | ha
      · exact RepO.there x _ _ h1 a ha
      · exact RepOK.there xs _ _ h2 a ha
theorem RepOT.there : ∀ (x : List (D × OD)) (v : List (List Key × V)) (A : List Addr), RepOT P G H v x A → ∀ a ∈ A, H a ≠ none
  | [], _, _, h, a, ha => by cases h; cases ha
  | (_, x) :: xs, _, _, h, a, ha => by
    cases h with
    | cons h1 h2 =>
      rcases List.mem_append.mp ha with ha | ha
      · exact RepO.there x _ _ h1 a ha
      · exact RepOT.there xs _ _ h2 a ha
theorem RepOF.there : ∀ (x : List (Str × OD)) (v : List (Str × V)) (A : List Addr), RepOF P G H v x A → ∀ a ∈ A, H a ≠ none
  | [], _, _, h, a, ha => by cases h; cases ha
  | (_, x) :: xs, _, _, h, a, ha => by
    cases h with
    | cons h1 h2 =>
      rcases List.mem_append.mp ha with ha | ha
      · exact RepO.there x _ _ h1 a ha
      · exact RepOF.there xs _ _ h2 a ha
end
theorem RepOL.sh {vs : List V} {ds : List D} (h : RepL P G vs ds) : RepOL P G H vs (ds.map OD.sh) [] := by
  induction ds generalizing vs with
  | nil => cases h; exact .nil
  | cons d ds ih =>
    cases h with
    | cons h1 h2 => exact .cons (A := []) (.sh h1) (ih h2)
end
end DL
set_option Elab.async false
set_option linter.all false
set_option maxRecDepth 100000
namespace DL
open PySem PySem.Spec PyProof.Rows L2

/-! ## the state -/
/-- what a def's run leans on: hidden addresses O (the callers'), those that it may change A0, the heap at its entry -/
structure Bs where
  P : Wd
  O : Addr → Prop
  A0 : Addr → Prop
  H0 : Hp
abbrev En := List (Option OD)
abbrev Ow := Nat → List Addr
def hid (B : Bs) (As : Ow) (E : List Nat) : Addr → Prop := fun a => B.O a ∨ ∃ i, i ∉ E ∧ a ∈ As i
structure Sta (B : Bs) (σ : L2.St) (H : Hp) (ρ : En) (As : Ow) : Prop where
  len : σ.length = ρ.length
  pt : ∀ (i : Nat) od, ρ[i]? = some (some od) → ∃ v, σ[i]? = some (some v) ∧ RepO B.P (cut H (hid B As [])) H v od (As i)
  nd : ∀ i, (As i).Nodup
  dj : ∀ i j a, a ∈ As i → a ∈ As j → i = j
  ow : ∀ i a, a ∈ As i → B.A0 a ∨ B.H0 a = none
  no : ∀ i a, a ∈ As i → ¬ B.O a
  hs : ∀ i a, a ∈ As i → H a ≠ none
  ob : ∀ a, B.O a → H a ≠ none
  fr : ∀ a o, B.H0 a = some o → ¬ B.A0 a → H a = some o
  th : ∀ a, B.H0 a ≠ none → H a ≠ none
theorem ne_none {H : Hp} {a : Addr} (h : H a ≠ none) : ∃ o, H a = some o := by
  cases e : H a with
  | none => exact absurd e h
  | some o => exact ⟨o, rfl⟩
theorem same_ne {H H' : Hp} (s : Same H H') {a : Addr} (h : H a ≠ none) : H' a ≠ none := by
  obtain ⟨o, e⟩ := ne_none h
  rw [s _ _ e]; exact nofun
section
variable {B : Bs} {σ : L2.St} {H H' : Hp} {ρ : En} {As : Ow} {E E' : List Nat}
theorem Sta.same (S : Sta B σ H ρ As) (s : Same H H') : Sta B σ H' ρ As where
  len := S.len
  pt := fun i od e => by
    obtain ⟨v, e1, r⟩ := S.pt i od e
    refine ⟨v, e1, RepO.mono (cut_mono s fun _ z => z) _ _ _ r fun a ha => ?_⟩
    obtain ⟨o, e⟩ := ne_none (S.hs i a ha)
    rw [e, s _ _ e]
  nd := S.nd
  dj := S.dj
  ow := S.ow
  no := S.no
  hs := fun i a h => same_ne s (S.hs i a h)
  ob := fun a h => same_ne s (S.ob a h)
  fr := fun a o e h => s _ _ (S.fr a o e h)
  th := fun a h => same_ne s (S.th a h)
theorem hid_mono (h : ∀ i ∈ E, i ∈ E') : ∀ a, hid B As E' a → hid B As E a := fun a z => z.imp id fun ⟨i, h1, h2⟩ => ⟨i, fun q => h1 (h i q), h2⟩
theorem Sta.hth (S : Sta B σ H ρ As) : ∀ a, hid B As E a → H a ≠ none := fun a h => by
  rcases h with h | ⟨i, _, h⟩
  · exact S.ob a h
  · exact S.hs i a h
end

/-! ## readings -/
def R.go {α : Type} (r : R α) (k : α → Prop) (e : Str → List (Str × D) → Prop) : Prop := match r with
  | .ok a => k a
  | .ex c fs => e c fs
  | .st => False
/-- an exception's way out -/
def Exk (B : Bs) (W : WX) (σ : L2.St) (H : Hp) (c : Str) (fs : List (Str × D)) : Prop := ∀ C dx vfs H', Same H H' → H dx = none → B.P.mg c = some (.ref C) → H' dx = some (.xd vfs) → ExF vfs fs → W (.ref C) (some dx) σ H'
theorem Exk.same {B : Bs} {W : WX} {σ : L2.St} {H H1 : Hp} {c : Str} {fs : List (Str × D)} (h : Exk B W σ H c fs) (s : Same H H1) : Exk B W σ H1 c fs := fun C dx vfs H' s' n m x f => h C dx vfs H' (s.trans s') (s.free n) m x f
/-- an expression: what it gives is told by the slots' data -/
def tD (B : Bs) (W : WX) (E : List Nat) (f : En → R D) : TE := fun σ H Q => ∃ ρ As, Sta B σ H ρ As ∧
  (f ρ).go (fun d => ∀ v H', Same H H' → Rep B.P (cut H' (hid B As E)) v d → Q v H') (Exk B W σ H)
/-- the same for a new list (dict, object) that nobody else holds -/
def tF (B : Bs) (W : WX) (E : List Nat) (f : En → R OD) : TE := fun σ H Q => ∃ ρ As, Sta B σ H ρ As ∧
  (f ρ).go (fun d => ∀ v A H', Same H H' → A.Nodup → (∀ a ∈ A, H a = none) → RepO B.P (cut H' (fun a => hid B As E a ∨ a ∈ A)) H' v d A → Q v H') (Exk B W σ H)
def tT (B : Bs) (W : WX) (f : En → R Bool) : TT := fun σ H Q => ∃ ρ As, Sta B σ H ρ As ∧
  (f ρ).go (fun b => ∀ H', Same H H' → Q b H') (Exk B W σ H)
def tA (B : Bs) (W : WX) (E : List Nat) (f : En → R (List D)) : TA := fun σ H Q => ∃ ρ As, Sta B σ H ρ As ∧
  (f ρ).go (fun d => ∀ v H', Same H H' → RepL B.P (cut H' (hid B As E)) v d → Q v H') (Exk B W σ H)
section
variable {B : Bs} {W : WX} {E : List Nat} {σ : L2.St} {H : Hp} {ρ : En} {As : Ow}
theorem tD_bind {β : Type} {f : En → R D} {k : D → R β} {KO : β → Prop} {T : VK} (S : Sta B σ H ρ As) (h : ((f ρ).bind k).go KO (Exk B W σ H))
    (hk : ∀ d v H1, Same H H1 → Sta B σ H1 ρ As → Rep B.P (cut H1 (hid B As E)) v d → (k d).go KO (Exk B W σ H1) → T v H1) : tD B W E f σ H T := by
  refine ⟨ρ, As, S, ?_⟩
  cases e : f ρ with
  | ok d =>
    rw [e] at h
    intro v H1 s r
    refine hk d v H1 s (S.same s) r ?_
    revert h
    rw [R.bind_ok]
    cases k d with
    | ok b => exact fun z => z
    | ex c fs => exact fun z => Exk.same z s
    | st => exact fun z => z
  | ex c fs => rw [e] at h; exact h
  | st => rw [e] at h; exact h
theorem tT_bind {β : Type} {f : En → R Bool} {k : Bool → R β} {KO : β → Prop} {T : Bool → Hp → Prop} (S : Sta B σ H ρ As) (h : ((f ρ).bind k).go KO (Exk B W σ H))
    (hk : ∀ d H1, Same H H1 → Sta B σ H1 ρ As → (k d).go KO (Exk B W σ H1) → T d H1) : tT B W f σ H T := by
  refine ⟨ρ, As, S, ?_⟩
  cases e : f ρ with
  | ok d =>
    rw [e] at h
    intro H1 s
    refine hk d H1 s (S.same s) ?_
    revert h
    rw [R.bind_ok]
    cases k d with
    | ok b => exact fun z => z
    | ex c fs => exact fun z => Exk.same z s
    | st => exact fun z => z
  | ex c fs => rw [e] at h; exact h
  | st => rw [e] at h; exact h
theorem tA_bind {β : Type} {f : En → R (List D)} {k : List D → R β} {KO : β → Prop} {T : List V → Hp → Prop} (S : Sta B σ H ρ As) (h : ((f ρ).bind k).go KO (Exk B W σ H))
    (hk : ∀ d v H1, Same H H1 → Sta B σ H1 ρ As → RepL B.P (cut H1 (hid B As E)) v d → (k d).go KO (Exk B W σ H1) → T v H1) : tA B W E f σ H T := by
  refine ⟨ρ, As, S, ?_⟩
  cases e : f ρ with
  | ok d =>
    rw [e] at h
    intro v H1 s r
    refine hk d v H1 s (S.same s) r ?_
    revert h
    rw [R.bind_ok]
    cases k d with
    | ok b => exact fun z => z
    | ex c fs => exact fun z => Exk.same z s
    | st => exact fun z => z
  | ex c fs => rw [e] at h; exact h
  | st => rw [e] at h; exact h
end
section
variable {X : Cx} {e : Expr}
theorem _root_.L2.PE.imp {t t' : TE} (h : PE X e t) (i : ∀ σ H Q, t' σ H Q → t σ H Q) : PE X e t' := ⟨fun p s σ H Q I q => h.run p s σ H Q I (i σ H Q q)⟩
theorem _root_.L2.PT.imp {t t' : TT} (h : PT X e t) (i : ∀ σ H Q, t' σ H Q → t σ H Q) : PT X e t' := ⟨fun p s σ H Q I q => h.run p s σ H Q I (i σ H Q q)⟩
theorem _root_.L2.PW.imp {t t' : TT} (h : PW X e t) (i : ∀ σ H Q, t' σ H Q → t σ H Q) : PW X e t' := ⟨fun w p s σ H Q I q => h.run w p s σ H Q I (i σ H Q q)⟩
theorem _root_.L2.PA.imp {es : List Expr} {t t' : TA} (h : PA X es t) (i : ∀ σ H Q, t' σ H Q → t σ H Q) : PA X es t' := ⟨fun pos p s σ H Q I q => h.run pos p s σ H Q I (i σ H Q q)⟩
theorem _root_.L2.PS.imp {st : Stmt} {t t' : TS} (h : PS X st t) (i : ∀ D σ H, t' D σ H → t D σ H) : PS X st t' := ⟨fun p s σ H D I q => h.run p s σ H D I (i D σ H q)⟩
theorem _root_.L2.PSs.imp {st : List Stmt} {t t' : TS} (h : PSs X st t) (i : ∀ D σ H, t' D σ H → t D σ H) : PSs X st t' := ⟨fun p s σ H D I q => h.run p s σ H D I (i D σ H q)⟩
end

/-! ## combinators of data -/
def var (i : Nat) : En → R D := fun ρ => match ρ[i]? with
  | some (some od) => .ok od.er
  | _ => .st
def con (d : D) : En → R D := fun _ => .ok d
def op1 (g : D → Option D) (f : En → R D) : En → R D := fun ρ => (f ρ).bind fun a => .ofO (g a)
def op2 (g : D → D → Option D) (f1 f2 : En → R D) : En → R D := fun ρ => (f1 ρ).bind fun a => (f2 ρ).bind fun b => .ofO (g a b)
def op3 (g : D → D → D → Option D) (f1 f2 f3 : En → R D) : En → R D := fun ρ => (f1 ρ).bind fun a => (f2 ρ).bind fun b => (f3 ρ).bind fun c => .ofO (g a b c)
def aNil : En → R (List D) := fun _ => .ok []
def aCons (f : En → R D) (g : En → R (List D)) : En → R (List D) := fun ρ => (f ρ).bind fun a => (g ρ).bind fun as => .ok (a :: as)
def opA (g : List D → Option D) (f : En → R (List D)) : En → R D := fun ρ => (f ρ).bind fun a => .ofO (g a)
def ifE (t : En → R Bool) (f g : En → R D) : En → R D := fun ρ => (t ρ).bind fun b => if b then f ρ else g ρ
def asB : D → Option Bool
  | .bl b => some b
  | _ => none
def tst (f : En → R D) : En → R Bool := fun ρ => (f ρ).bind fun d => .ofO (asB d)
def andT (f g : En → R Bool) : En → R Bool := fun ρ => (f ρ).bind fun b => if b then g ρ else .ok false
def orT (f g : En → R Bool) : En → R Bool := fun ρ => (f ρ).bind fun b => if b then .ok true else g ρ
def notT (f : En → R Bool) : En → R Bool := fun ρ => (f ρ).bind fun b => .ok (!b)
def andV (f g : En → R D) : En → R D := fun ρ => (f ρ).bind fun d => (R.ofO (asB d)).bind fun b => if b then g ρ else .ok (.bl false)
def orV (f g : En → R D) : En → R D := fun ρ => (f ρ).bind fun d => (R.ofO (asB d)).bind fun b => if b then .ok (.bl true) else g ρ
def notV (f : En → R D) : En → R D := fun ρ => (f ρ).bind fun d => (R.ofO (asB d)).bind fun b => .ok (.bl (!b))

/-! ## adequacy of an operation on values -/
def Ad1 (P : Wd) (r : V → Hp → VK → Prop) (g : D → Option D) : Prop := ∀ (p : Addr → Prop) (H : Hp) (x : V) (a d : D) (Q : VK), (∀ a, p a → H a ≠ none) → Rep P (cut H p) x a → g a = some d → (∀ v H', Same H H' → Rep P (cut H' p) v d → Q v H') → r x H Q
def Ad2 (P : Wd) (r : R2) (g : D → D → Option D) : Prop := ∀ (p : Addr → Prop) (H : Hp) (x y : V) (a b d : D) (Q : VK), (∀ a, p a → H a ≠ none) → Rep P (cut H p) x a → Rep P (cut H p) y b → g a b = some d → (∀ v H', Same H H' → Rep P (cut H' p) v d → Q v H') → r x y H Q
def AdA (P : Wd) (r : List V → Hp → VK → Prop) (g : List D → Option D) : Prop := ∀ (p : Addr → Prop) (H : Hp) (x : List V) (a : List D) (d : D) (Q : VK), (∀ a, p a → H a ≠ none) → RepL P (cut H p) x a → g a = some d → (∀ v H', Same H H' → Rep P (cut H' p) v d → Q v H') → r x H Q
theorem Ad2.or {P : Wd} {r r' : R2} {g g' : D → D → Option D} (h : Ad2 P r g) (h' : Ad2 P r' g') : Ad2 P (fun x y H Q => r x y H Q ∨ r' x y H Q) (fun a b => (g a b).or (g' a b)) := fun p H x y a b d Q hp r1 r2 e q => by
  have e : (g a b).or (g' a b) = some d := e
  cases e1 : g a b with
  | some z =>
    rw [e1] at e
    exact .inl (h p H x y a b d Q hp r1 r2 (e1.trans e) q)
  | none =>
    rw [e1] at e
    exact .inr (h' p H x y a b d Q hp r1 r2 e q)
theorem Ad2.imp {P : Wd} {r : R2} {g g' : D → D → Option D} (h : Ad2 P r g) (e : ∀ a b d, g' a b = some d → g a b = some d) : Ad2 P r g' := fun p H x y a b d Q hp r1 r2 e1 q => h p H x y a b d Q hp r1 r2 (e a b d e1) q
def Flat2 (g : D → D → Option D) : Prop := ∀ a b d, g a b = some d → d.flat = true
def Flat1 (g : D → Option D) : Prop := ∀ a d, g a = some d → d.flat = true
def FlatA (g : List D → Option D) : Prop := ∀ a d, g a = some d → d.flat = true

section
variable {B : Bs} {W : WX} {E E1 E2 : List Nat} {f f1 f2 : En → R D}
theorem imp_op2 {r : R2} {g : D → D → Option D} (hg : Ad2 B.P r g) {σ : L2.St} {H : Hp} {Q : VK} (h : tD B W (E1 ++ E2) (op2 g f1 f2) σ H Q) : tOp r (tD B W E1 f1) (tD B W E2 f2) σ H Q := by
  obtain ⟨ρ, As, S, h⟩ := h
  refine tD_bind S h fun a v H1 s1 S1 r1 h1 => ?_
  refine tD_bind S1 h1 fun b u H2 s2 S2 r2 h2 => ?_
  cases e : g a b with
  | none => rw [e] at h2; exact h2.elim
  | some d =>
    rw [e] at h2
    refine hg (hid B As (E1 ++ E2)) H2 v u a b d Q S2.hth (r1.up (cut_mono s2 (hid_mono fun i hi => List.mem_append_left _ hi))) (r2.up (cut_mono (Same.refl _) (hid_mono fun i hi => List.mem_append_right _ hi))) e fun w H3 s3 r3 => ?_
    exact h2 w H3 ((s1.trans s2).trans s3) r3
theorem imp_op2F {r : R2} {g : D → D → Option D} (hg : Ad2 B.P r g) (hf : Flat2 g) {σ : L2.St} {H : Hp} {Q : VK} (h : tD B W [] (op2 g f1 f2) σ H Q) : tOp r (tD B W E1 f1) (tD B W E2 f2) σ H Q := by
  obtain ⟨ρ, As, S, h⟩ := h
  refine imp_op2 hg ⟨ρ, As, S, ?_⟩
  unfold op2 at h ⊢
  cases e1 : f1 ρ with
  | st => rw [e1] at h; exact h
  | ex c fs => rw [e1] at h; exact h
  | ok a =>
    rw [e1, R.bind_ok] at h
    rw [R.bind_ok]
    cases e2 : f2 ρ with
    | st => rw [e2] at h; exact h
    | ex c fs => rw [e2] at h; exact h
    | ok b =>
      rw [e2, R.bind_ok] at h
      rw [R.bind_ok]
      cases e : g a b with
      | none => rw [e] at h; exact h
      | some d =>
        rw [e] at h
        exact fun v H' s r => h v H' s (r.flat (hf a b d e))
theorem imp_op1 {r : V → Hp → VK → Prop} {g : D → Option D} (hg : Ad1 B.P r g) {σ : L2.St} {H : Hp} {Q : VK} (h : tD B W E (op1 g f) σ H Q) : tUn r (tD B W E f) σ H Q := by
  obtain ⟨ρ, As, S, h⟩ := h
  refine tD_bind S h fun a v H1 s1 S1 r1 h1 => ?_
  cases e : g a with
  | none => rw [e] at h1; exact h1.elim
  | some d =>
    rw [e] at h1
    exact hg (hid B As E) H1 v a d Q S1.hth r1 e fun w H3 s3 r3 => h1 w H3 (s1.trans s3) r3
theorem imp_opA {r : List V → Hp → VK → Prop} {g : List D → Option D} {fa : En → R (List D)} (hg : AdA B.P r g) {σ : L2.St} {H : Hp} {Q : VK} (h : tD B W E (opA g fa) σ H Q) : tA B W E fa σ H (fun x H1 => r x H1 Q) := by
  obtain ⟨ρ, As, S, h⟩ := h
  refine tA_bind S h fun a v H1 s1 S1 r1 h1 => ?_
  cases e : g a with
  | none => rw [e] at h1; exact h1.elim
  | some d =>
    rw [e] at h1
    exact hg (hid B As E) H1 v a d Q S1.hth r1 e fun w H3 s3 r3 => h1 w H3 (s1.trans s3) r3
/-- a flat value may be told of with nothing left visible -/
theorem tD_flat {E : List Nat} (hf : ∀ ρ d, f ρ = .ok d → d.flat = true) {σ : L2.St} {H : Hp} {Q : VK} (h : tD B W [] f σ H Q) : tD B W E f σ H Q := by
  obtain ⟨ρ, As, S, h⟩ := h
  refine ⟨ρ, As, S, ?_⟩
  cases e : f ρ with
  | ok d =>
    rw [e] at h
    exact fun v H' s r => h v H' s (r.flat (hf ρ d e))
  | ex c fs => rw [e] at h; exact h
  | st => rw [e] at h; exact h
theorem tD_mono {E E' : List Nat} (hE : ∀ i ∈ E, i ∈ E') {σ : L2.St} {H : Hp} {Q : VK} (h : tD B W E' f σ H Q) : tD B W E f σ H Q := by
  obtain ⟨ρ, As, S, h⟩ := h
  refine ⟨ρ, As, S, ?_⟩
  cases e : f ρ with
  | ok d =>
    rw [e] at h
    exact fun v H' s r => h v H' s (r.up (cut_mono (Same.refl _) (hid_mono hE)))
  | ex c fs => rw [e] at h; exact h
  | st => rw [e] at h; exact h
end

/-! ## expressions -/
section
variable {X : Cx} {B : Bs} {W : WX} {E E1 E2 : List Nat} {f f1 f2 f3 : En → R D} {ft ft2 : En → R Bool} {fa : En → R (List D)} {e e1 e2 e3 : Expr} {es : List Expr} {pos : Pos}
theorem d_var (i : Nat) {x : Str} (h : PE X (.Name x pos) (tVar i)) : PE X (.Name x pos) (tD B W [i] (var i)) := h.imp fun σ H Q ⟨ρ, As, S, h⟩ => by
  unfold var at h
  split at h
  · rename_i od e
    obtain ⟨v, e1, r⟩ := S.pt i od e
    refine ⟨v, e1, h v H (Same.refl _) ?_⟩
    refine RepO.rep (cut_mono (Same.refl _) (hid_mono fun i hi => absurd hi List.not_mem_nil)) _ _ _ r fun a ha o eo => cut_of ?_ eo
    rintro (z | ⟨j, hj, z⟩)
    · exact S.no i a ha z
    · have := S.dj i j a ha z
      exact hj (by rw [this]; exact List.mem_cons_self)
  · exact h.elim
theorem d_con {v : V} {d : D} (h : PE X e (tC v)) (r : ∀ G, Rep B.P G v d) : PE X e (tD B W [] (con d)) := h.imp fun σ H Q ⟨ρ, As, S, h⟩ => h v H (Same.refl _) (r _)
theorem d_int {i : Int} {j : Nat} : PE X (.Constant (.int i) j pos) (tD B W [] (con (.int i))) := d_con pe_int fun _ => .int _
theorem d_bl {b : Bool} {j : Nat} : PE X (.Constant (.bool b) j pos) (tD B W [] (con (.bl b))) := d_con pe_bl fun _ => .bl _
theorem d_non {j : Nat} : PE X (.Constant .none j pos) (tD B W [] (con .non)) := d_con pe_non fun _ => .non
theorem rep_str {P : Wd} {G : Hp} {x : Str} {cs : List Nat} (h : x.cps.toList = cs) : Rep P G (.str x) (.str cs) := by subst h; exact .str x
theorem d_str {x : Str} {j : Nat} (cs : List Nat) (h : x.cps.toList = cs) : PE X (.Constant (.str x) j pos) (tD B W [] (con (.str cs))) := d_con pe_str fun _ => rep_str h
theorem d_op {op : Operator} {r : R2} {g : D → D → Option D} (ho : OpR X (binaryOp op) r) (hg : Ad2 B.P r g) (h1 : PE X e1 (tD B W E1 f1)) (h2 : PE X e2 (tD B W E2 f2)) : PE X (.BinOp e1 op e2 pos) (tD B W (E1 ++ E2) (op2 g f1 f2)) :=
  (pe_op ho h1 h2).imp fun _ _ _ => imp_op2 hg
theorem d_opF {op : Operator} {r : R2} {g : D → D → Option D} (ho : OpR X (binaryOp op) r) (hg : Ad2 B.P r g) (hf : Flat2 g) (h1 : PE X e1 (tD B W E1 f1)) (h2 : PE X e2 (tD B W E2 f2)) : PE X (.BinOp e1 op e2 pos) (tD B W [] (op2 g f1 f2)) :=
  (pe_op ho h1 h2).imp fun _ _ _ => imp_op2F hg hf
theorem d_un {op : UnaryOp} {r : V → Hp → VK → Prop} {g : D → Option D} (ho : UnR X (unaryOp op) r) (hg : Ad1 B.P r g) (h1 : PE X e1 (tD B W E1 f1)) : PE X (.UnaryOp op e1 pos) (tD B W E1 (op1 g f1)) :=
  (pe_un ho h1).imp fun _ _ _ => imp_op1 hg
theorem d_cmp {op : CmpOp} {r : R2} {g : D → D → Option D} (ho : OpR X (compareOp op) r) (hg : Ad2 B.P r g) (hf : Flat2 g) (h1 : PE X e1 (tD B W E1 f1)) (h2 : PE X e2 (tD B W E2 f2)) (hm : behindInMarks op e2 = false) : PE X (.Compare e1 [op] [e2] pos) (tD B W [] (op2 g f1 f2)) :=
  (pe_cmpR ho h1 h2 hm).imp fun _ _ _ => imp_op2F hg hf
theorem imp_tst {t : TE} (h : ∀ σ H Q, tD B W E f σ H Q → t σ H Q) {σ : L2.St} {H : Hp} {Q : Bool → Hp → Prop} (q : tT B W (tst f) σ H Q) : t σ H fun x H' => ∃ k, x = .bl k ∧ Q k H' := by
  obtain ⟨ρ, As, S, q⟩ := q
  refine h _ _ _ (tD_bind S q fun d v H1 s1 S1 r1 h1 => ?_)
  cases d with
  | bl b => cases r1; exact ⟨b, rfl, h1 H1 s1⟩
  | _ => exact h1.elim
theorem tT_same {ft : En → R Bool} {σ : L2.St} {H : Hp} {Q : Bool → Hp → Prop} (q : tT B W ft σ H Q) : tT B W ft σ H Q := q
theorem d_tcmp {op : CmpOp} {r : R2} {g : D → D → Option D} (ho : OpR X (compareOp op) r) (hg : Ad2 B.P r g) (hf : Flat2 g) (h1 : PE X e1 (tD B W E1 f1)) (h2 : PE X e2 (tD B W E2 f2)) (hm : behindInMarks op e2 = false) : PT X (.Compare e1 [op] [e2] pos) (tT B W (tst (op2 g f1 f2))) :=
  (pt_cmpR ho h1 h2 hm).imp fun _ _ _ q => imp_tst (fun _ _ _ => imp_op2F hg hf) q
theorem d_tval (h : PE X e (tD B W E f)) (he : ∀ whole, isTrue e X.env whole = (do let v ← whole; standAt e.pos; holding [v] (truthy v)) := by intro _; rfl) : PT X e (tT B W (tst f)) :=
  (pt_val h he).imp fun _ _ _ q => imp_tst (fun _ _ _ z => z) q
theorem d_and {rest : List Expr} (h1 : PT X e1 (tT B W ft)) (h2 : PW X (.BoolOp .And (e2 :: rest) pos) (tT B W ft2)) : PW X (.BoolOp .And (e1 :: e2 :: rest) pos) (tT B W (andT ft ft2)) :=
  (pw_and h1 h2).imp fun σ H Q ⟨ρ, As, S, q⟩ => tT_bind S q fun b H1 s1 S1 q1 => by
    cases b with
    | true => exact ⟨ρ, As, S1, by
        revert q1
        show (ft2 ρ).go _ _ → (ft2 ρ).go _ _
        cases ft2 ρ with
        | ok b => exact fun z H' s' => z H' (s1.trans s')
        | ex c fs => exact fun z => z
        | st => exact fun z => z⟩
    | false => exact q1 H1 s1
theorem d_or {rest : List Expr} (h1 : PT X e1 (tT B W ft)) (h2 : PW X (.BoolOp .Or (e2 :: rest) pos) (tT B W ft2)) : PW X (.BoolOp .Or (e1 :: e2 :: rest) pos) (tT B W (orT ft ft2)) :=
  (pw_or h1 h2).imp fun σ H Q ⟨ρ, As, S, q⟩ => tT_bind S q fun b H1 s1 S1 q1 => by
    cases b with
    | false => exact ⟨ρ, As, S1, by
        revert q1
        show (ft2 ρ).go _ _ → (ft2 ρ).go _ _
        cases ft2 ρ with
        | ok b => exact fun z H' s' => z H' (s1.trans s')
        | ex c fs => exact fun z => z
        | st => exact fun z => z⟩
    | true => exact q1 H1 s1
theorem d_not (h1 : PT X e1 (tT B W ft)) : PT X (.UnaryOp .Not e1 pos) (tT B W (notT ft)) :=
  (pt_not h1).imp fun σ H Q ⟨ρ, As, S, q⟩ => tT_bind S q fun b H1 s1 S1 q1 => q1 H1 s1
theorem imp_same {k : R D} {H H1 : Hp} {σ : L2.St} {As : Ow} {Q : VK} (s : Same H H1) (h : k.go (fun d => ∀ v H', Same H H' → Rep B.P (cut H' (hid B As E)) v d → Q v H') (Exk B W σ H1)) : k.go (fun d => ∀ v H', Same H1 H' → Rep B.P (cut H' (hid B As E)) v d → Q v H') (Exk B W σ H1) := by
  cases k with
  | ok d => exact fun v H' s' r => h v H' (s.trans s') r
  | ex c fs => exact h
  | st => exact h
theorem d_andV {rest : List Expr} (h1 : PE X e1 (tD B W E1 f1)) (h2 : PE X (.BoolOp .And (e2 :: rest) pos) (tD B W [] f2)) : PE X (.BoolOp .And (e1 :: e2 :: rest) pos) (tD B W [] (andV f1 f2)) :=
  (pe_and h1 h2).imp fun σ H Q ⟨ρ, As, S, q⟩ => tD_bind S q fun d v H1 s1 S1 r1 q1 => by
    cases d with
    | bl b =>
      cases r1
      refine ⟨b, rfl, ?_⟩
      cases b with
      | true => exact ⟨ρ, As, S1, imp_same s1 q1⟩
      | false => exact q1 _ H1 s1 (.bl _)
    | _ => exact q1.elim
theorem d_orV {rest : List Expr} (h1 : PE X e1 (tD B W E1 f1)) (h2 : PE X (.BoolOp .Or (e2 :: rest) pos) (tD B W [] f2)) : PE X (.BoolOp .Or (e1 :: e2 :: rest) pos) (tD B W [] (orV f1 f2)) :=
  (pe_or h1 h2).imp fun σ H Q ⟨ρ, As, S, q⟩ => tD_bind S q fun d v H1 s1 S1 r1 q1 => by
    cases d with
    | bl b =>
      cases r1
      refine ⟨b, rfl, ?_⟩
      cases b with
      | false => exact ⟨ρ, As, S1, imp_same s1 q1⟩
      | true => exact q1 _ H1 s1 (.bl _)
    | _ => exact q1.elim
theorem d_oneV {op : BoolOp} (h1 : PE X e1 (tD B W E1 f1)) (hf : ∀ ρ d, f1 ρ = .ok d → d.flat = true) : PE X (.BoolOp op [e1] pos) (tD B W [] f1) := (pe_one h1).imp fun _ _ _ q => tD_flat hf q
theorem d_notV (h1 : PE X e1 (tD B W E1 f1)) : PE X (.UnaryOp .Not e1 pos) (tD B W [] (notV f1)) :=
  (pe_not h1).imp fun σ H Q ⟨ρ, As, S, q⟩ => tD_bind S q fun d v H1 s1 S1 r1 q1 => by
    cases d with
    | bl b => cases r1; exact ⟨b, rfl, q1 _ H1 s1 (.bl _)⟩
    | _ => exact q1.elim
theorem d_ife {c : Expr} (hc : PT X c (tT B W ft)) (h1 : PE X e1 (tD B W E1 f1)) (h2 : PE X e2 (tD B W E2 f2)) : PE X (.IfExp c e1 e2 pos) (tD B W (E1 ++ E2) (ifE ft f1 f2)) :=
  (pe_ifExp hc h1 h2).imp fun σ H Q ⟨ρ, As, S, q⟩ => tT_bind S q fun b H1 s1 S1 q1 => by
    cases b with
    | true => exact tD_mono (fun i hi => List.mem_append_left _ hi) ⟨ρ, As, S1, imp_same s1 q1⟩
    | false => exact tD_mono (fun i hi => List.mem_append_right _ hi) ⟨ρ, As, S1, imp_same s1 q1⟩
theorem d_anil : PA X [] (tA B W [] aNil) := pa_nil.imp fun σ H Q ⟨ρ, As, S, q⟩ => q [] H (Same.refl _) .nil
theorem d_acons (h1 : PE X e (tD B W E1 f)) (h2 : PA X es (tA B W E2 fa)) (hs : starEach (e :: es) X.env = (false, eval e X.env) :: starEach es X.env := by rfl) : PA X (e :: es) (tA B W (E1 ++ E2) (aCons f fa)) :=
  (pa_cons h1 h2 hs).imp fun σ H Q ⟨ρ, As, S, q⟩ => tD_bind S q fun d v H1 s1 S1 r1 q1 => tA_bind S1 q1 fun ds vs H2 s2 S2 r2 q2 =>
    q2 _ _ (s1.trans s2) (.cons (r1.up (cut_mono s2 (hid_mono fun i hi => List.mem_append_left _ hi))) (r2.up (cut_mono (Same.refl _) (hid_mono fun i hi => List.mem_append_right _ hi))))
end
end DL
set_option Elab.async false
set_option linter.all false
set_option maxRecDepth 100000
namespace DL
open PySem PySem.Spec PyProof.Rows L2

/-! ## statements -/
inductive Out where
  | nx (ρ : En) | rt (od : OD) (ρ : En) | ex (c : Str) (fs : List (Str × D)) (ρ : En) | bk (ρ : En) | ct (ρ : En) | st
/-- what a statement leaves: slots outside of M, addresses owned elsewhere -/
structure Kp (M : List Nat) (σ : L2.St) (H : Hp) (As : Ow) (σ' : L2.St) (H' : Hp) (As' : Ow) : Prop where
  k0 : σ'.length = σ.length
  k1 : ∀ i, i ∉ M → σ'[i]? = σ[i]?
  k2 : ∀ j a, a ∈ As' j → a ∈ As j ∨ H a = none ∨ ∃ k, k ∈ M ∧ a ∈ As k
  k3 : ∀ a o, H a = some o → (∀ i, i ∈ M → a ∉ As i) → H' a = some o
  k4 : ∀ a, H a ≠ none → H' a ≠ none
theorem Kp.refl {M : List Nat} {σ : L2.St} {H H' : Hp} {As : Ow} (s : Same H H') : Kp M σ H As σ H' As := ⟨rfl, fun _ _ => rfl, fun _ _ h => .inl h, fun a o e _ => s a o e, fun a h => same_ne s h⟩
theorem Kp.mono {M M' : List Nat} {σ σ' : L2.St} {H H' : Hp} {As As' : Ow} (k : Kp M σ H As σ' H' As') (h : ∀ i ∈ M, i ∈ M') : Kp M' σ H As σ' H' As' :=
  ⟨k.k0, fun i hi => k.k1 i fun z => hi (h i z), fun j a z => (k.k2 j a z).imp id fun z => z.imp id fun ⟨m, hm, z⟩ => ⟨m, h m hm, z⟩, fun a o e z => k.k3 a o e fun i hi => z i (h i hi), k.k4⟩
theorem Kp.trans {M M' : List Nat} {σ σ1 σ2 : L2.St} {H H1 H2 : Hp} {As A1 A2 : Ow} (a : Kp M σ H As σ1 H1 A1) (b : Kp M' σ1 H1 A1 σ2 H2 A2) : Kp (M ++ M') σ H As σ2 H2 A2 where
  k0 := b.k0.trans a.k0
  k1 := fun i hi => (b.k1 i fun z => hi (List.mem_append_right _ z)).trans (a.k1 i fun z => hi (List.mem_append_left _ z))
  k2 := fun j x h => by
    rcases b.k2 j x h with h | h | ⟨m, hm, h⟩
    · rcases a.k2 j x h with h | h | ⟨m, hm, h⟩
      · exact .inl h
      · exact .inr (.inl h)
      · exact .inr (.inr ⟨m, List.mem_append_left _ hm, h⟩)
    · right; left
      cases e : H x with
      | none => rfl
      | some o => exact absurd h (a.k4 x (by rw [e]; exact nofun))
    · rcases a.k2 m x h with h | h | ⟨m', hm', h⟩
      · exact .inr (.inr ⟨m, List.mem_append_right _ hm, h⟩)
      · exact .inr (.inl h)
      · exact .inr (.inr ⟨m', List.mem_append_left _ hm', h⟩)
  k3 := fun x o e z => b.k3 x o (a.k3 x o e fun i hi => z i (List.mem_append_left _ hi)) fun i hi w => by
    rcases a.k2 i x w with w | w | ⟨m, hm, w⟩
    · exact z i (List.mem_append_right _ hi) w
    · rw [e] at w; cases w
    · exact z m (List.mem_append_left _ hm) w
  k4 := fun x h => b.k4 x (a.k4 x h)
/-- an exception of a statement -/
def Exs (B : Bs) (W : WX) (M : List Nat) (σ : L2.St) (H : Hp) (As : Ow) (c : Str) (fs : List (Str × D)) (ρ' : En) : Prop :=
  ∀ C dx vfs σ' H' As', Sta B σ' H' ρ' As' → Kp M σ H As σ' H' As' → H dx = none → B.P.mg c = some (.ref C) → H' dx = some (.xd vfs) → (∀ i, dx ∉ As' i) → ExF vfs fs → W (.ref C) (some dx) σ' H'
def Out.go (B : Bs) (W : WX) (M : List Nat) (σ : L2.St) (H : Hp) (As : Ow) (D : Ends) : Out → Prop
  | .nx ρ' => ∀ σ' H' As', Sta B σ' H' ρ' As' → Kp M σ H As σ' H' As' → D.nx σ' H'
  | .bk ρ' => ∀ σ' H' As', Sta B σ' H' ρ' As' → Kp M σ H As σ' H' As' → D.bk σ' H'
  | .ct ρ' => ∀ σ' H' As', Sta B σ' H' ρ' As' → Kp M σ H As σ' H' As' → D.ct σ' H'
  | .rt od ρ' => ∀ v A σ' H' As', Sta B σ' H' ρ' As' → Kp M σ H As σ' H' As' → A.Nodup → (∀ a ∈ A, B.H0 a = none) → (∀ a ∈ A, ∀ i, a ∉ As' i) → RepO B.P (cut H' (fun a => hid B As' [] a ∨ a ∈ A)) H' v od A → D.rt v H'
  | .ex c fs ρ' => Exs B W M σ H As c fs ρ'
  | .st => False
def tS (B : Bs) (W : WX) (M : List Nat) (s : En → Out) : TS := fun D σ H => ∃ ρ As, Sta B σ H ρ As ∧ (s ρ).go B W M σ H As D
def Out.bind (o : Out) (k : En → Out) : Out := match o with
  | .nx ρ => k ρ
  | o => o
@[simp] theorem Out.bind_nx (ρ : En) (k : En → Out) : (Out.nx ρ).bind k = k ρ := rfl
@[simp] theorem Out.bind_rt (d : OD) (ρ : En) (k : En → Out) : (Out.rt d ρ).bind k = .rt d ρ := rfl
@[simp] theorem Out.bind_ex (c : Str) (fs : List (Str × D)) (ρ : En) (k : En → Out) : (Out.ex c fs ρ).bind k = .ex c fs ρ := rfl
@[simp] theorem Out.bind_bk (ρ : En) (k : En → Out) : (Out.bk ρ).bind k = .bk ρ := rfl
@[simp] theorem Out.bind_ct (ρ : En) (k : En → Out) : (Out.ct ρ).bind k = .ct ρ := rfl
@[simp] theorem Out.bind_st (k : En → Out) : Out.st.bind k = .st := rfl
section
variable {B : Bs} {W : WX} {M M' : List Nat} {σ σ1 : L2.St} {H H1 : Hp} {As A1 : Ow} {D : Ends}
/-- from a later point -/
theorem Out.go_from (k : Kp M σ H As σ1 H1 A1) : ∀ {o : Out}, o.go B W (M ++ M') σ H As D → o.go B W M' σ1 H1 A1 D
  | .nx ρ', h => fun σ' H' As' S k' => h σ' H' As' S (k.trans k')
  | .bk ρ', h => fun σ' H' As' S k' => h σ' H' As' S (k.trans k')
  | .ct ρ', h => fun σ' H' As' S k' => h σ' H' As' S (k.trans k')
  | .rt od ρ', h => fun v A σ' H' As' S k' => h v A σ' H' As' S (k.trans k')
  | .ex c fs ρ', h => fun C dx vfs σ' H' As' S k' n => h C dx vfs σ' H' As' S (k.trans k') (by
      cases e : H dx with
      | none => rfl
      | some o => exact absurd n (k.k4 dx (by rw [e]; exact nofun)))
  | .st, h => h
theorem Out.go_mono (hm : ∀ i ∈ M, i ∈ M') : ∀ {o : Out}, o.go B W M' σ H As D → o.go B W M σ H As D
  | .nx ρ', h => fun σ' H' As' S k' => h σ' H' As' S (k'.mono hm)
  | .bk ρ', h => fun σ' H' As' S k' => h σ' H' As' S (k'.mono hm)
  | .ct ρ', h => fun σ' H' As' S k' => h σ' H' As' S (k'.mono hm)
  | .rt od ρ', h => fun v A σ' H' As' S k' => h v A σ' H' As' S (k'.mono hm)
  | .ex c fs ρ', h => fun C dx vfs σ' H' As' S k' => h C dx vfs σ' H' As' S (k'.mono hm)
  | .st, h => h
theorem tS_bind {s : En → Out} {k : En → Out} {T : L2.St → Hp → Prop} {ρ : En} (S : Sta B σ H ρ As) (h : ((s ρ).bind k).go B W (M ++ M') σ H As D)
    (hk : ∀ ρ' σ' H' As', Sta B σ' H' ρ' As' → (k ρ').go B W M' σ' H' As' D → T σ' H') : tS B W M s { D with nx := T } σ H := by
  refine ⟨ρ, As, S, ?_⟩
  have hl : ∀ i ∈ M, i ∈ M ++ M' := fun i hi => List.mem_append_left _ hi
  cases e : s ρ with
  | nx ρ' =>
    rw [e] at h
    intro σ' H' As' S' k'
    exact hk ρ' σ' H' As' S' (Out.go_from k' h)
  | rt d ρ' => rw [e] at h; exact fun v A σ' H' As' S k' => h v A σ' H' As' S (k'.mono hl)
  | ex c fs ρ' => rw [e] at h; exact fun C dx vfs σ' H' As' S k' => h C dx vfs σ' H' As' S (k'.mono hl)
  | bk ρ' => rw [e] at h; exact fun σ' H' As' S k' => h σ' H' As' S (k'.mono hl)
  | ct ρ' => rw [e] at h; exact fun σ' H' As' S k' => h σ' H' As' S (k'.mono hl)
  | st => rw [e] at h; exact h
end
/-- an expression's end as a statement's: its exception -/
theorem Exk_of {B : Bs} {W : WX} {M : List Nat} {σ : L2.St} {H : Hp} {As : Ow} {ρ : En} {c : Str} {fs : List (Str × D)} (S : Sta B σ H ρ As) (h : Exs B W M σ H As c fs ρ) : Exk B W σ H c fs := fun C dx vfs H' s n m x f =>
  h C dx vfs σ H' As (S.same s) (Kp.refl s) n m x (fun i z => S.hs i dx z n) f
def R.out {α : Type} (r : R α) (ρ : En) (k : α → Out) : Out := match r with
  | .ok a => k a
  | .ex c fs => .ex c fs ρ
  | .st => .st
@[simp] theorem R.out_ok {α : Type} (a : α) (ρ : En) (k : α → Out) : (R.ok a).out ρ k = k a := rfl
@[simp] theorem R.out_ex {α : Type} (c : Str) (fs : List (Str × D)) (ρ : En) (k : α → Out) : (R.ex c fs : R α).out ρ k = .ex c fs ρ := rfl
@[simp] theorem R.out_st {α : Type} (ρ : En) (k : α → Out) : (R.st : R α).out ρ k = .st := rfl
section
variable {B : Bs} {W : WX} {M M' E : List Nat} {σ : L2.St} {H : Hp} {As : Ow} {D : Ends} {ρ : En}
theorem tD_out {f : En → R DL.D} {k : DL.D → Out} {T : VK} (S : Sta B σ H ρ As) (h : ((f ρ).out ρ k).go B W M σ H As D)
    (hk : ∀ d v H1, Same H H1 → Sta B σ H1 ρ As → Rep B.P (cut H1 (hid B As E)) v d → (k d).go B W M σ H1 As D → T v H1) : tD B W E f σ H T := by
  refine ⟨ρ, As, S, ?_⟩
  cases e : f ρ with
  | ok d =>
    rw [e] at h
    intro v H1 s r
    exact hk d v H1 s (S.same s) r (Out.go_from (M := []) (Kp.refl s) h)
  | ex c fs => rw [e] at h; exact Exk_of S h
  | st => rw [e] at h; exact h
theorem tF_out {f : En → R OD} {k : OD → Out} {T : VK} (S : Sta B σ H ρ As) (h : ((f ρ).out ρ k).go B W M σ H As D)
    (hk : ∀ d v A H1, Same H H1 → Sta B σ H1 ρ As → A.Nodup → (∀ a ∈ A, H a = none) → RepO B.P (cut H1 (fun a => hid B As E a ∨ a ∈ A)) H1 v d A → (k d).go B W M σ H1 As D → T v H1) : tF B W E f σ H T := by
  refine ⟨ρ, As, S, ?_⟩
  cases e : f ρ with
  | ok d =>
    rw [e] at h
    intro v A H1 s n1 n2 r
    exact hk d v A H1 s (S.same s) n1 n2 r (Out.go_from (M := []) (Kp.refl s) h)
  | ex c fs => rw [e] at h; exact Exk_of S h
  | st => rw [e] at h; exact h
theorem tT_out {f : En → R Bool} {k : Bool → Out} {T : Bool → Hp → Prop} (S : Sta B σ H ρ As) (h : ((f ρ).out ρ k).go B W M σ H As D)
    (hk : ∀ d H1, Same H H1 → Sta B σ H1 ρ As → (k d).go B W M σ H1 As D → T d H1) : tT B W f σ H T := by
  refine ⟨ρ, As, S, ?_⟩
  cases e : f ρ with
  | ok d =>
    rw [e] at h
    intro H1 s
    exact hk d H1 s (S.same s) (Out.go_from (M := []) (Kp.refl s) h)
  | ex c fs => rw [e] at h; exact Exk_of S h
  | st => rw [e] at h; exact h
theorem tA_out {f : En → R (List DL.D)} {k : List DL.D → Out} {T : List V → Hp → Prop} (S : Sta B σ H ρ As) (h : ((f ρ).out ρ k).go B W M σ H As D)
    (hk : ∀ d v H1, Same H H1 → Sta B σ H1 ρ As → RepL B.P (cut H1 (hid B As E)) v d → (k d).go B W M σ H1 As D → T v H1) : tA B W E f σ H T := by
  refine ⟨ρ, As, S, ?_⟩
  cases e : f ρ with
  | ok d =>
    rw [e] at h
    intro v H1 s r
    exact hk d v H1 s (S.same s) r (Out.go_from (M := []) (Kp.refl s) h)
  | ex c fs => rw [e] at h; exact Exk_of S h
  | st => rw [e] at h; exact h
end

/-! ## freezing, storing -/
def frz1 (E : List Nat) : Nat → En → En
  | _, [] => []
  | n, o :: ρ => (if n ∈ E then o.map (fun x => .sh x.er) else o) :: frz1 E (n + 1) ρ
/-- the slots of E are shared from here on -/
def frz (E : List Nat) (ρ : En) : En := frz1 E 0 ρ
theorem frz1_get (E : List Nat) : ∀ (ρ : En) (n i : Nat), (frz1 E n ρ)[i]? = (ρ[i]?).map fun o => if n + i ∈ E then o.map (fun x => OD.sh x.er) else o
  | [], n, i => by simp [frz1]
  | o :: ρ, n, 0 => by simp [frz1]
  | o :: ρ, n, i + 1 => by
    have h := frz1_get E ρ (n + 1) i
    rw [frz1, List.getElem?_cons_succ, List.getElem?_cons_succ, h]
    congr 1
    funext o
    rw [show n + 1 + i = n + (i + 1) by omega]
theorem frz_get (E : List Nat) (ρ : En) (i : Nat) : (frz E ρ)[i]? = (ρ[i]?).map fun o => if i ∈ E then o.map (fun x => OD.sh x.er) else o := by
  have h := frz1_get E ρ 0 i
  rw [Nat.zero_add] at h
  exact h
theorem frz1_len (E : List Nat) : ∀ (ρ : En) (n : Nat), (frz1 E n ρ).length = ρ.length
  | [], n => rfl
  | o :: ρ, n => by rw [frz1, List.length_cons, List.length_cons, frz1_len E ρ]
theorem frz_len (E : List Nat) (ρ : En) : (frz E ρ).length = ρ.length := frz1_len E ρ 0
/-- freezing where a value that is stored may lead to an object that may change -/
def frzIf (d : D) (E : List Nat) (ρ : En) : En := if d.flat then ρ else frz E ρ
def exAs (E : List Nat) (As : Ow) : Ow := fun i => if i ∈ E then [] else As i
section
variable {B : Bs} {σ : L2.St} {H H' : Hp} {ρ : En} {As : Ow} {E : List Nat}
theorem hid_ex : ∀ a, hid B (exAs E As) [] a → hid B As E a := fun a h => by
  rcases h with h | ⟨i, _, h⟩
  · exact .inl h
  · unfold exAs at h
    split at h
    · cases h
    · exact .inr ⟨i, by assumption, h⟩
theorem Sta.frz (S : Sta B σ H ρ As) : Sta B σ H (frz E ρ) (exAs E As) where
  len := by rw [frz_len]; exact S.len
  pt := fun i od e => by
    rw [frz_get] at e
    cases q : ρ[i]? with
    | none => rw [q] at e; cases e
    | some o =>
      rw [q, Option.map_some] at e
      have e := Option.some.inj e
      cases o with
      | none => split at e <;> cases e
      | some od' =>
        obtain ⟨v, e1, r⟩ := S.pt i od' q
        refine ⟨v, e1, ?_⟩
        unfold exAs
        split at e
        · rename_i hi
          have e := Option.some.inj e
          subst e
          rw [if_pos hi]
          refine .sh (RepO.rep (cut_mono (Same.refl _) ?_) _ _ _ r fun a ha o eo => cut_of ?_ eo)
          · exact fun a h => hid_mono (E := []) (fun i hi => absurd hi List.not_mem_nil) a (hid_ex a h)
          · intro h
            rcases hid_ex a h with z | ⟨j, hj, z⟩
            · exact S.no i a ha z
            · exact hj (by rw [← S.dj i j a ha z]; exact hi)
        · rename_i hi
          have e := Option.some.inj e
          subst e
          rw [if_neg hi]
          exact RepO.mono (cut_mono (Same.refl _) fun a h => hid_mono (E := []) (fun i hi => absurd hi List.not_mem_nil) a (hid_ex a h)) _ _ _ r fun _ _ => rfl
  nd := fun i => by unfold exAs; split; exact List.nodup_nil; exact S.nd i
  dj := fun i j a h1 h2 => by
    unfold exAs at h1 h2
    split at h1
    · cases h1
    · split at h2
      · cases h2
      · exact S.dj i j a h1 h2
  ow := fun i a h => by unfold exAs at h; split at h; cases h; exact S.ow i a h
  no := fun i a h => by unfold exAs at h; split at h; cases h; exact S.no i a h
  hs := fun i a h => by unfold exAs at h; split at h; cases h; exact S.hs i a h
  ob := S.ob
  fr := S.fr
  th := S.th
theorem exAs_sub {i : Nat} {a : Addr} (h : a ∈ exAs E As i) : a ∈ As i := by unfold exAs at h; split at h; cases h; exact h
def putA (As : Ow) (i : Nat) (A : List Addr) : Ow := fun j => if j = i then A else As j
theorem putA_same {As : Ow} {i : Nat} {A : List Addr} : putA As i A i = A := by unfold putA; rw [if_pos rfl]
theorem putA_ne {As : Ow} {i j : Nat} {A : List Addr} (h : j ≠ i) : putA As i A j = As j := by unfold putA; rw [if_neg h]
theorem putA_mem {As : Ow} {i j : Nat} {A : List Addr} {a : Addr} (h : a ∈ putA As i A j) : (j = i ∧ a ∈ A) ∨ (j ≠ i ∧ a ∈ As j) := by
  unfold putA at h
  split at h
  · exact .inl ⟨by assumption, h⟩
  · exact .inr ⟨by assumption, h⟩
/-- a slot is given something: shared data (A empty), or a new tree -/
theorem Sta.put (S : Sta B σ H ρ As) {i : Nat} {v : V} {od : OD} {A : List Addr} (nA : A.Nodup) (fA : ∀ a ∈ A, ∀ j, a ∉ As j) (oA : ∀ a ∈ A, B.A0 a ∨ B.H0 a = none) (bA : ∀ a ∈ A, ¬ B.O a) (hA : ∀ a ∈ A, H a ≠ none)
    (r : RepO B.P (cut H (fun a => hid B As [] a ∨ a ∈ A)) H v od A) (hn : ∀ (j : Nat) od', j ≠ i → ρ[j]? = some (some od') → ∃ w, σ[j]? = some (some w) ∧ RepO B.P (cut H (hid B (putA As i A) [])) H w od' (As j)) : Sta B (σ.set i (some v)) H (ρ.set i (some od)) (putA As i A) where
  len := by rw [List.length_set, List.length_set]; exact S.len
  pt := fun j od' e => by
    by_cases hj : j = i
    · subst hj
      have hi : j < ρ.length := by
        have h := (List.getElem?_eq_some_iff.mp e).1
        rw [List.length_set] at h
        exact h
      rw [List.getElem?_set_self hi] at e
      have e := Option.some.inj (Option.some.inj e)
      subst e
      refine ⟨v, by rw [List.getElem?_set_self (by rw [S.len]; exact hi)], ?_⟩
      rw [putA_same]
      refine RepO.mono (cut_mono (Same.refl _) fun a h => ?_) _ _ _ r fun _ _ => rfl
      rcases h with h | ⟨k, _, h⟩
      · exact .inl (.inl h)
      · rcases putA_mem h with ⟨_, h⟩ | ⟨hk, h⟩
        · exact .inr h
        · exact .inl (.inr ⟨k, List.not_mem_nil, h⟩)
    · rw [List.getElem?_set_ne (Ne.symm hj)] at e
      obtain ⟨w, e1, r1⟩ := hn j od' hj e
      refine ⟨w, by rw [List.getElem?_set_ne (Ne.symm hj)]; exact e1, ?_⟩
      rw [putA_ne hj]
      exact r1
  nd := fun j => by unfold putA; split; exact nA; exact S.nd j
  dj := fun j k a h1 h2 => by
    rcases putA_mem h1 with ⟨e1, h1⟩ | ⟨n1, h1⟩ <;> rcases putA_mem h2 with ⟨e2, h2⟩ | ⟨n2, h2⟩
    · rw [e1, e2]
    · exact absurd h2 (fA a h1 k)
    · exact absurd h1 (fA a h2 j)
    · exact S.dj j k a h1 h2
  ow := fun j a h => by
    rcases putA_mem h with ⟨_, h⟩ | ⟨_, h⟩
    · exact oA a h
    · exact S.ow j a h
  no := fun j a h => by
    rcases putA_mem h with ⟨_, h⟩ | ⟨_, h⟩
    · exact bA a h
    · exact S.no j a h
  hs := fun j a h => by
    rcases putA_mem h with ⟨_, h⟩ | ⟨_, h⟩
    · exact hA a h
    · exact S.hs j a h
  ob := S.ob
  fr := S.fr
  th := S.th
/-- shared data -/
theorem Sta.setSh (S : Sta B σ H ρ As) {i : Nat} {v : V} {d : D} (r : Rep B.P (cut H (hid B As [])) v d) : Sta B (σ.set i (some v)) H (ρ.set i (some (.sh d))) (putA As i []) := by
  refine S.put List.nodup_nil (fun _ h => nomatch h) (fun _ h => nomatch h) (fun _ h => nomatch h) (fun _ h => nomatch h) (.sh (r.up (cut_mono (Same.refl _) fun a h => ?_))) fun j od' hj e => ?_
  · rcases h with h | h
    · exact h
    · cases h
  · obtain ⟨w, e1, r1⟩ := S.pt j od' e
    refine ⟨w, e1, ?_⟩
    refine RepO.mono (cut_mono (Same.refl _) fun a h => ?_) _ _ _ r1 fun _ _ => rfl
    rcases h with h | ⟨k, _, h⟩
    · exact .inl h
    · rcases putA_mem h with ⟨_, h⟩ | ⟨hk, h⟩
      · cases h
      · exact .inr ⟨k, List.not_mem_nil, h⟩
/-- a new tree: its addresses were free at H1, before which all that stands in the slots was told -/
theorem Sta.setNew (S : Sta B σ H ρ As) {H1 : Hp} (S1 : Sta B σ H1 ρ As) (s : Same H1 H) {i : Nat} {v : V} {od : OD} {A : List Addr} (nA : A.Nodup) (fA : ∀ a ∈ A, H1 a = none)
    (r : RepO B.P (cut H (fun a => hid B As [] a ∨ a ∈ A)) H v od A) : Sta B (σ.set i (some v)) H (ρ.set i (some od)) (putA As i A) := by
  have fAs : ∀ a ∈ A, ∀ j, a ∉ As j := fun a ha j z => S1.hs j a z (fA a ha)
  have fH0 : ∀ a ∈ A, B.H0 a = none := fun a ha => by
    cases e : B.H0 a with
    | none => rfl
    | some o => exact absurd (fA a ha) (S1.th a (by rw [e]; exact nofun))
  refine S.put (v := v) nA fAs (fun a ha => .inr (fH0 a ha)) (fun a ha z => S1.ob a z (fA a ha)) (RepO.there _ _ _ r) r fun j od' hj e => ?_
  obtain ⟨w, e1, r1⟩ := S1.pt j od' e
  refine ⟨w, e1, RepO.mono (fun a o h => ?_) _ _ _ r1 fun a ha => ?_⟩
  · obtain ⟨h1, h2⟩ := cut_some h
    refine cut_of (fun z => ?_) (s a o h2)
    rcases z with z | ⟨k, _, z⟩
    · exact h1 (.inl z)
    · rcases putA_mem z with ⟨_, z⟩ | ⟨_, z⟩
      · rw [fA a z] at h2; cases h2
      · exact h1 (.inr ⟨k, List.not_mem_nil, z⟩)
  · obtain ⟨o, eo⟩ := ne_none (S1.hs j a ha)
    rw [eo, s a o eo]
/-- an owned tree changes in place -/
theorem Sta.mut (S : Sta B σ H ρ As) {i : Nat} {v : V} {od' : OD} {A' : List Addr} (hv : σ[i]? = some (some v)) (hk : ∀ a o, H a = some o → a ∉ As i → H' a = some o) (th : ∀ a, H a ≠ none → H' a ≠ none)
    (nA : A'.Nodup) (sub : ∀ a ∈ A', a ∈ As i ∨ H a = none) (r : RepO B.P (cut H' (hid B (putA As i A') [])) H' v od' A') : Sta B σ H' (ρ.set i (some od')) (putA As i A') where
  len := by rw [List.length_set]; exact S.len
  pt := fun j od e => by
    by_cases hj : j = i
    · subst hj
      have hi : j < ρ.length := by
        have h := (List.getElem?_eq_some_iff.mp e).1
        rw [List.length_set] at h
        exact h
      rw [List.getElem?_set_self hi] at e
      have e := Option.some.inj (Option.some.inj e)
      subst e
      exact ⟨v, hv, by rw [putA_same]; exact r⟩
    · rw [List.getElem?_set_ne (Ne.symm hj)] at e
      obtain ⟨w, e1, r1⟩ := S.pt j od e
      refine ⟨w, e1, ?_⟩
      rw [putA_ne hj]
      refine RepO.mono (fun a o h => ?_) _ _ _ r1 fun a ha => ?_
      · obtain ⟨h1, h2⟩ := cut_some h
        refine cut_of (fun z => ?_) (hk a o h2 fun z => h1 (.inr ⟨i, List.not_mem_nil, z⟩))
        rcases z with z | ⟨k, _, z⟩
        · exact h1 (.inl z)
        · rcases putA_mem z with ⟨_, z⟩ | ⟨_, z⟩
          · rcases sub a z with z | z
            · exact h1 (.inr ⟨i, List.not_mem_nil, z⟩)
            · rw [z] at h2; cases h2
          · exact h1 (.inr ⟨k, List.not_mem_nil, z⟩)
      · obtain ⟨o, eo⟩ := ne_none (S.hs j a ha)
        rw [eo, hk a o eo fun z => hj (S.dj j i a ha z)]
  nd := fun j => by unfold putA; split; exact nA; exact S.nd j
  dj := fun j k a h1 h2 => by
    have new : ∀ {j a}, a ∈ A' → a ∈ As j → j = i := fun {j a} h1 h2 => by
      rcases sub a h1 with h1 | h1
      · exact S.dj j i a h2 h1
      · exact absurd h1 (S.hs j a h2)
    rcases putA_mem h1 with ⟨e1, h1⟩ | ⟨n1, h1⟩ <;> rcases putA_mem h2 with ⟨e2, h2⟩ | ⟨n2, h2⟩
    · rw [e1, e2]
    · exact absurd (new h1 h2) n2
    · exact absurd (new h2 h1) n1
    · exact S.dj j k a h1 h2
  ow := fun j a h => by
    rcases putA_mem h with ⟨_, h⟩ | ⟨_, h⟩
    · rcases sub a h with h | h
      · exact S.ow i a h
      · right
        cases e : B.H0 a with
        | none => rfl
        | some o => exact absurd h (S.th a (by rw [e]; exact nofun))
    · exact S.ow j a h
  no := fun j a h => by
    rcases putA_mem h with ⟨_, h⟩ | ⟨_, h⟩
    · rcases sub a h with h | h
      · exact S.no i a h
      · exact fun z => S.ob a z h
    · exact S.no j a h
  hs := fun j a h => by
    rcases putA_mem h with ⟨_, h⟩ | ⟨_, h⟩
    · exact RepO.there _ _ _ r a h
    · exact th a (S.hs j a h)
  ob := fun a h => th a (S.ob a h)
  fr := fun a o h n => hk a o (S.fr a o h n) fun z => by
    rcases S.ow i a z with q | q
    · exact n q
    · rw [h] at q; cases q
  th := fun a h => th a (S.th a h)
/-- forgetting slots -/
def fgt1 (F : List Nat) : Nat → En → En
  | _, [] => []
  | n, o :: ρ => (if n ∈ F then none else o) :: fgt1 F (n + 1) ρ
def fgt (F : List Nat) (ρ : En) : En := fgt1 F 0 ρ
theorem fgt1_get (F : List Nat) : ∀ (ρ : En) (n i : Nat), (fgt1 F n ρ)[i]? = (ρ[i]?).map fun o => if n + i ∈ F then none else o
  | [], n, i => by simp [fgt1]
  | o :: ρ, n, 0 => by simp [fgt1]
  | o :: ρ, n, i + 1 => by
    have h := fgt1_get F ρ (n + 1) i
    rw [fgt1, List.getElem?_cons_succ, List.getElem?_cons_succ, h]
    congr 1
    funext o
    rw [show n + 1 + i = n + (i + 1) by omega]
theorem fgt1_len (F : List Nat) : ∀ (ρ : En) (n : Nat), (fgt1 F n ρ).length = ρ.length
  | [], n => rfl
  | o :: ρ, n => by rw [fgt1, List.length_cons, List.length_cons, fgt1_len F ρ]
theorem Sta.fgt (S : Sta B σ H ρ As) (F : List Nat) : Sta B σ H (fgt F ρ) As := { S with
  len := by rw [DL.fgt, fgt1_len]; exact S.len
  pt := fun i od e => by
    rw [DL.fgt, fgt1_get, Nat.zero_add] at e
    cases q : ρ[i]? with
    | none => rw [q] at e; cases e
    | some o =>
      rw [q, Option.map_some] at e
      have e := Option.some.inj e
      split at e
      · cases e
      · subst e; exact S.pt i od q }
/-- the slots' own values, less known -/
theorem Sta.slots (S : Sta B σ H ρ As) {σ' : L2.St} (hl : σ'.length = σ.length) (h : ∀ (i : Nat) v od, ρ[i]? = some (some od) → σ[i]? = some (some v) → σ'[i]? = some (some v)) : Sta B σ' H ρ As := { S with
  len := hl.trans S.len
  pt := fun i od e => by
    obtain ⟨v, e1, r⟩ := S.pt i od e
    exact ⟨v, h i v od e e1, r⟩ }
end
end DL
set_option Elab.async false
set_option linter.all false
set_option maxRecDepth 100000
namespace DL
open PySem PySem.Spec PyProof.Rows L2

/-! ## statements: the rules -/
def nxS : En → Out := fun ρ => .nx ρ
def seqS (s t : En → Out) : En → Out := fun ρ => (s ρ).bind t
def exprS (f : En → R D) : En → Out := fun ρ => (f ρ).out ρ fun _ => .nx ρ
def retS (E : List Nat) (f : En → R D) : En → Out := fun ρ => (f ρ).out ρ fun d => .rt (.sh d) (frzIf d E ρ)
def retN : En → Out := fun ρ => .rt (.sh .non) ρ
def setS (i : Nat) (E : List Nat) (f : En → R D) : En → Out := fun ρ => (f ρ).out ρ fun d => .nx ((frzIf d E ρ).set i (some (.sh d)))
/- all that is shared below is flat -/
mutual
def OD.fl : OD → Bool
  | .sh d => d.flat
  | .lst xs => OD.flL xs
  | .dic kvs => OD.flK kvs
  | .obj _ fs => OD.flF fs
def OD.flL : List OD → Bool
  | [] => true
  | x :: xs => x.fl && OD.flL xs
def OD.flK : List (D × OD) → Bool
  | [] => true
  | (_, x) :: xs => x.fl && OD.flK xs
def OD.flF : List (Str × OD) → Bool
  | [] => true
  | (_, x) :: xs => x.fl && OD.flF xs
end
theorem OD.flL_all : ∀ xs : List OD, OD.flL xs = xs.all OD.fl
  | [] => rfl
  | x :: xs => by rw [OD.flL, OD.flL_all xs]; rfl
@[simp] theorem OD.fl_sh (d : D) : (OD.sh d).fl = d.flat := rfl
@[simp] theorem OD.fl_lst (xs : List OD) : (OD.lst xs).fl = xs.all OD.fl := by rw [OD.fl, OD.flL_all]
section
variable {P : Wd} {G G' H : Hp}
mutual
theorem RepO.fl : ∀ (x : OD) (v : V) (A : List Addr), RepO P G H v x A → x.fl = true → RepO P G' H v x A
  | .sh d, _, _, h, f => by cases h with | sh r => exact .sh (r.flat f)
  | .lst xs, _, _, h, f => by
    cases h with
    | lst h1 h2 => exact .lst h1 (RepOL.fl xs _ _ h2 f)
  | .dic xs, _, _, h, f => by
    cases h with
    | dic h1 h2 => exact .dic h1 (RepOK.fl xs _ _ h2 f)
  | .obj c xs, _, _, h, f => by
    cases h with
    | obj h0 h1 h2 => exact .obj h0 h1 (RepOF.fl xs _ _ h2 f)
theorem RepOL.fl : ∀ (x : List OD) (v : List V) (A : List Addr), RepOL P G H v x A → OD.flL x = true → RepOL P G' H v x A
  | [], _, _, h, f => by cases h; exact .nil
  | x :: xs, _, _, h, f => by
    rw [OD.flL, Bool.and_eq_true] at f
    cases h with
    | cons h1 h2 => exact .cons (RepO.fl x _ _ h1 f.1) (RepOL.fl xs _ _ h2 f.2)
theorem RepOK.fl : ∀ (x : List (D × OD)) (v : List (Key × V)) (A : List Addr), RepOK P G H v x A → OD.flK x = true → RepOK P G' H v x A
  | [], _, _, h, f => by cases h; exact .nil
  | (_, x) :: xs, _, _, h, f => by
    rw [OD.flK, Bool.and_eq_true] at f
    cases h with
    | cons h1 h2 => exact .cons (RepO.fl x _ _ h1 f.1) (RepOK.fl xs _ _ h2 f.2)
theorem RepOT.fl : ∀ (x : List (D × OD)) (v : List (List Key × V)) (A : List Addr), RepOT P G H v x A → OD.flK x = true → RepOT P G' H v x A
  | [], _, _, h, f => by cases h; exact .nil
  | (_, x) :: xs, _, _, h, f => by
    rw [OD.flK, Bool.and_eq_true] at f
    cases h with
    | cons h1 h2 => exact .cons (RepO.fl x _ _ h1 f.1) (RepOT.fl xs _ _ h2 f.2)
theorem RepOF.fl : ∀ (x : List (Str × OD)) (v : List (Str × V)) (A : List Addr), RepOF P G H v x A → OD.flF x = true → RepOF P G' H v x A
  | [], _, _, h, f => by cases h; exact .nil
  | (_, x) :: xs, _, _, h, f => by
    rw [OD.flF, Bool.and_eq_true] at f
    cases h with
    | cons h1 h2 => exact .cons (RepO.fl x _ _ h1 f.1) (RepOF.fl xs _ _ h2 f.2)
end
end
def frzO (od : OD) (E : List Nat) (ρ : En) : En := if od.fl then ρ else frz E ρ
def retF (E : List Nat) (f : En → R OD) : En → Out := fun ρ => (f ρ).out ρ fun d => .rt d (frzO d E ρ)
def setF (i : Nat) (E : List Nat) (f : En → R OD) : En → Out := fun ρ => (f ρ).out ρ fun d => .nx ((frzO d E ρ).set i (some d))
def ifS (t : En → R Bool) (a b : En → Out) : En → Out := fun ρ => (t ρ).out ρ fun c => if c then a ρ else b ρ
def okLen (n : Nat) : Bool := decide (n < 16777216)
theorem okLen_lt {n : Nat} (h : okLen n = true) : n < sizeLine := by rw [sizeLine_eq]; exact of_decide_eq_true h
section
variable {X : Cx} {B : Bs} {W : WX} {M M' E E1 : List Nat} {s t : En → Out} {st : Stmt} {rest : List Stmt} {e : Expr} {f : En → R D} {fo : En → R OD} {pos : Pos}
theorem s_nil : PSs X [] (tS B W [] nxS) := pss_nil.imp fun D σ H ⟨ρ, As, S, h⟩ => h σ H As S (Kp.refl (Same.refl _))
theorem s_cons (h1 : PS X st (tS B W M s)) (h2 : PSs X rest (tS B W M' t)) : PSs X (st :: rest) (tS B W (M ++ M') (seqS s t)) :=
  (pss_cons h1 h2).imp fun D σ H ⟨ρ, As, S, h⟩ => tS_bind S h fun ρ' σ' H' As' S' q => ⟨ρ', As', S', q⟩
theorem s_one (h1 : PS X st (tS B W M s)) : PSs X [st] (tS B W M s) := pss_one h1
theorem s_pass : PS X (.Pass pos) (tS B W [] nxS) := ps_pass.imp fun D σ H ⟨ρ, As, S, h⟩ => h σ H As S (Kp.refl (Same.refl _))
theorem s_break : PS X (.Break pos) (tS B W [] fun ρ => .bk ρ) := ps_break.imp fun D σ H ⟨ρ, As, S, h⟩ => h σ H As S (Kp.refl (Same.refl _))
theorem s_continue : PS X (.Continue pos) (tS B W [] fun ρ => .ct ρ) := ps_continue.imp fun D σ H ⟨ρ, As, S, h⟩ => h σ H As S (Kp.refl (Same.refl _))
theorem s_expr (h : PE X e (tD B W E f)) (hs : swapsWith e none pos.line X.env = pure false := by rfl) : PS X (.Expr e pos) (tS B W [] (exprS f)) :=
  (ps_expr h hs).imp fun D σ H ⟨ρ, As, S, h⟩ => tD_out S h fun d v H1 s1 S1 r q => q σ H1 As S1 (Kp.refl (Same.refl _))
theorem rep_frz {d : D} {σ : L2.St} {H : Hp} {ρ : En} {As : Ow} {v : V} (S : Sta B σ H ρ As) (r : Rep B.P (cut H (hid B As E)) v d) : ∃ A', Sta B σ H (frzIf d E ρ) A' ∧ Rep B.P (cut H (hid B A' [])) v d ∧ Kp [] σ H As σ H A' := by
  unfold frzIf
  cases q : d.flat with
  | true => exact ⟨As, S, r.flat q, Kp.refl (Same.refl _)⟩
  | false => exact ⟨exAs E As, S.frz, r.up (cut_mono (Same.refl _) hid_ex), ⟨rfl, fun _ _ => rfl, fun _ _ h => .inl (exAs_sub h), fun a o e _ => e, fun a h => h⟩⟩
theorem repO_frz {d : OD} {σ : L2.St} {H : Hp} {ρ : En} {As : Ow} {v : V} {A : List Addr} (S : Sta B σ H ρ As) (r : RepO B.P (cut H fun a => hid B As E a ∨ a ∈ A) H v d A) : ∃ A', Sta B σ H (frzO d E ρ) A' ∧ RepO B.P (cut H fun a => hid B A' [] a ∨ a ∈ A) H v d A ∧ Kp [] σ H As σ H A' ∧ (∀ i a, a ∈ A' i → a ∈ As i) := by
  unfold frzO
  cases q : d.fl with
  | true => exact ⟨As, S, RepO.fl _ _ _ r q, Kp.refl (Same.refl _), fun _ _ h => h⟩
  | false => exact ⟨exAs E As, S.frz, RepO.mono (cut_mono (Same.refl _) fun a h => h.imp (hid_ex a) id) _ _ _ r fun _ _ => rfl, ⟨rfl, fun _ _ => rfl, fun _ _ h => .inl (exAs_sub h), fun a o e _ => e, fun a h => h⟩, fun _ _ h => exAs_sub h⟩
theorem s_ret (h : PE X e (tD B W E f)) : PS X (.Return (some e) pos) (tS B W [] (retS E f)) :=
  (ps_ret h).imp fun D σ H ⟨ρ, As, S, h⟩ => tD_out S h fun d v H1 s1 S1 r q => by
    obtain ⟨A', S2, r2, k⟩ := rep_frz S1 r
    exact q v [] σ H1 A' S2 k List.nodup_nil (fun _ h => nomatch h) (fun _ h => nomatch h) (.sh (r2.up (cut_mono (Same.refl _) fun a h => h.resolve_right List.not_mem_nil)))
theorem s_retF (h : PE X e (tF B W E fo)) : PS X (.Return (some e) pos) (tS B W [] (retF E fo)) :=
  (ps_ret h).imp fun D σ H ⟨ρ, As, S, h⟩ => tF_out S h fun d v A H1 s1 S1 nA fA r q => by
    obtain ⟨A', S2, r2, k, hs⟩ := repO_frz S1 r
    refine q v A σ H1 A' S2 k nA (fun a ha => ?_) (fun a ha i z => S.hs i a (hs i a z) (fA a ha)) r2
    cases e : B.H0 a with
    | none => rfl
    | some o => exact absurd (fA a ha) (S.th a (by rw [e]; exact nofun))
theorem s_retN : PS X (.Return none pos) (tS B W [] retN) := ps_retN.imp fun D σ H ⟨ρ, As, S, h⟩ =>
  h .non [] σ H As S (Kp.refl (Same.refl _)) List.nodup_nil (fun _ h => nomatch h) (fun _ h => nomatch h) (.sh .non)
theorem Kp.set {σ : L2.St} {H : Hp} {As A' : Ow} (k : Kp [] σ H As σ H A') {i : Nat} {v : V} {A : List Addr} (hA : ∀ a ∈ A, a ∈ As i ∨ H a = none) : Kp [i] σ H As (σ.set i (some v)) H (putA A' i A) :=
  ⟨List.length_set, fun j hj => List.getElem?_set_ne fun z => hj (by rw [z]; exact List.mem_cons_self), fun j a h => by
    rcases putA_mem h with ⟨e, h⟩ | ⟨_, h⟩
    · rw [e]; exact (hA a h).imp id .inl
    · exact (k.k2 j a h).imp id fun z => z.imp id fun ⟨m, hm, _⟩ => (by cases hm), fun a o e _ => e, fun a h => h⟩
theorem s_set (i : Nat) {x : Str} {p' : Pos} (hN : X.N.Nodup) (hi : X.N[i]? = some x) (hx : Loc X.env.scope x) (h : PE X e (tD B W E f)) (hs : swapsWith e (some (.Name x p')) pos.line X.env = pure false := by rfl) (hf : X.fn x = true ∨ X.env.scope.names.lookup x = some .local := by first | exact .inl rfl | exact .inr rfl | assumption) :
    PS X (.Assign [.Name x p'] e pos) (tS B W [i] (setS i E f)) :=
  (ps_set hN hi hx h hs hf).imp fun D σ H ⟨ρ, As, S, h⟩ => tD_out S h fun d v H1 s1 S1 r q => by
    obtain ⟨A', S2, r2, k⟩ := rep_frz S1 r
    exact q _ H1 _ (S2.setSh r2) (k.set fun _ h => nomatch h)
theorem repO_frz2 {d : OD} {σ : L2.St} {H H1 : Hp} {ρ : En} {As : Ow} {v : V} {A : List Addr} (S : Sta B σ H ρ As) (s : Same H H1) (r : RepO B.P (cut H1 fun a => hid B As E a ∨ a ∈ A) H1 v d A) :
    ∃ A', Sta B σ H (frzO d E ρ) A' ∧ Sta B σ H1 (frzO d E ρ) A' ∧ RepO B.P (cut H1 fun a => hid B A' [] a ∨ a ∈ A) H1 v d A ∧ Kp [] σ H As σ H1 A' := by
  have S1 := S.same s
  unfold frzO
  cases q : d.fl with
  | true => exact ⟨As, S, S1, RepO.fl _ _ _ r q, Kp.refl s⟩
  | false => exact ⟨exAs E As, S.frz, S1.frz, RepO.mono (cut_mono (Same.refl _) fun a h => h.imp (hid_ex a) id) _ _ _ r fun _ _ => rfl, ⟨rfl, fun _ _ => rfl, fun _ _ h => .inl (exAs_sub h), fun a o e _ => s a o e, fun a h => same_ne s h⟩⟩
theorem imp_setF (i : Nat) {D : Ends} {σ : L2.St} {H : Hp} (h : tS B W [i] (setF i E fo) D σ H) : tF B W E fo σ H (fun x H1 => gName i x σ H1 D.nx) := by
    obtain ⟨ρ, As, S, h⟩ := h
    refine ⟨ρ, As, S, ?_⟩
    unfold setF at h
    cases e : fo ρ with
    | st => rw [e] at h; exact h
    | ex c fs => rw [e] at h; exact Exk_of S h
    | ok d =>
      rw [e] at h
      intro v A H1 s1 nA fA r
      obtain ⟨A', S2, S3, r2, k⟩ := repO_frz2 S s1 r
      refine h _ H1 _ (S3.setNew S2 s1 nA fA r2) ⟨List.length_set, fun j hj => List.getElem?_set_ne fun z => hj (by rw [z]; exact List.mem_cons_self), fun j a h => ?_, fun a o e _ => s1 a o e, fun a h => same_ne s1 h⟩
      rcases putA_mem h with ⟨_, h⟩ | ⟨_, h⟩
      · exact .inr (.inl (fA a h))
      · exact (k.k2 j a h).imp id fun z => z.imp id fun ⟨m, hm, _⟩ => (by cases hm)
theorem s_setF (i : Nat) {x : Str} {p' : Pos} (hN : X.N.Nodup) (hi : X.N[i]? = some x) (hx : Loc X.env.scope x) (h : PE X e (tF B W E fo)) (hs : swapsWith e (some (.Name x p')) pos.line X.env = pure false := by rfl) (hf : X.fn x = true ∨ X.env.scope.names.lookup x = some .local := by first | exact .inl rfl | exact .inr rfl | assumption) :
    PS X (.Assign [.Name x p'] e pos) (tS B W [i] (setF i E fo)) :=
  (ps_set hN hi hx h hs hf).imp fun D σ H h => imp_setF i h
theorem s_if {c : Expr} {a b : List Stmt} {tc : En → R Bool} (hc : PT X c (tT B W tc)) (h1 : PSs X a (tS B W M s)) (h2 : PSs X b (tS B W M' t)) : PS X (.If c a b pos) (tS B W (M ++ M') (ifS tc s t)) :=
  (ps_if hc h1 h2).imp fun D σ H ⟨ρ, As, S, h⟩ => tT_out S h fun d H1 s1 S1 q => by
    cases d with
    | true => exact ⟨ρ, As, S1, Out.go_mono (fun i hi => List.mem_append_left _ hi) q⟩
    | false => exact ⟨ρ, As, S1, Out.go_mono (fun i hi => List.mem_append_right _ hi) q⟩

/-! ### loops -/
def loopS (fg : List Nat) (bnd : DL.D → En → Option En) (body : En → Out) : List DL.D → En → Out
  | [], ρ => .nx ρ
  | d :: ds, ρ => match bnd d ρ with
    | none => .st
    | some ρ1 => match body ρ1 with
      | .nx ρ2 => loopS fg bnd body ds (fgt fg ρ2)
      | .ct ρ2 => loopS fg bnd body ds (fgt fg ρ2)
      | .bk ρ2 => .nx ρ2
      | o => o
/-- the target of a loop, of an assignment -/
def tG (B : Bs) (M : List Nat) (bnd : DL.D → En → Option En) : TG := fun v σ H Q => ∃ ρ As d, Sta B σ H ρ As ∧ Rep B.P (cut H (hid B As [])) v d ∧ match bnd d ρ with
  | some ρ' => ∀ σ' As', Sta B σ' H ρ' As' → Kp M σ H As σ' H As' → (∀ i, i ∉ M → As' i = As i) → Q σ' H
  | none => False
def bName (i : Nat) : DL.D → En → Option En := fun d ρ => some (ρ.set i (some (.sh d)))
theorem _root_.L2.PG.imp {tg : Expr} {t t' : TG} (h : PG X tg t) (i : ∀ v σ H Q, t' v σ H Q → t v σ H Q) : PG X tg t' := ⟨fun p s σ H v u Q I r q => h.run p s σ H v u Q I r (i v σ H Q q)⟩
theorem g_name (i : Nat) {x : Str} (hN : X.N.Nodup) (hi : X.N[i]? = some x) (hx : Loc X.env.scope x) (hf : X.fn x = true ∨ X.env.scope.names.lookup x = some .local := by first | exact .inl rfl | exact .inr rfl | assumption) : PG X (.Name x pos) (tG B [i] (bName i)) :=
  (pg_name hN hi hx hf).imp fun v σ H Q ⟨ρ, As, d, S, r, h⟩ => h _ _ (S.setSh r) ((Kp.refl (Same.refl _) : Kp [] σ H As σ H As).set fun _ h => nomatch h) fun j hj => putA_ne fun z => hj (by rw [z]; exact List.mem_cons_self)
/-- what is walked yields the data ds -/
structure Walks (P : Wd) (G Ge : Hp) (J : It) (ds : List DL.D) : Prop where
  go : ∀ i H, Same G H → i < ds.length → J.go i H
  stop : ∀ i H, Same G H → ds.length ≤ i → J.stop i H
  yld : ∀ i H x H' d, Same G H → J.yld i H x H' → ds[i]? = some d → Same H H' ∧ ∃ G', Same Ge G' ∧ Same G' H' ∧ (∀ a o, G' a = some o → Ge a = some o ∨ H a = none) ∧ Rep P G' x d
def tI (B : Bs) (W : WX) (E Ee : List Nat) (f : En → R (List DL.D)) : TI := fun σ H Rr => ∃ ρ As, Sta B σ H ρ As ∧
  (f ρ).go (fun ds => ∀ J H', Same H H' → Walks B.P (cut H' (hid B As E)) (cut H' (hid B As Ee)) J ds → Rr J H') (Exk B W σ H)
def forS (Ee fg : List Nat) (bnd : DL.D → En → Option En) (it : En → R (List DL.D)) (body : En → Out) : En → Out := fun ρ => (it ρ).out ρ fun ds => loopS fg bnd body ds (if ds.all DL.D.flat then ρ else frz Ee ρ)
theorem s_for {Ee : List Nat} {tg iter : Expr} {body : List Stmt} {it : En → R (List DL.D)} {bnd : DL.D → En → Option En} {Mg : List Nat} (fg : List Nat) (hp : PassesOwn (model X.prog X.w) X.A X.env X.xe) (hc : X.calm = true) (hi : PI X tg iter (tI B W E Ee it)) (hg : PG X tg (tG B Mg bnd)) (hb : PSs X body (tS B W M s))
    (hd : ∀ i ∈ E, i ∉ Mg ++ M) (hs : ∀ x, foldedSetIterable iter X.env x = pure x := by intro _; rfl) : PS X (.For tg iter body [] pos) (tS B W (Mg ++ M) (forS Ee fg bnd it s)) :=
  (ps_for hp hc hi hg hb hs).imp fun D σ H ⟨ρ, As, S, h⟩ => by
    refine ⟨ρ, As, S, ?_⟩
    unfold forS at h
    cases e : it ρ with
    | st => rw [e] at h; exact h
    | ex c fs => rw [e] at h; exact Exk_of S h
    | ok ds =>
      rw [e] at h
      intro J H1 s1 wk
      have S1 := S.same s1
      have h := Out.go_from (M := []) (M' := Mg ++ M) (Kp.refl s1 : Kp [] σ H As σ H1 As) h
      -- the slots at the loop's start: elements may be bound to names
      obtain ⟨ρ1, A1, S2, hv, e1, kk⟩ : ∃ ρ1 A1, Sta B σ H1 ρ1 A1 ∧ ((∀ d ∈ ds, d.flat = true) ∨ ∀ a, hid B A1 [] a → hid B As Ee a) ∧ ρ1 = (if ds.all DL.D.flat then ρ else frz Ee ρ) ∧ Kp [] σ H1 As σ H1 A1 := by
        cases q : ds.all DL.D.flat with
        | true => exact ⟨ρ, As, S1, .inl (List.all_eq_true.mp q), by simp, Kp.refl (Same.refl _)⟩
        | false => exact ⟨frz Ee ρ, exAs Ee As, S1.frz, .inr hid_ex, by simp, ⟨rfl, fun _ _ => rfl, fun _ _ h => .inl (exAs_sub h), fun a o e _ => e, fun a h => h⟩⟩
      replace h : (loopS fg bnd s ds ρ1).go B W (Mg ++ M) σ H1 As D := by rw [e1]; exact h
      refine ⟨fun i m σt Ht => m = ds.length - i ∧ i ≤ ds.length ∧ ∃ ρt At, Sta B σt Ht ρt At ∧ Kp (Mg ++ M) σ H1 As σt Ht At ∧ (∀ j a, a ∈ At j → (∃ k, a ∈ A1 k) ∨ H1 a = none) ∧ (loopS fg bnd s (ds.drop i) ρt).go B W (Mg ++ M) σt Ht At D, ⟨ds.length, rfl, Nat.zero_le _, ρ1, A1, S2, kk.mono fun _ h => absurd h List.not_mem_nil, fun j a h => .inl ⟨j, h⟩, Out.go_from (M := []) (M' := Mg ++ M) kk h⟩, ?_⟩
      rintro i m σt Ht ⟨rfl, hle, ρt, At, St, kt, sub, ht⟩
      -- what is walked stands
      have sG : Same (cut H1 (hid B As E)) Ht := fun a o ha => by
        obtain ⟨n1, n2⟩ := cut_some ha
        exact kt.k3 a o n2 fun j hj z => n1 (.inr ⟨j, fun z' => hd j z' hj, z⟩)
      by_cases hlt : i < ds.length
      · refine .inr ⟨wk.go i Ht sG hlt, fun σ' H' => ∃ ρ' A', Sta B σ' H' ρ' A' ∧ Kp (Mg ++ M) σ H1 As σ' H' A' ∧ (∀ j a, a ∈ A' j → (∃ k, a ∈ A1 k) ∨ H1 a = none) ∧ (loopS fg bnd s (ds.drop (i + 1)) ρ').go B W (Mg ++ M) σ' H' A' D, fun σ' H' ⟨ρ', A', S', k', sb', h'⟩ => ⟨_, by omega, rfl, hlt, ρ', A', S', k', sb', h'⟩, fun x H' y => ?_⟩
        have ed : ds[i]? = some ds[i] := List.getElem?_eq_getElem hlt
        obtain ⟨s', G', g1, g2, g3, r⟩ := wk.yld i Ht x H' ds[i] sG y ed
        rw [List.drop_eq_getElem_cons hlt, loopS] at ht
        have St' := St.same s'
        refine ⟨ρt, At, ds[i], St', ?_, ?_⟩
        · rcases hv with hv | hv
          · exact r.flat (hv _ (List.getElem_mem hlt))
          · refine r.up fun a o ha => cut_of (fun z => ?_) (g2 a o ha)
            rcases g3 a o ha with q | q
            · obtain ⟨q1, q2⟩ := cut_some q
              rcases z with z | ⟨j, _, z⟩
              · exact q1 (.inl z)
              · rcases sub j a z with ⟨k, z⟩ | z
                · exact q1 (hv a (.inr ⟨k, List.not_mem_nil, z⟩))
                · rw [z] at q2; cases q2
            · rcases z with z | ⟨j, _, z⟩
              · exact St.ob a z q
              · exact St.hs j a z q
        · cases eb : bnd ds[i] ρt with
          | none => rw [eb] at ht; exact ht
          | some ρ2 =>
            rw [eb] at ht
            intro σ2 A2 S2' k2 _
            have kA : Kp Mg σt Ht At σ2 H' A2 := by
              have z := (Kp.refl s' : Kp [] σt Ht At σt H' At).trans k2
              exact z.mono fun i hi => hi
            have k12 : Kp (Mg ++ M) σ H1 As σ2 H' A2 := (kt.trans kA).mono fun j hj => (List.mem_append.mp hj).elim id fun z => List.mem_append_left _ z
            have sub2 : ∀ j a, a ∈ A2 j → (∃ k, a ∈ A1 k) ∨ H1 a = none := fun j a z => by
              rcases kA.k2 j a z with z | z | ⟨m, _, z⟩
              · exact sub j a z
              · right
                cases q : H1 a with
                | none => rfl
                | some o => exact absurd z (kt.k4 a (by rw [q]; exact nofun))
              · exact sub m a z
            refine ⟨ρ2, A2, S2', ?_⟩
            -- the body's ends
            have fin : ∀ {ρ3 σ3 H3 A3}, Sta B σ3 H3 ρ3 A3 → Kp M σ2 H' A2 σ3 H3 A3 → (loopS fg bnd s (ds.drop (i + 1)) (fgt fg ρ3)).go B W (Mg ++ M) σt Ht At D → ∃ ρ' A', Sta B σ3 H3 ρ' A' ∧ Kp (Mg ++ M) σ H1 As σ3 H3 A' ∧ (∀ j a, a ∈ A' j → (∃ k, a ∈ A1 k) ∨ H1 a = none) ∧ (loopS fg bnd s (ds.drop (i + 1)) ρ').go B W (Mg ++ M) σ3 H3 A' D := fun {ρ3 σ3 H3 A3} S3 k3 h3 => by
              refine ⟨_, A3, S3.fgt fg, (k12.trans k3).mono fun j hj => (List.mem_append.mp hj).elim id fun z => List.mem_append_right _ z, fun j a z => ?_, ?_⟩
              · rcases k3.k2 j a z with z | z | ⟨m, _, z⟩
                · exact sub2 j a z
                · right
                  cases q : H1 a with
                  | none => rfl
                  | some o => exact absurd z (k12.k4 a (by rw [q]; exact nofun))
                · exact sub2 m a z
              · refine Out.go_from (M := Mg ++ M) (M' := Mg ++ M) ((kA.trans k3)) (Out.go_mono (fun j hj => ?_) h3)
                exact (List.mem_append.mp hj).elim id id
            have low : ∀ j ∈ Mg ++ M, j ∈ Mg ++ M := fun _ h => h
            revert ht
            show (match s ρ2 with
              | .nx ρ2 => loopS fg bnd s (ds.drop (i + 1)) (fgt fg ρ2)
              | .ct ρ2 => loopS fg bnd s (ds.drop (i + 1)) (fgt fg ρ2)
              | .bk ρ2 => .nx ρ2
              | o => o).go B W (Mg ++ M) σt Ht At D → _
            cases s ρ2 with
            | nx ρ3 => exact fun ht σ3 H3 A3 S3 k3 => fin S3 k3 ht
            | ct ρ3 => exact fun ht σ3 H3 A3 S3 k3 => fin S3 k3 ht
            | bk ρ3 => exact fun ht σ3 H3 A3 S3 k3 => ht σ3 H3 A3 S3 (kA.trans k3)
            | rt od ρ3 => exact fun ht v A σ3 H3 A3 S3 k3 => ht v A σ3 H3 A3 S3 (kA.trans k3)
            | ex c fs ρ3 => exact fun ht => Out.go_from (o := .ex c fs ρ3) (D := D) kA ht
            | st => exact fun ht => ht
      · have e2 : i = ds.length := by omega
        subst e2
        rw [List.drop_length, loopS] at ht
        exact .inl ⟨wk.stop _ Ht sG (Nat.le_refl _), ht σt Ht At St (Kp.refl (Same.refl _))⟩
end
end DL
set_option Elab.async false
set_option linter.all false
set_option maxRecDepth 100000
namespace DL
open PySem PySem.Spec PyProof.Rows L2
section
variable {X : Cx} {B : Bs} {W : WX} {M M' E E1 : List Nat} {s t : En → Out} {st : Stmt} {rest : List Stmt} {e : Expr} {f : En → R D} {fo : En → R OD} {pos : Pos}
/-! ### while -/
def whS (fg : List Nat) (c : En → R Bool) (body : En → Out) : Nat → En → Out
  | 0, _ => .st
  | n + 1, ρ => (c ρ).out ρ fun b => if b then (match body ρ with
      | .nx ρ2 => whS fg c body n (fgt fg ρ2)
      | .ct ρ2 => whS fg c body n (fgt fg ρ2)
      | .bk ρ2 => .nx ρ2
      | o => o) else .nx ρ
theorem s_while {c : Expr} {body : List Stmt} {tc : En → R Bool} (fg : List Nat) (n : Nat) (hp : PassesOwn (model X.prog X.w) X.A X.env X.xe) (hc : PT X c (tT B W tc)) (hb : PSs X body (tS B W M s)) : PS X (.While c body [] pos) (tS B W M (whS fg tc s n)) :=
  (ps_while hp hc hb).imp fun D σ H ⟨ρ, As, S, h⟩ => by
    refine ⟨fun m σt Ht => ∃ ρt At, Sta B σt Ht ρt At ∧ (whS fg tc s m ρt).go B W M σt Ht At D, ⟨n, ρ, As, S, h⟩, ?_⟩
    rintro m σt Ht ⟨ρt, At, St, ht⟩
    cases m with
    | zero => exact ht.elim
    | succ m =>
      rw [whS] at ht
      refine tT_out St ht fun b H1 s1 S1 q => ?_
      cases b with
      | false => exact q σt H1 At S1 (Kp.refl (Same.refl _))
      | true =>
        refine ⟨fun σ' H' => ∃ ρ' A', Sta B σ' H' ρ' A' ∧ (whS fg tc s m ρ').go B W M σ' H' A' D, fun σ' H' ⟨ρ', A', S', h'⟩ => ⟨m, Nat.lt_succ_self m, ρ', A', S', h'⟩, ρt, At, S1, ?_⟩
        have fin : ∀ {ρ3 σ3 H3 A3}, Sta B σ3 H3 ρ3 A3 → Kp M σt H1 At σ3 H3 A3 → (whS fg tc s m (fgt fg ρ3)).go B W M σt H1 At D → ∃ ρ' A', Sta B σ3 H3 ρ' A' ∧ (whS fg tc s m ρ').go B W M σ3 H3 A' D := fun {ρ3 σ3 H3 A3} S3 k3 h3 =>
          ⟨_, A3, S3.fgt fg, Out.go_from (M := M) (M' := M) k3 (Out.go_mono (fun j hj => (List.mem_append.mp hj).elim id id) h3)⟩
        revert q
        show (match s ρt with
          | .nx ρ2 => whS fg tc s m (fgt fg ρ2)
          | .ct ρ2 => whS fg tc s m (fgt fg ρ2)
          | .bk ρ2 => .nx ρ2
          | o => o).go B W M σt H1 At D → _
        cases s ρt with
        | nx ρ3 => exact fun ht σ3 H3 A3 S3 k3 => fin S3 k3 ht
        | ct ρ3 => exact fun ht σ3 H3 A3 S3 k3 => fin S3 k3 ht
        | bk ρ3 => exact fun ht => ht
        | rt od ρ3 => exact fun ht => ht
        | ex c fs ρ3 => exact fun ht => ht
        | st => exact fun ht => ht

/-! ### a list in a slot changes -/
theorem append_A {P : Wd} {G H : Hp} {vs ws : List V} {xs ys : List OD} {A A' : List Addr} (h : RepOL P G H vs xs A) (g : RepOL P G H ws ys A') : RepOL P G H (vs ++ ws) (xs ++ ys) (A ++ A') := by
  induction xs generalizing vs A with
  | nil => cases h; exact g
  | cons x xs ih =>
    cases h with
    | cons h1 h2 =>
      rw [List.cons_append, List.cons_append, List.append_assoc]
      exact .cons h1 (ih h2)
/-- the tree in a slot is a list at l, owned: its items -/
theorem Sta.list {σ : L2.St} {H : Hp} {ρ : En} {As : Ow} (S : Sta B σ H ρ As) {i : Nat} {xs : List OD} (h : ρ[i]? = some (some (.lst xs))) :
    ∃ l vs A, σ[i]? = some (some (.ref l)) ∧ As i = l :: A ∧ H l = some (.lst vs) ∧ RepOL B.P (cut H (hid B As [])) H vs xs A := by
  obtain ⟨v, e1, r⟩ := S.pt i _ h
  generalize hA : As i = A0 at r
  cases r with
  | lst h1 h2 => exact ⟨_, _, _, e1, rfl, h1, h2⟩
theorem RepOL.len {P : Wd} {G H : Hp} {vs : List V} {xs : List OD} {A : List Addr} (h : RepOL P G H vs xs A) : vs.length = xs.length := by
  induction xs generalizing vs A with
  | nil => cases h; rfl
  | cons x xs ih =>
    cases h with
    | cons h1 h2 => rw [List.length_cons, List.length_cons, ih h2]
/-- .. and is another list of known things behind a store -/
theorem Sta.relist {σ : L2.St} {H : Hp} {ρ : En} {As : Ow} (S : Sta B σ H ρ As) {i : Nat} {l : Addr} {A A' : List Addr} {ws : List V} {ys : List OD} (e1 : σ[i]? = some (some (.ref l))) (eA : As i = l :: A)
    (nA : (l :: A').Nodup) (sub : ∀ a ∈ A', a ∈ A ∨ H a = none) (r : RepOL B.P (cut H (hid B (putA As i (l :: A')) [])) H ws ys A') : Sta B σ (upd H l (.lst ws)) (ρ.set i (some (.lst ys))) (putA As i (l :: A')) := by
  have hl : l ∈ As i := by rw [eA]; exact List.mem_cons_self
  have hH := S.hs i l hl
  refine S.mut e1 (fun a o h n => ?_) (fun a h => ?_) nA (fun a ha => ?_) (.lst upd_same (RepOL.mono (fun a o h => ?_) _ _ _ r fun a ha => ?_))
  · rw [upd_ne (fun z => n (by rw [z]; exact hl))]; exact h
  · by_cases e : a = l
    · rw [e, upd_same]; exact nofun
    · rw [upd_ne e]; exact h
  · rcases List.mem_cons.mp ha with rfl | ha
    · exact .inl hl
    · rcases sub a ha with z | z
      · exact .inl (by rw [eA]; exact List.mem_cons_of_mem _ z)
      · exact .inr z
  · obtain ⟨h1, h2⟩ := cut_some h
    refine cut_of h1 ?_
    rw [upd_ne (fun z => h1 (.inr ⟨i, List.not_mem_nil, by rw [putA_same, z]; exact List.mem_cons_self⟩))]
    exact h2
  · rw [upd_ne]
    intro z
    exact (List.nodup_cons.mp nA).1 (by rw [← z]; exact ha)
theorem kp_list {σ : L2.St} {H : Hp} {As : Ow} {i : Nat} {l : Addr} {A A' : List Addr} {ws : List V} (eA : As i = l :: A) (hH : H l ≠ none) (sub : ∀ a ∈ A', a ∈ A ∨ H a = none) : Kp [i] σ H As σ (upd H l (.lst ws)) (putA As i (l :: A')) :=
  ⟨rfl, fun _ _ => rfl, fun j a h => by
    rcases putA_mem h with ⟨e, h⟩ | ⟨_, h⟩
    · rw [e, eA]
      rcases List.mem_cons.mp h with rfl | h
      · exact .inl List.mem_cons_self
      · exact (sub a h).imp (List.mem_cons_of_mem _) .inl
    · exact .inl h, fun a o h n => by
      rw [upd_ne (fun z => n i List.mem_cons_self (by rw [eA, z]; exact List.mem_cons_self))]; exact h, fun a h => by
      by_cases e : a = l
      · rw [e, upd_same]; exact nofun
      · rw [upd_ne e]; exact h⟩
theorem RepOL.hide {P : Wd} {σ : L2.St} {H : Hp} {As : Ow} {i : Nat} {l : Addr} {A : List Addr} {vs : List V} {xs : List OD} {Ar : List Addr} (eA : As i = l :: A) (r : RepOL P (cut H (hid B As [])) H vs xs Ar) {A' : List Addr} (new : ∀ a ∈ A', a ∈ A ∨ H a = none) : RepOL P (cut H (hid B (putA As i (l :: A')) [])) H vs xs Ar :=
  RepOL.mono (fun a o h => by
    obtain ⟨h1, h2⟩ := cut_some h
    refine cut_of (fun z => h1 ?_) h2
    rcases z with z | ⟨k, _, z⟩
    · exact .inl z
    · rcases putA_mem z with ⟨ek, z⟩ | ⟨_, z⟩
      · refine .inr ⟨i, List.not_mem_nil, ?_⟩
        rw [eA]
        rcases List.mem_cons.mp z with rfl | z
        · exact List.mem_cons_self
        · rcases new a z with z | z
          · exact List.mem_cons_of_mem _ z
          · rw [z] at h2; cases h2
      · exact .inr ⟨k, List.not_mem_nil, z⟩) _ _ _ r fun _ _ => rfl
theorem nodup_of {σ : L2.St} {H : Hp} {ρ : En} {As : Ow} (S : Sta B σ H ρ As) {i : Nat} {A : List Addr} (e : As i = A) : A.Nodup := by rw [← e]; exact S.nd i
theorem tyL {K : PySem.W.Frag} {H : Hp} {l : Addr} {vs : List V} (h : H l = some (.lst vs)) : tyV K "list" (.ref l) H := .inl ⟨rfl, _, .inl (.inl h)⟩
def ownL (i : Nat) (ρ : En) : Option (List OD) := match ρ[i]? with
  | some (some (.lst xs)) => some xs
  | _ => none
theorem ownL_eq {i : Nat} {ρ : En} {xs : List OD} (h : ownL i ρ = some xs) : ρ[i]? = some (some (.lst xs)) := by
  unfold ownL at h
  split at h
  · rename_i ys e; cases h; exact e
  · cases h
def keeps (i : Nat) (E : List Nat) (d : DL.D) : Bool := d.flat || !E.contains i
theorem frzIf_keep {i : Nat} {E : List Nat} {d : DL.D} {ρ : En} (h : keeps i E d = true) : (frzIf d E ρ)[i]? = ρ[i]? := by
  unfold frzIf
  cases q : d.flat with
  | true => simp
  | false =>
    have hi : i ∉ E := by
      unfold keeps at h
      rw [q, Bool.false_or] at h
      intro z
      rw [List.contains_iff_mem.mpr z] at h
      cases h
    simp only [Bool.false_eq_true, if_false]
    rw [frz_get]
    cases ρ[i]? with
    | none => rfl
    | some o => rw [Option.map_some, if_neg hi]
def appS (i : Nat) (E : List Nat) (f : En → R DL.D) : En → Out := fun ρ => match ownL i ρ with
  | none => .st
  | some xs => (f ρ).out ρ fun d => if okLen xs.length && keeps i E d then .nx ((frzIf d E ρ).set i (some (.lst (xs ++ [.sh d])))) else .st
theorem Rep.sh1 {P : Wd} {G H : Hp} {v : V} {d : DL.D} (r : Rep P G v d) : RepOL P G H [v] [.sh d] [] := .cons (A := []) (B := []) (.sh r) .nil
theorem mem_off {α : Type} {a : α} {A : List α} : a ∈ A → a ∈ A ∨ False := .inl
theorem s_app (i : Nat) {x : Str} {px apos cpos : Pos} (h0 : PE X (.Name x px) (tVar i)) (h : PE X e (tD B W E f))
    (hbase : attributeBase (.Name x px) "append" X.env (eval (.Name x px) X.env) = eval (.Name x px) X.env := by rfl)
    (hline : (apos.endLine == cpos.line) = true := by rfl) (hst : starEach [e] X.env = (false, eval e X.env) :: starEach [] X.env := by rfl)
    (hfew : ((backTo cpos (starEach [e] X.env)).all (fun x => !x.1) && (backToKw cpos (keywordEach [] X.env)).all (fun x => x.1.isSome)
      && decide ([e].length + ([] : List Keyword).length + (if ([] : List Keyword).isEmpty then 0 else 1) < 30)) = true := by rfl)
    (hplain : (backTo cpos (starEach [] X.env)).any (·.1) = false := by rfl)
    (hs : swapsWith (.Call (.Attribute (.Name x px) "append" apos) [e] [] cpos) none pos.line X.env = pure false := by rfl) : PS X (.Expr (.Call (.Attribute (.Name x px) "append" apos) [e] [] cpos) pos) (tS B W [i] (appS i E f)) :=
  (ps_expr (pe_bm PySem.F.plainAttrs_list PySem.F.slot_list_append PySem.F.type_list_append mt_append h0 (pa_cons h pa_nil hst) hbase hfew hline hst hplain) hs).imp fun D σ H ⟨ρ, As, S, h⟩ => by
    unfold appS at h
    cases eo : ownL i ρ with
    | none => rw [eo] at h; exact h.elim
    | some xs =>
      rw [eo] at h
      have eρ := ownL_eq eo
      obtain ⟨l, vs, A, e1, eA, hl, r⟩ := S.list eρ
      refine ⟨_, e1, .inl ⟨rfl, _, .inl (.inl hl)⟩, tD_out S h fun d v H1 s1 S1 r1 q => ?_⟩
      show rAppend (.ref l) [v] H1 (fun _ H1 => D.nx σ H1)
      cases c : okLen xs.length && keeps i E d with
      | false => rw [c] at q; exact q.elim
      | true =>
        rw [c] at q
        obtain ⟨c1, c2⟩ := Bool.and_eq_true_iff.mp c
        obtain ⟨A1, S2, r2, k⟩ := rep_frz S1 r1
        have e3 : (frzIf d E ρ)[i]? = some (some (.lst xs)) := (frzIf_keep c2).trans eρ
        obtain ⟨l', vs', A', e1', eA', hl', r'⟩ := S2.list e3
        rw [e1] at e1'; cases e1'
        rw [s1 _ _ hl] at hl'; cases hl'
        refine ⟨l, vs, v, rfl, rfl, s1 _ _ hl, by rw [r.len]; exact okLen_lt c1, ?_⟩
        have nA := nodup_of S2 eA'
        have T := S2.relist (A' := A' ++ []) e1 eA' (by rw [List.append_nil]; exact nA) (fun a ha => .inl (by rw [List.append_nil] at ha; exact ha))
          (append_A (RepOL.hide (B := B) (σ := σ) eA' r' fun a ha => .inl (by rw [List.append_nil] at ha; exact ha)) (Rep.sh1 (r2.up (cut_mono (Same.refl _) fun a z => ?_))))
        · refine q _ _ _ T ?_
          have kk := k.trans (kp_list (σ := σ) (ws := vs ++ [v]) (A' := A' ++ []) eA' (by rw [s1 _ _ hl]; exact nofun) fun a ha => .inl (by rw [List.append_nil] at ha; exact ha))
          exact kk
        · rcases z with z | ⟨j, _, z⟩
          · exact .inl z
          · rcases putA_mem z with ⟨ej, z⟩ | ⟨_, z⟩
            · refine .inr ⟨i, List.not_mem_nil, ?_⟩
              rw [eA']
              rw [List.append_nil] at z
              exact z
            · exact .inr ⟨j, List.not_mem_nil, z⟩
/-- x[k] = e -/
def subS (i : Nat) (E : List Nat) (f g : En → R DL.D) : En → Out := fun ρ => (f ρ).out ρ fun d => match ownL i ρ with
  | none => .st
  | some xs => (g ρ).out ρ fun k => match k with
    | .int n => (match ixN xs.length n with
      | some j => if keeps i E d then .nx ((frzIf d E ρ).set i (some (.lst (xs.set j (.sh d))))) else .st
      | none => .st)
    | _ => .st
theorem RepOL.setSh {P : Wd} {G H : Hp} {v : V} {d : DL.D} (q : Rep P G v d) : ∀ {xs : List OD} {vs : List V} {A : List Addr} (j : Nat), RepOL P G H vs xs A → ∃ A', A'.Sublist A ∧ RepOL P G H (vs.set j v) (xs.set j (.sh d)) A'
  | [], _, _, j, h => by cases h; exact ⟨[], List.Sublist.refl _, .nil⟩
  | x :: xs, _, _, 0, h => by
    cases h with
    | cons h1 h2 => exact ⟨_, List.sublist_append_right _ _, .cons (A := []) (.sh q) h2⟩
  | x :: xs, _, _, j + 1, h => by
    cases h with
    | cons h1 h2 =>
      obtain ⟨A', s, r⟩ := RepOL.setSh q j h2
      exact ⟨_, List.Sublist.append (List.Sublist.refl _) s, .cons h1 r⟩
theorem s_sub (i : Nat) {x : Str} {px tpos : Pos} {ix : Expr} {g : En → R DL.D} {E2 : List Nat} (h0 : PE X (.Name x px) (tVar i)) (h : PE X e (tD B W E f)) (hg : PE X ix (tD B W E2 g))
    (ha : ∀ v, assign (.Subscript (.Name x px) ix tpos) X.env v = (do
      let ov ← holding [v] (eval (.Name x px) X.env)
      let iv ← holding [v, ov] (eval ix X.env)
      standAt tpos
      holding [v, ov, iv] (setItem ov iv v)
      release [v, ov, iv] []) := by intro _; rfl)
    (hs : swapsWithSole [.Subscript (.Name x px) ix tpos] e pos.line X.env = pure false := by rfl) (hw : swappedStores [.Subscript (.Name x px) ix tpos] e X.env = pure none := by rfl)
    (h1 : (assignEach [.Subscript (.Name x px) ix tpos] X.env).map (·.2) = [assign (.Subscript (.Name x px) ix tpos) X.env] := by rfl) : PS X (.Assign [.Subscript (.Name x px) ix tpos] e pos) (tS B W [i] (subS i E f g)) :=
  (ps_asg h (pg_sub h0 hg set_list ha) hs hw h1).imp fun D σ H ⟨ρ, As, S, h⟩ => by
    refine tD_out S h fun d v H1 s1 S1 r1 q => ?_
    cases eo : ownL i ρ with
    | none => rw [eo] at q; exact q.elim
    | some xs =>
      rw [eo] at q
      have eρ := ownL_eq eo
      obtain ⟨l, vs, A, e1, eA, hl, r⟩ := S1.list eρ
      refine ⟨_, e1, tD_out S1 q fun k w H2 s2 S2 r2 q => ?_⟩
      cases r2 with
      | int n =>
        cases ej : ixN xs.length n with
        | none => simp only [ej] at q; exact q.elim
        | some j =>
          simp only [ej] at q
          cases c2 : keeps i E d with
          | false => rw [c2] at q; exact q.elim
          | true =>
            rw [c2] at q
            obtain ⟨A1, S3, r3, kk⟩ := rep_frz S2 (r1.up (cut_mono s2 fun _ z => z))
            have e3 : (frzIf d E ρ)[i]? = some (some (.lst xs)) := (frzIf_keep c2).trans eρ
            obtain ⟨l', vs', A', e1', eA', hl', r'⟩ := S3.list e3
            rw [e1] at e1'; cases e1'
            rw [s2 _ _ hl] at hl'; cases hl'
            obtain ⟨A2, sl, r4⟩ := RepOL.setSh r3 j r'
            have nA := nodup_of S3 eA'
            have sub : ∀ a ∈ A2, a ∈ A' ∨ H2 a = none := fun a ha => .inl (sl.subset ha)
            have T := S3.relist (A' := A2) e1 eA' (List.nodup_cons.mpr ⟨fun z => (List.nodup_cons.mp nA).1 (sl.subset z), (List.nodup_cons.mp nA).2.sublist sl⟩) sub (RepOL.hide (B := B) (σ := σ) eA' r4 sub)
            refine ⟨l, vs, n, j, rfl, rfl, s2 _ _ hl, by rw [r.len]; exact ej, ?_⟩
            exact q _ _ _ T (kk.trans (kp_list (σ := σ) eA' (by rw [s2 _ _ hl]; exact nofun) sub))
      | _ => exact q.elim
end
end DL
set_option Elab.async false
set_option linter.all false
set_option maxRecDepth 100000
namespace DL
open PySem PySem.Spec PyProof.Rows L2
abbrev Bs.wo (B : Bs) (O : Addr → Prop) : Bs := { B with O := O }
abbrev W0 : WX := fun _ _ _ _ => False
/-- no exception is told of -/
def R.nox {α : Type} : R α → R α
  | .ok a => .ok a
  | _ => .st
@[simp] theorem R.nox_ok {α : Type} (a : α) : (R.ok a).nox = .ok a := rfl
def allSh (E : List Nat) (ρ : En) : Bool := E.all fun i => match ρ[i]? with
  | some (some (.sh _)) => true
  | _ => false
/-- a comprehension's items -/
def lcL (bnd : D → En → Option En) (t : En → R Bool) (f : En → R D) (ρ : En) : List D → R (List D)
  | [] => .ok []
  | d :: ds => match bnd d ρ with
    | none => .st
    | some ρ1 => (t ρ1).nox.bind fun b => if b then (f ρ1).nox.bind fun y => (lcL bnd t f ρ ds).bind fun ys => .ok (y :: ys) else lcL bnd t f ρ ds
def lcE (Ee : List Nat) (vs : List Nat) (bnd : D → En → Option En) (it : En → R (List D)) (t : En → R Bool) (f : En → R D) : En → R OD := fun ρ => (it ρ).bind fun ds =>
  if (ds.all D.flat || allSh Ee ρ) && okLen ds.length then (lcL bnd t f (fgt vs ρ) ds).bind fun ys => .ok (.lst (ys.map .sh)) else .st
theorem lcL_len {bnd : D → En → Option En} {t : En → R Bool} {f : En → R D} {ρ : En} : ∀ {ds ys : List D}, lcL bnd t f ρ ds = .ok ys → ys.length ≤ ds.length
  | [], ys, h => by cases h; exact Nat.le_refl _
  | d :: ds, ys, h => by
    rw [lcL] at h
    cases e : bnd d ρ with
    | none => rw [e] at h; cases h
    | some ρ1 =>
      rw [e] at h
      simp only at h
      cases e1 : t ρ1 with
      | ok b =>
        rw [e1, R.nox_ok, R.bind_ok] at h
        cases b with
        | true =>
          simp only [if_true] at h
          cases e2 : f ρ1 with
          | ok y =>
            rw [e2, R.nox_ok, R.bind_ok] at h
            cases e3 : lcL bnd t f ρ ds with
            | ok zs =>
              rw [e3, R.bind_ok] at h
              cases h
              have := lcL_len e3
              simp only [List.length_cons]
              omega
            | ex c fs => rw [e3] at h; cases h
            | st => rw [e3] at h; cases h
          | ex c fs => rw [e2] at h; cases h
          | st => rw [e2] at h; cases h
        | false =>
          simp only [Bool.false_eq_true, if_false] at h
          have := lcL_len h
          simp only [List.length_cons]
          omega
      | ex c fs => rw [e1] at h; cases h
      | st => rw [e1] at h; cases h
theorem fgt_get (F : List Nat) (ρ : En) (i : Nat) : (fgt F ρ)[i]? = (ρ[i]?).map fun o => if i ∈ F then none else o := by
  have h := fgt1_get F ρ 0 i
  rw [Nat.zero_add] at h
  exact h
theorem wipe_get (σ : L2.St) (i : Nat) : ∀ vs : List Nat, (wipe σ vs)[i]? = if i ∈ vs then (σ[i]?).map fun _ => none else σ[i]?
  | [] => by rw [if_neg List.not_mem_nil]; rfl
  | v :: vs => by
    have ih := wipe_get σ i vs
    unfold wipe
    by_cases e : v = i
    · subst e
      rw [if_pos List.mem_cons_self]
      by_cases hl : v < σ.length
      · rw [List.getElem?_set_self (by rw [wipe_length]; exact hl), List.getElem?_eq_getElem hl]
        rfl
      · rw [List.getElem?_eq_none (by rw [List.length_set, wipe_length]; omega), List.getElem?_eq_none (by omega)]
        rfl
    · rw [List.getElem?_set_ne e, ih]
      by_cases hi : i ∈ vs
      · rw [if_pos hi, if_pos (List.mem_cons_of_mem _ hi)]
      · rw [if_neg hi, if_neg]
        intro z
        rcases List.mem_cons.mp z with z | z
        · exact e z.symm
        · exact hi z
theorem wipe_eq {σ σ' : L2.St} {vs : List Nat} (hl : σ'.length = (wipe σ vs).length) (h : ∀ i, i ∉ vs → σ'[i]? = (wipe σ vs)[i]?) : wipe σ' vs = wipe σ vs := by
  apply List.ext_getElem?
  intro i
  rw [wipe_get, wipe_get]
  by_cases hi : i ∈ vs
  · rw [if_pos hi, if_pos hi]
    rw [wipe_length] at hl
    by_cases hj : i < σ.length
    · rw [List.getElem?_eq_getElem hj, List.getElem?_eq_getElem (by omega)]
      rfl
    · rw [List.getElem?_eq_none (by omega), List.getElem?_eq_none (by omega)]
  · rw [if_neg hi, if_neg hi, h i hi, wipe_get, if_neg hi]
section
variable {B : Bs} {σ : L2.St} {H H' : Hp} {ρ : En} {As : Ow} {E vs : List Nat}
/-- what a block hides: the callers', and what its own names' slots hold around it -/
def blO (B : Bs) (As : Ow) (vs : List Nat) : Addr → Prop := fun a => B.O a ∨ ∃ i, i ∈ vs ∧ a ∈ As i
theorem hid_blk {B : Bs} {As : Ow} {vs E : List Nat} : ∀ a, hid (B.wo (blO B As vs)) (exAs vs As) E a ↔ hid B As (E.filter fun i => !vs.contains i) a := fun a => by
  constructor
  · rintro ((h | ⟨i, hi, h⟩) | ⟨i, hi, h⟩)
    · exact .inl h
    · refine .inr ⟨i, fun z => ?_, h⟩
      have := (List.mem_filter.mp z).2
      rw [List.contains_iff_mem.mpr hi] at this
      cases this
    · exact .inr ⟨i, fun z => hi (List.mem_filter.mp z).1, exAs_sub h⟩
  · rintro (h | ⟨i, hi, h⟩)
    · exact .inl (.inl h)
    · by_cases hv : i ∈ vs
      · exact .inl (.inr ⟨i, hv, h⟩)
      · refine .inr ⟨i, fun z => hi (List.mem_filter.mpr ⟨z, ?_⟩), ?_⟩
        · rw [Bool.not_eq_true', Bool.eq_false_iff]
          exact fun q => hv (List.contains_iff_mem.mp q)
        · unfold exAs
          rw [if_neg hv]
          exact h
theorem Sta.blk (S : Sta B σ H ρ As) (vs : List Nat) : Sta (B.wo (blO B As vs)) (wipe σ vs) H (DL.fgt vs ρ) (exAs vs As) where
  len := by rw [wipe_length, DL.fgt, fgt1_len]; exact S.len
  pt := fun i od e => by
    rw [fgt_get] at e
    cases q : ρ[i]? with
    | none => rw [q] at e; cases e
    | some o =>
      rw [q, Option.map_some] at e
      have e := Option.some.inj e
      split at e
      · cases e
      · rename_i hi
        subst e
        obtain ⟨v, e1, r⟩ := S.pt i od q
        refine ⟨v, by rw [wipe_get, if_neg hi]; exact e1, ?_⟩
        have ea : exAs vs As i = As i := by unfold exAs; rw [if_neg hi]
        rw [ea]
        exact RepO.mono (cut_mono (Same.refl _) fun a h => by
          have := (hid_blk (E := []) a).mp h
          exact this) _ _ _ r fun _ _ => rfl
  nd := fun i => by unfold exAs; split; exact List.nodup_nil; exact S.nd i
  dj := fun i j a h1 h2 => S.dj i j a (exAs_sub h1) (exAs_sub h2)
  ow := fun i a h => S.ow i a (exAs_sub h)
  no := fun i a h z => by
    rcases z with z | ⟨j, hj, z⟩
    · exact S.no i a (exAs_sub h) z
    · have e := S.dj i j a (exAs_sub h) z
      subst e
      unfold exAs at h
      rw [if_pos hj] at h
      cases h
  hs := fun i a h => S.hs i a (exAs_sub h)
  ob := fun a h => by
    rcases h with h | ⟨i, _, h⟩
    · exact S.ob a h
    · exact S.hs i a h
  fr := S.fr
  th := S.th
theorem Sta.hide1 (S : Sta B σ H ρ As) {Dl : Addr} (n : H Dl = none) (s : Same H H') (t : H' Dl ≠ none) : Sta (B.wo fun a => B.O a ∨ a = Dl) σ H' ρ As where
  len := S.len
  pt := fun i od e => by
    obtain ⟨v, e1, r⟩ := S.pt i od e
    refine ⟨v, e1, RepO.mono (fun a o h => ?_) _ _ _ r fun a ha => ?_⟩
    · obtain ⟨h1, h2⟩ := cut_some h
      refine cut_of (fun z => ?_) (s a o h2)
      rcases z with (z | z) | z
      · exact h1 (.inl z)
      · rw [z, n] at h2; cases h2
      · exact h1 (.inr z)
    · obtain ⟨o, eo⟩ := ne_none (S.hs i a ha)
      rw [eo, s a o eo]
  nd := S.nd
  dj := S.dj
  ow := S.ow
  no := fun i a h z => by
    rcases z with z | z
    · exact S.no i a h z
    · exact S.hs i a h (by rw [z]; exact n)
  hs := fun i a h => same_ne s (S.hs i a h)
  ob := fun a h => by
    rcases h with h | h
    · exact same_ne s (S.ob a h)
    · rw [h]; exact t
  fr := fun a o e h => s _ _ (S.fr a o e h)
  th := fun a h => same_ne s (S.th a h)
theorem allSh_hid (S : Sta B σ H ρ As) (h : allSh E ρ = true) : ∀ a, hid B As [] a → hid B As E a := fun a z => by
  rcases z with z | ⟨i, _, z⟩
  · exact .inl z
  · refine .inr ⟨i, fun hi => ?_, z⟩
    have q := List.all_eq_true.mp h i hi
    split at q
    · rename_i d e
      obtain ⟨v, _, r⟩ := S.pt i _ e
      generalize As i = A at r z
      cases r with
      | sh _ => cases z
    · cases q
end
section
variable {X : Cx} {B : Bs} {W : WX} {E Ee E1 vs Mg : List Nat} {elt tg iter : Expr} {ifs : List Expr} {scope : Scope} {own : List (Str × Nat)} {pos : Pos} {it : En → R (List D)} {bnd : D → En → Option En} {tt : En → R Bool} {f : En → R D}
theorem R.go_nox {α : Type} {r : R α} {K : α → Prop} {Ex : Str → List (Str × D) → Prop} (h : r.nox.go K Ex) : r.go K fun _ _ => False := by
  cases r with
  | ok a => exact h
  | ex c fs => exact h
  | st => exact h
theorem lc_imp (hm : ∀ i ∈ Mg, i ∈ vs) {σ : L2.St} {H : Hp} {Q : VK} (h : tF B W (E1.filter fun i => !vs.contains i) (lcE Ee vs bnd it tt f) σ H Q) :
    tLc (tI B W E Ee it) (fun v σ H Q => ∃ O, tG (B.wo O) Mg bnd v σ H Q) (fun σ H Q => ∃ O, tT (B.wo O) W0 tt σ H Q) (fun σ H Q => ∃ O, tD (B.wo O) W0 E1 f σ H Q) vs σ H Q := by
  obtain ⟨ρ, As, S, h⟩ := h
  refine ⟨ρ, As, S, ?_⟩
  unfold lcE at h
  cases e : it ρ with
  | st => rw [e] at h; exact h
  | ex c fs => rw [e] at h; exact h
  | ok ds =>
    rw [e, R.bind_ok] at h
    intro J H1 s1 wk Dl hDl
    have S1 := S.same s1
    cases c : ((ds.all D.flat || allSh Ee ρ) && okLen ds.length) with
    | false => rw [c] at h; exact h.elim
    | true =>
      rw [c] at h
      obtain ⟨c1, c2⟩ := Bool.and_eq_true_iff.mp c
      simp only [if_true] at h
      -- elements may be bound in the block
      have hv : (∀ d ∈ ds, d.flat = true) ∨ ∀ a, hid B As [] a → hid B As Ee a := by
        rcases Bool.or_eq_true_iff.mp c1 with c1 | c1
        · exact .inl (List.all_eq_true.mp c1)
        · exact .inr (allSh_hid S1 c1)
      have SB := S1.blk vs
      cases el : lcL bnd tt f (fgt vs ρ) ds with
      | ex c fs =>
        exfalso
        have : ∀ {ds c fs}, lcL bnd tt f (fgt vs ρ) ds ≠ .ex c fs := by
          intro ds
          induction ds with
          | nil => exact fun z => nomatch z
          | cons d ds ih =>
            intro c fs z
            rw [lcL] at z
            cases eb : bnd d (fgt vs ρ) with
            | none => rw [eb] at z; cases z
            | some ρ1 =>
              rw [eb] at z
              simp only at z
              cases et : tt ρ1 with
              | ex c fs => rw [et] at z; cases z
              | st => rw [et] at z; cases z
              | ok b =>
                rw [et, R.nox_ok, R.bind_ok] at z
                cases b with
                | false => simp only [Bool.false_eq_true, if_false] at z; exact ih z
                | true =>
                  simp only [if_true] at z
                  cases ef : f ρ1 with
                  | ex c fs => rw [ef] at z; cases z
                  | st => rw [ef] at z; cases z
                  | ok y =>
                    rw [ef, R.nox_ok, R.bind_ok] at z
                    cases er : lcL bnd tt f (fgt vs ρ) ds with
                    | ex c fs => exact ih er
                    | st => rw [er] at z; cases z
                    | ok ys => rw [er] at z; cases z
        exact this el
      | st => rw [el] at h; exact h.elim
      | ok ys =>
        rw [el, R.bind_ok] at h
        have nDl : ∀ a, hid B As [] a → a ≠ Dl := fun a z q => S1.hth a z (by rw [q]; exact hDl)
        -- W: what is made so far and what is left
        refine ⟨fun i m Ht => m = ds.length - i ∧ i ≤ ds.length ∧ Same H1 Ht ∧ ∃ acc done left, Ht Dl = some (.lst acc) ∧ done.length ≤ i ∧ lcL bnd tt f (fgt vs ρ) (ds.drop i) = .ok left ∧ ys = done ++ left ∧ RepL B.P (cut Ht fun a => hid B As (E1.filter fun i => !vs.contains i) a ∨ a = Dl) acc done,
          ⟨ds.length, rfl, Nat.zero_le _, fun a o ha => by rw [upd_ne (ne_of_none ha hDl)]; exact ha, [], [], ys, upd_same, Nat.le_refl _, el, rfl, .nil⟩, ?_⟩
        rintro i m Ht ⟨rfl, hle, sH, acc, done, left, hacc, hdone, hleft, hys, racc⟩
        have sG : Same (cut H1 (hid B As E)) Ht := fun a o ha => sH a o (cut_some ha).2
        by_cases hlt : i < ds.length
        · refine .inr ⟨wk.go i Ht sG hlt, fun H' => i + 1 ≤ ds.length ∧ Same H1 H' ∧ ∃ acc done left, H' Dl = some (.lst acc) ∧ done.length ≤ i + 1 ∧ lcL bnd tt f (fgt vs ρ) (ds.drop (i + 1)) = .ok left ∧ ys = done ++ left ∧ RepL B.P (cut H' fun a => hid B As (E1.filter fun i => !vs.contains i) a ∨ a = Dl) acc done, fun H' h' => ⟨ds.length - (i + 1), by omega, rfl, h'⟩, fun x H2 y => ?_⟩
          have ed : ds[i]? = some ds[i] := List.getElem?_eq_getElem hlt
          obtain ⟨s2, G', g1, g2, g3, r⟩ := wk.yld i Ht x H2 ds[i] sG y ed
          rw [List.drop_eq_getElem_cons hlt, lcL] at hleft
          have SB2 := (SB.hide1 hDl sH (by rw [hacc]; exact nofun)).same s2
          refine ⟨fun a => blO B As vs a ∨ a = Dl, fgt vs ρ, exAs vs As, ds[i], SB2, ?_, ?_⟩
          · rcases hv with hv | hv
            · exact r.flat (hv _ (List.getElem_mem hlt))
            · refine r.up fun a o ha => cut_of (fun z => ?_) (g2 a o ha)
              have z' : hid B As [] a ∨ a = Dl := by
                rcases z with (z | z) | z
                · exact .inl ((hid_blk (E := []) a).mp (.inl z))
                · exact .inr z
                · exact .inl ((hid_blk (E := []) a).mp (.inr z))
              rcases g3 a o ha with q | q
              · obtain ⟨q1, q2⟩ := cut_some q
                rcases z' with z' | z'
                · exact q1 (hv a z')
                · rw [z', hDl] at q2; cases q2
              · rcases z' with z' | z'
                · exact (S1.same sH).hth a z' q
                · rw [z', hacc] at q; cases q
          · cases eb : bnd ds[i] (fgt vs ρ) with
            | none => rw [eb] at hleft; cases hleft
            | some ρ1 =>
              rw [eb] at hleft
              simp only at hleft
              intro σ2 A2 S2 k2 eA2
              refine ⟨wipe_eq k2.k0 fun j hj => k2.k1 j fun z => hj (hm j z), fun a => blO B As vs a ∨ a = Dl, ρ1, A2, S2, ?_⟩
              cases et : tt ρ1 with
              | ex c fs => rw [et] at hleft; cases hleft
              | st => rw [et] at hleft; cases hleft
              | ok b =>
                rw [et, R.nox_ok, R.bind_ok] at hleft
                intro H3 s3
                have acc3 : H3 Dl = some (.lst acc) := s3 _ _ (s2 _ _ hacc)
                cases b with
                | false =>
                  simp only [Bool.false_eq_true, if_false] at hleft ⊢
                  exact ⟨hlt, (sH.trans s2).trans s3, acc, done, left, acc3, by omega, hleft, hys, racc.up (cut_mono (s2.trans s3) fun _ z => z)⟩
                | true =>
                  simp only [if_true] at hleft ⊢
                  refine ⟨fun a => blO B As vs a ∨ a = Dl, ρ1, A2, S2.same s3, ?_⟩
                  cases ef : f ρ1 with
                  | ex c fs => rw [ef] at hleft; cases hleft
                  | st => rw [ef] at hleft; cases hleft
                  | ok y =>
                    rw [ef, R.nox_ok, R.bind_ok] at hleft
                    cases er : lcL bnd tt f (fgt vs ρ) (ds.drop (i + 1)) with
                    | ex c fs => rw [er] at hleft; cases hleft
                    | st => rw [er] at hleft; cases hleft
                    | ok left' =>
                      rw [er, R.bind_ok] at hleft
                      cases hleft
                      intro yv H4 s4 r4
                      have acc4 : H4 Dl = some (.lst acc) := s4 _ _ acc3
                      have ra : acc.length < sizeLine := by
                        rw [racc.len]
                        exact Nat.lt_trans (Nat.lt_of_le_of_lt hdone hlt) (okLen_lt c2)
                      refine ⟨acc, acc4, ra, hlt, fun a o ha => ?_, acc ++ [yv], done ++ [y], left', upd_same, by rw [List.length_append]; simp; omega, rfl, by rw [hys, List.append_assoc]; rfl, ?_⟩
                      · rw [upd_ne (ne_of_none ha hDl)]
                        exact (((sH.trans s2).trans s3).trans s4) a o ha
                      · refine RepL.append (racc.up fun a o ha => ?_) (.cons (r4.up fun a o ha => ?_) .nil)
                        · obtain ⟨n1, n2⟩ := cut_some ha
                          refine cut_of n1 ?_
                          rw [upd_ne fun z => n1 (.inr z)]
                          exact ((s2.trans s3).trans s4) a o n2
                        · obtain ⟨n1, n2⟩ := cut_some ha
                          have nD : a ≠ Dl := fun z => n1 (.inl (.inr z))
                          refine cut_of (fun z => ?_) (by rw [upd_ne nD]; exact n2)
                          rcases z with z | z
                          · rcases (hid_blk (E := E1) a).mpr z with z | ⟨k, hk, z⟩
                            · exact n1 (.inl (.inl z))
                            · by_cases hkm : k ∈ Mg
                              · have := hm k hkm
                                unfold exAs at z
                                rw [if_pos this] at z
                                cases z
                              · exact n1 (.inr ⟨k, hk, by rw [eA2 k hkm]; exact z⟩)
                          · exact nD z
        · have e2 : i = ds.length := by omega
          subst e2
          rw [List.drop_length, lcL] at hleft
          cases hleft
          rw [List.append_nil] at hys
          subst hys
          refine .inl ⟨wk.stop _ Ht sG (Nat.le_refl _), h (.ref Dl) [Dl] Ht (s1.trans sH) (List.nodup_cons.mpr ⟨List.not_mem_nil, List.nodup_nil⟩) (fun a ha => ?_) ?_⟩
          · rw [List.mem_singleton.mp ha]
            exact s1.free hDl
          · exact .lst hacc (RepOL.sh (racc.up (cut_mono (Same.refl _) fun a z => z.imp id List.mem_singleton.mp)))
end
end DL
set_option Elab.async false
set_option linter.all false
set_option maxRecDepth 100000
namespace DL
open PySem PySem.Spec PyProof.Rows L2

/-! ## operations on data -/
theorem Rep.tick {P : Wd} {G : Hp} {x : V} {s : List Nat} (h : Rep P G x (.str s)) : ∃ z : Str, x = .str z ∧ z.cps.toList = s := by
  cases h with
  | str z => exact ⟨z, rfl, rfl⟩
theorem Rep.intE {P : Wd} {G : Hp} {x : V} {i : Int} (h : Rep P G x (.int i)) : x = .int i := by cases h; rfl
theorem Rep.blE {P : Wd} {G : Hp} {x : V} {i : Bool} (h : Rep P G x (.bl i)) : x = .bl i := by cases h; rfl
theorem Rep.nonE {P : Wd} {G : Hp} {x : V} (h : Rep P G x .non) : x = .non := by cases h; rfl
theorem Rep.lstE {P : Wd} {G : Hp} {x : V} {ds : List D} (h : Rep P G x (.lst ds)) : ∃ a xs, x = .ref a ∧ Rd G a (.lst xs) ∧ RepL P G xs ds := by
  cases h with
  | lst h1 h2 => exact ⟨_, _, rfl, .of h1, h2⟩
theorem Rep.lstG {P : Wd} {G : Hp} {x : V} {ds : List D} (h : Rep P G x (.lst ds)) : ∃ a xs, x = .ref a ∧ G a = some (.lst xs) ∧ RepL P G xs ds := by
  cases h with
  | lst h1 h2 => exact ⟨_, _, rfl, h1, h2⟩
theorem Rep.tupE {P : Wd} {G : Hp} {x : V} {ds : List D} (h : Rep P G x (.tup ds)) : ∃ a xs, x = .ref a ∧ SqT P.K G a xs ∧ RepL P G xs ds := by
  cases h with
  | tup h1 h2 => exact ⟨_, _, rfl, h1, h2⟩
theorem rep_of {P : Wd} {G : Hp} {z : Str} {s : List Nat} (h : z.cps.toList = s) : Rep P G (.str z) (.str s) := by subst h; exact .str z
theorem slen {z : Str} {s : List Nat} (h : z.cps.toList = s) : z.length = s.length := by rw [← h]; exact (Array.length_toList).symm
def okSz (n : Nat) : Bool := decide (n ≤ 16777216)
theorem okSz_le {n : Nat} (h : okSz n = true) : n ≤ sizeLine := by rw [sizeLine_eq]; exact of_decide_eq_true h

/-- new lists -/
def AdF2 (P : Wd) (r : R2) (g : D → D → Option OD) : Prop := ∀ (p : Addr → Prop) (H : Hp) (x y : V) (a b : D) (d : OD) (Q : VK), (∀ a, p a → H a ≠ none) → Rep P (cut H p) x a → Rep P (cut H p) y b → g a b = some d →
  (∀ v A H', Same H H' → A.Nodup → (∀ a ∈ A, H a = none) → RepO P (cut H' fun a => p a ∨ a ∈ A) H' v d A → Q v H') → r x y H Q
def AdFA (P : Wd) (r : List V → Hp → VK → Prop) (g : List D → Option OD) : Prop := ∀ (p : Addr → Prop) (H : Hp) (x : List V) (a : List D) (d : OD) (Q : VK), (∀ a, p a → H a ≠ none) → RepL P (cut H p) x a → g a = some d →
  (∀ v A H', Same H H' → A.Nodup → (∀ a ∈ A, H a = none) → RepO P (cut H' fun a => p a ∨ a ∈ A) H' v d A → Q v H') → r x H Q
theorem er_new {P : Wd} {p : Addr → Prop} {H H' : Hp} {v : V} {od : OD} {A : List Addr} (hp : ∀ a, p a → H a ≠ none) (fA : ∀ a ∈ A, H a = none) (r : RepO P (cut H' fun a => p a ∨ a ∈ A) H' v od A) : Rep P (cut H' p) v od.er :=
  RepO.rep (cut_mono (Same.refl _) fun a h => .inl h) _ _ _ r fun a ha o eo => cut_of (fun z => hp a z (fA a ha)) eo
theorem Ad2.ofF {P : Wd} {r : R2} {g : D → D → Option OD} (h : AdF2 P r g) : Ad2 P r (fun a b => (g a b).map OD.er) := fun p H x y a b d Q hp r1 r2 e q => by
  have e : (g a b).map OD.er = some d := e
  cases e1 : g a b with
  | none => rw [e1] at e; cases e
  | some od =>
    rw [e1] at e
    cases e
    exact h p H x y a b od Q hp r1 r2 e1 fun v A H' s nA fA ro => q v H' s (er_new hp fA ro)
theorem AdA.ofF {P : Wd} {r : List V → Hp → VK → Prop} {g : List D → Option OD} (h : AdFA P r g) : AdA P r (fun a => (g a).map OD.er) := fun p H x a d Q hp r1 e q => by
  have e : (g a).map OD.er = some d := e
  cases e1 : g a with
  | none => rw [e1] at e; cases e
  | some od =>
    rw [e1] at e
    cases e
    exact h p H x a od Q hp r1 e1 fun v A H' s nA fA ro => q v H' s (er_new hp fA ro)
def lstF (xs : List D) : OD := .lst (xs.map .sh)
@[simp] theorem lstF_er (xs : List D) : (lstF xs).er = .lst xs := OD.er_lst_sh xs
/-- a list just laid -/
theorem new_lst {P : Wd} {p : Addr → Prop} {H : Hp} {a : Addr} {vs : List V} {ds : List D} {Q : VK} (hp : ∀ a, p a → H a ≠ none) (hn : H a = none) (r : RepL P (cut H p) vs ds)
    (q : ∀ v A H', Same H H' → A.Nodup → (∀ a ∈ A, H a = none) → RepO P (cut H' fun a => p a ∨ a ∈ A) H' v (lstF ds) A → Q v H') : Q (.ref a) (upd H a (.lst vs)) := by
  have s : Same H (upd H a (.lst vs)) := fun b o e => by rw [upd_ne (ne_of_none e hn)]; exact e
  refine q _ [a] _ s (List.nodup_cons.mpr ⟨List.not_mem_nil, List.nodup_nil⟩) (fun b hb => by rw [List.mem_singleton.mp hb]; exact hn) (.lst upd_same (RepOL.sh (r.up fun b o e => ?_)))
  obtain ⟨h1, h2⟩ := cut_some e
  refine cut_of (fun z => ?_) (s b o h2)
  rcases z with z | z
  · exact h1 z
  · rw [List.mem_singleton.mp z, hn] at h2; cases h2
theorem new_tup {P : Wd} {p : Addr → Prop} {H : Hp} {a : Addr} {vs : List V} {ds : List D} {Q : VK} (hp : ∀ a, p a → H a ≠ none) (hn : H a = none) (r : RepL P (cut H p) vs ds)
    (q : ∀ v H', Same H H' → Rep P (cut H' p) v (.tup ds) → Q v H') : Q (.ref a) (upd H a (.tup vs)) := by
  have s : Same H (upd H a (.tup vs)) := fun b o e => by rw [upd_ne (ne_of_none e hn)]; exact e
  exact q _ _ s (.tup (.of (cut_of (fun z => hp a z hn) upd_same)) (r.up (cut_mono s fun _ z => z)))

/-! ### + -/
def dAddI : D → D → Option D
  | .int i, .int j => some (.int (i + j))
  | _, _ => none
theorem ad_addI {P : Wd} : Ad2 P (rI0 fun i j => .int (i + j)) dAddI := fun p H x y a b d Q hp r1 r2 e q => by
  unfold dAddI at e
  split at e
  · cases e; cases r1; cases r2; exact ⟨_, _, rfl, rfl, q _ _ (Same.refl _) (.int _)⟩
  · cases e
def dAddS : D → D → Option D
  | .str s, .str t => if okSz (s.length + t.length) then some (.str (s ++ t)) else none
  | _, _ => none
theorem ad_addS {P : Wd} : Ad2 P (fun x y H Q => ∃ i j : Str, x = .str i ∧ y = .str j ∧ i.length + j.length ≤ sizeLine ∧ Q (.str (i ++ j)) H) dAddS := fun p H x y a b d Q hp r1 r2 e q => by
  unfold dAddS at e
  split at e
  · obtain ⟨z, rfl, hz⟩ := r1.tick
    obtain ⟨w, rfl, hw⟩ := r2.tick
    split at e
    · rename_i h
      cases e
      refine ⟨z, w, rfl, rfl, by rw [slen hz, slen hw]; exact okSz_le h, q _ _ (Same.refl _) (rep_of ?_)⟩
      rw [← hz, ← hw]
      show (z.cps ++ w.cps).toList = _
      rw [Array.toList_append]
    · cases e
  · cases e
section
variable {X : Cx} {pins : List (Addr × Obj)} {σ : L2.St} {H : Hp} {s : Shared}
/-- a text times an int -/
def rRepS : R2 := fun x y H Q => ∃ (z : Str) (k : Int), x = .str z ∧ y = .int k ∧ k < 1000000 ∧ z.length * k.toNat ≤ sizeLine ∧ -1000000 < k ∧ ∀ z' : Str, z'.cps.toList = (List.replicate k.toNat z.cps.toList).flatten → Q (.str z') H
theorem txt_mul (z : Str) (k : Int) : (Txt.mul z k).cps.toList = (List.replicate k.toNat z.cps.toList).flatten := by
  have f0 : ∀ (m : Nat) (acc : Array Nat), (List.foldl (fun x1 x2 => x1 ++ x2) acc (List.replicate m z.cps)).toList = acc.toList ++ (List.replicate m z.cps.toList).flatten := by
    intro m
    induction m with
    | zero => intro acc; simp
    | succ m ih =>
      intro acc
      rw [List.replicate_succ, List.foldl_cons, ih, Array.toList_append, List.replicate_succ, List.flatten_cons, List.append_assoc]
  unfold Txt.mul
  split
  · rename_i h
    have : k.toNat = 0 := by omega
    rw [this]; rfl
  · split
    · rename_i h1 h2
      rcases Bool.or_eq_true_iff.mp h2 with h | h
      · have : k = 1 := by simpa using h
        subst this
        simp
      · have h0 : z.cps.size = 0 := eq_of_beq h
        have h3 : z.cps.toList = [] := by
          apply List.eq_nil_of_length_eq_zero
          rw [Array.length_toList]; exact h0
        rw [h3]
        simp
    · have := f0 k.toNat #[]
      simpa using this
theorem op_repS : OpR X (binaryOp .Mult) rRepS := by
  intro pins s σ H x y v u Q I rx ry h
  obtain ⟨z, k, rfl, rfl, h1, h2, h3, q⟩ := h
  obtain ⟨t, rfl⟩ := rx
  obtain ⟨t', rfl⟩ := ry
  refine SB.mul ⟨?_, fun a b => ?_, fun a b => ?_⟩ fun t2 k2 => ⟨.str _, H, I.tok _, ⟨t2, rfl⟩, q _ (txt_mul z k)⟩
  · rw [decide_eq_false (by omega), decide_eq_false (by omega)]; rfl
  · have e1 : z.length * k.toNat ≤ 16777216 := by rw [sizeLine_eq] at h2; exact h2
    have e2 : z.length ≤ 16777216 := Nat.le_trans (Nat.le_mul_of_pos_right _ (by omega)) e1
    have e3 : (16777216 : Int) ≤ (2 ^ 63 - 1) / k := (Int.le_ediv_iff_mul_le (by omega)).mpr (by omega)
    omega
  · unfold Builtin.Str.tooLong
    exact decide_eq_false (by omega)
end
def dRepS : D → D → Option D
  | .str s, .int k => if okSz (s.length * k.toNat) && (decide (k < 1000000) && decide (-1000000 < k)) then some (.str (List.replicate k.toNat s).flatten) else none
  | _, _ => none
theorem ad_repS {P : Wd} : Ad2 P rRepS dRepS := fun p H x y a b d Q hp r1 r2 e q => by
  unfold dRepS at e
  split at e
  · obtain ⟨z, rfl, hz⟩ := r1.tick
    have := r2.intE; subst this
    split at e
    · rename_i h
      obtain ⟨h1, h2⟩ := Bool.and_eq_true_iff.mp h
      obtain ⟨h2, h3⟩ := Bool.and_eq_true_iff.mp h2
      cases e
      exact ⟨z, _, rfl, rfl, of_decide_eq_true h2, by rw [slen hz]; exact okSz_le h1, of_decide_eq_true h3, fun z' h' => q _ _ (Same.refl _) (rep_of (by rw [h', hz]))⟩
    · cases e
  · cases e
def fCat : D → D → Option OD
  | .lst xs, .lst ys => if okSz (xs.length + ys.length) then some (lstF (xs ++ ys)) else none
  | _, _ => none
theorem rd_cut {H : Hp} {p : Addr → Prop} {a : Addr} {u : HO} (h : Rd (cut H p) a u) : Rd H a u := Rd.same cut_same h
theorem sqT_cut {K : PySem.W.Frag} {H : Hp} {p : Addr → Prop} {a : Addr} {u : List V} (h : SqT K (cut H p) a u) : SqT K H a u := SqT.same cut_same h
theorem ad_catF {P : Wd} : AdF2 P rCat fCat := fun p H x y a b d Q hp r1 r2 e q => by
  unfold fCat at e
  split at e
  · obtain ⟨l, vs, rfl, hl, rl⟩ := r1.lstG
    obtain ⟨m, ws, rfl, hm, rm⟩ := r2.lstG
    split at e
    · rename_i h
      cases e
      exact ⟨l, m, vs, ws, rfl, rfl, (cut_some hl).2, (cut_some hm).2, by rw [rl.len, rm.len]; exact okSz_le h, fun p' hn => new_lst hp hn (rl.append rm) q⟩
    · cases e
  · cases e
def fRep : D → D → Option OD
  | .lst xs, .int k => if okSz (xs.length * k.toNat) && (decide (k < 1000000) && decide (-1000000 < k)) then some (lstF (List.replicate k.toNat xs).flatten) else none
  | _, _ => none
theorem ad_repF {P : Wd} : AdF2 P rRep fRep := fun p H x y a b d Q hp r1 r2 e q => by
  unfold fRep at e
  split at e
  · obtain ⟨l, vs, rfl, hl, rl⟩ := r1.lstG
    have := r2.intE; subst this
    split at e
    · rename_i h
      obtain ⟨h1, h2⟩ := Bool.and_eq_true_iff.mp h
      obtain ⟨h2, h3⟩ := Bool.and_eq_true_iff.mp h2
      have h2 := of_decide_eq_true h2
      have h3 := of_decide_eq_true h3
      cases e
      exact ⟨l, _, vs, rfl, rfl, (cut_some hl).2, by omega, by omega, by rw [rl.len]; exact okSz_le h1, fun p' hn => new_lst hp hn (rl.rep _) q⟩
    · cases e
  · cases e
/-- + : ints, texts, lists -/
def dAdd (a b : D) : Option D := (dAddI a b).or ((dAddS a b).or ((fCat a b).map OD.er))
abbrev rAddA : R2 := fun x y H Q => rI0 (fun i j => .int (i + j)) x y H Q ∨ ((∃ i j : Str, x = .str i ∧ y = .str j ∧ i.length + j.length ≤ sizeLine ∧ Q (.str (i ++ j)) H) ∨ rCat x y H Q)
theorem ad_add {P : Wd} : Ad2 P rAddA dAdd := Ad2.or ad_addI (Ad2.or ad_addS (Ad2.ofF ad_catF))
section
variable {X : Cx}
theorem op_addA : OpR X (binaryOp .Add) rAddA := op_add.or (op_add_str.or op_cat)
end
@[simp] theorem dAdd_int (i j : Int) : dAdd (.int i) (.int j) = some (.int (i + j)) := rfl
@[simp] theorem dAdd_str (s t : List Nat) : dAdd (.str s) (.str t) = if okSz (s.length + t.length) then some (.str (s ++ t)) else none := by
  show (none : Option D).or ((dAddS (.str s) (.str t)).or none) = _
  rw [Option.none_or, Option.or_none]; rfl
@[simp] theorem dAdd_lst (s t : List D) : dAdd (.lst s) (.lst t) = if okSz (s.length + t.length) then some (.lst (s ++ t)) else none := by
  show (none : Option D).or ((none : Option D).or ((fCat (.lst s) (.lst t)).map OD.er)) = _
  rw [Option.none_or, Option.none_or, fCat]
  split
  · rw [Option.map_some, lstF_er]
  · rfl

/-! ### -, *, //, % -/
def dSub : D → D → Option D
  | .int i, .int j => some (.int (i - j))
  | _, _ => none
theorem ad_sub {P : Wd} : Ad2 P (rI0 fun i j => .int (i - j)) dSub := fun p H x y a b d Q hp r1 r2 e q => by
  unfold dSub at e
  split at e
  · cases e; cases r1; cases r2; exact ⟨_, _, rfl, rfl, q _ _ (Same.refl _) (.int _)⟩
  · cases e
theorem fl_sub : Flat2 dSub := fun a b d e => by
  unfold dSub at e
  split at e
  · cases e; rfl
  · cases e
/-- the size of a product -/
def mulOk (i j : Int) : Bool := decide (i.natAbs < 18446744073709551616) || (decide (j.natAbs < 18446744073709551616) || decide (i.natAbs.log2 + j.natAbs.log2 < 1000000))
theorem mulOk_ok {i j : Int} (h : mulOk i j = true) : IntMulOk i j := by
  unfold mulOk at h
  rcases Bool.or_eq_true_iff.mp h with h | h
  · have h := of_decide_eq_true h
    exact .of_left (intBits_le_64 (by omega) (by omega))
  · rcases Bool.or_eq_true_iff.mp h with h | h
    · have h := of_decide_eq_true h
      exact .of_right (intBits_le_64 (by omega) (by omega))
    · have h : i.natAbs.log2 + j.natAbs.log2 < 1000000 := of_decide_eq_true h
      exact CMulW.ok h
def dMulI : D → D → Option D
  | .int i, .int j => if mulOk i j then some (.int (i * j)) else none
  | _, _ => none
theorem op_mulA {X : Cx} : OpR X (binaryOp .Mult) (rI (fun i j => mulOk i j = true) fun i j => .int (i * j)) := opI fun _ _ _ _ _ _ _ hc q => mul_int q (mulOk_ok hc)
theorem ad_mulI {P : Wd} : Ad2 P (rI (fun i j => mulOk i j = true) fun i j => .int (i * j)) dMulI := fun p H x y a b d Q hp r1 r2 e q => by
  unfold dMulI at e
  split at e
  · cases r1; cases r2
    split at e
    · rename_i h
      cases e
      exact ⟨_, _, rfl, rfl, h, q _ _ (Same.refl _) (.int _)⟩
    · cases e
  · cases e
def dMul (a b : D) : Option D := (dMulI a b).or ((dRepS a b).or ((fRep a b).map OD.er))
abbrev rMulA : R2 := fun x y H Q => rI (fun i j => mulOk i j = true) (fun i j => .int (i * j)) x y H Q ∨ (rRepS x y H Q ∨ rRep x y H Q)
theorem ad_mul {P : Wd} : Ad2 P rMulA dMul := Ad2.or ad_mulI (Ad2.or ad_repS (Ad2.ofF ad_repF))
theorem op_mulAA {X : Cx} : OpR X (binaryOp .Mult) rMulA := op_mulA.or (op_repS.or op_rep)
@[simp] theorem dMul_int (i j : Int) : dMul (.int i) (.int j) = if mulOk i j then some (.int (i * j)) else none := by
  show (dMulI (.int i) (.int j)).or ((none : Option D).or none) = _
  rw [Option.none_or, Option.or_none]; rfl
@[simp] theorem dMul_str (s : List Nat) (k : Int) : dMul (.str s) (.int k) = if okSz (s.length * k.toNat) && (decide (k < 1000000) && decide (-1000000 < k)) then some (.str (List.replicate k.toNat s).flatten) else none := by
  show (none : Option D).or ((dRepS (.str s) (.int k)).or none) = _
  rw [Option.none_or, Option.or_none]; rfl
@[simp] theorem dMul_lst (s : List D) (k : Int) : dMul (.lst s) (.int k) = if okSz (s.length * k.toNat) && (decide (k < 1000000) && decide (-1000000 < k)) then some (.lst (List.replicate k.toNat s).flatten) else none := by
  show (none : Option D).or ((none : Option D).or ((fRep (.lst s) (.int k)).map OD.er)) = _
  rw [Option.none_or, Option.none_or, fRep]
  split
  · rw [Option.map_some, lstF_er]
  · rfl
/-- // -/
def divW (j : Int) : Bool := decide (0 < j) && decide (j.natAbs.log2 < 9000)
def dDiv : D → D → Option D
  | .int i, .int j => if divW j then some (.int (i / j)) else if decide (j ≠ 0) && decide (j.natAbs < 1073741824) then some (.int (i.fdiv j)) else none
  | _, _ => none
abbrev rDivA : R2 := fun x y H Q => rI CDivW (fun i j => .int (i / j)) x y H Q ∨ rI CDivN (fun i j => .int (i.fdiv j)) x y H Q
theorem op_divA {X : Cx} : OpR X (binaryOp .FloorDiv) rDivA := op_fdivW.or op_fdivN
theorem ad_div {P : Wd} : Ad2 P rDivA dDiv := fun p H x y a b d Q hp r1 r2 e q => by
  unfold dDiv at e
  split at e
  · cases r1; cases r2
    split at e
    · rename_i h
      obtain ⟨h1, h2⟩ := Bool.and_eq_true_iff.mp h
      cases e
      exact .inl ⟨_, _, rfl, rfl, ⟨of_decide_eq_true h1, of_decide_eq_true h2⟩, q _ _ (Same.refl _) (.int _)⟩
    · split at e
      · rename_i h
        obtain ⟨h1, h2⟩ := Bool.and_eq_true_iff.mp h
        cases e
        exact .inr ⟨_, _, rfl, rfl, ⟨of_decide_eq_true h1, of_decide_eq_true h2⟩, q _ _ (Same.refl _) (.int _)⟩
      · cases e
  · cases e
theorem fl_div : Flat2 dDiv := fun a b d e => by
  unfold dDiv at e
  split at e
  · split at e
    · cases e; rfl
    · split at e
      · cases e; rfl
      · cases e
  · cases e
/-- % -/
def dMod : D → D → Option D
  | .int i, .int j => if decide (0 < j) then some (.int (i % j)) else if decide (j ≠ 0) then some (.int (i.fmod j)) else none
  | _, _ => none
abbrev rModA : R2 := fun x y H Q => rI (fun _ j => 0 < j) (fun i j => .int (i % j)) x y H Q ∨ rI (fun _ j => j ≠ 0) (fun i j => .int (i.fmod j)) x y H Q
theorem op_modA {X : Cx} : OpR X (binaryOp .Mod) rModA := op_mod.or op_modN
theorem ad_mod {P : Wd} : Ad2 P rModA dMod := fun p H x y a b d Q hp r1 r2 e q => by
  unfold dMod at e
  split at e
  · cases r1; cases r2
    split at e
    · rename_i h
      cases e
      exact .inl ⟨_, _, rfl, rfl, of_decide_eq_true h, q _ _ (Same.refl _) (.int _)⟩
    · split at e
      · rename_i h
        cases e
        exact .inr ⟨_, _, rfl, rfl, of_decide_eq_true h, q _ _ (Same.refl _) (.int _)⟩
      · cases e
  · cases e
theorem fl_mod : Flat2 dMod := fun a b d e => by
  unfold dMod at e
  split at e
  · split at e
    · cases e; rfl
    · split at e
      · cases e; rfl
      · cases e
  · cases e
def dNeg : D → Option D
  | .int i => some (.int (-i))
  | _ => none
theorem ad_neg {P : Wd} : Ad1 P (rU fun i => .int (-i)) dNeg := fun p H x a d Q hp r1 e q => by
  unfold dNeg at e
  split at e
  · cases e; cases r1; exact ⟨_, rfl, q _ _ (Same.refl _) (.int _)⟩
  · cases e

end DL
set_option Elab.async false
set_option linter.all false
set_option maxRecDepth 100000
namespace DL
open PySem PySem.Spec PyProof.Rows L2

/-! ### == -/
mutual
def D.py : D → PyData
  | .non => .none
  | .bl b => .bool b
  | .int i => .int i
  | .str s => .str ⟨s.toArray⟩
  | .lst xs => .list (D.pyL xs)
  | .tup xs => .tuple (D.pyL xs)
  | _ => .none
def D.pyL : List D → List PyData
  | [] => []
  | x :: xs => x.py :: D.pyL xs
end
/- plain data, at most so deep -/
mutual
def D.dt : Nat → D → Bool
  | _, .non => true
  | _, .bl _ => true
  | _, .int _ => true
  | _, .str _ => true
  | n + 1, .lst xs => D.dtL n xs
  | n + 1, .tup xs => D.dtL n xs
  | _, _ => false
def D.dtL : Nat → List D → Bool
  | _, [] => true
  | n, x :: xs => x.dt n && D.dtL n xs
end

theorem D.dtL_all : ∀ (n : Nat) (xs : List D), D.dtL n xs = xs.all (D.dt n)
  | n, [] => by rw [D.dtL]; rfl
  | n, x :: xs => by rw [D.dtL, D.dtL_all n xs]; rfl
@[simp] theorem D.dt_non (n : Nat) : D.dt n .non = true := by cases n <;> rw [D.dt]
@[simp] theorem D.dt_bl (n : Nat) (b : Bool) : D.dt n (.bl b) = true := by cases n <;> rw [D.dt]
@[simp] theorem D.dt_int (n : Nat) (b : Int) : D.dt n (.int b) = true := by cases n <;> rw [D.dt]
@[simp] theorem D.dt_str (n : Nat) (b : List Nat) : D.dt n (.str b) = true := by cases n <;> rw [D.dt]
@[simp] theorem D.dt_lst (n : Nat) (b : List D) : D.dt (n + 1) (.lst b) = b.all (D.dt n) := by rw [D.dt, D.dtL_all]
@[simp] theorem D.dt_tup (n : Nat) (b : List D) : D.dt (n + 1) (.tup b) = b.all (D.dt n) := by rw [D.dt, D.dtL_all]
mutual
theorem D.dp {P : Wd} {H : Hp} {p : Addr → Prop} : ∀ (n : Nat) (d : D) (v : V), d.dt n = true → Rep P (cut H p) v d → Dp P.K H v d.py ∧ d.py.plain = true ∧ d.py.depth ≤ n
  | n, .non, v, h, r => by cases r; rw [D.py]; exact ⟨.non, rfl, Nat.zero_le _⟩
  | n, .bl b, v, h, r => by cases r; rw [D.py]; exact ⟨.bl b, rfl, Nat.zero_le _⟩
  | n, .int b, v, h, r => by cases r; rw [D.py]; exact ⟨.int b, rfl, Nat.zero_le _⟩
  | n, .str b, v, h, r => by
    obtain ⟨z, rfl, hz⟩ := r.tick
    rw [D.py]
    have e : (⟨b.toArray⟩ : Str) = z := by rw [← hz]
    rw [e]
    exact ⟨.str z, rfl, Nat.zero_le _⟩
  | n + 1, .lst xs, v, h, r => by
    obtain ⟨a, vs, rfl, h1, h2⟩ := r.lstE
    rw [D.dt] at h
    obtain ⟨q1, q2, q3⟩ := D.dpL n xs vs h h2
    rw [D.py]
    exact ⟨.lst (.inl (rd_cut h1)) q1, by rw [PyData.plain]; exact q2, by rw [PyData.depth]; omega⟩
  | n + 1, .tup xs, v, h, r => by
    obtain ⟨a, vs, rfl, h1, h2⟩ := r.tupE
    rw [D.dt] at h
    obtain ⟨q1, q2, q3⟩ := D.dpL n xs vs h h2
    rw [D.py]
    exact ⟨.tup (sqT_cut h1) q1, by rw [PyData.plain]; exact q2, by rw [PyData.depth]; omega⟩
  | 0, .lst xs, v, h, r => by simp [D.dt] at h
  | 0, .tup xs, v, h, r => by simp [D.dt] at h
  | n, .dic _, v, h, r => by simp [D.dt] at h
  | n, .obj _ _, v, h, r => by simp [D.dt] at h
  | n, .exn _ _, v, h, r => by simp [D.dt] at h
  | n, .scr _, v, h, r => by simp [D.dt] at h
theorem D.dpL {P : Wd} {H : Hp} {p : Addr → Prop} : ∀ (n : Nat) (d : List D) (v : List V), D.dtL n d = true → RepL P (cut H p) v d → DpAll P.K H v (D.pyL d) ∧ PyData.plainAll (D.pyL d) = true ∧ PyData.depthAll (D.pyL d) ≤ n
  | n, [], v, h, r => by cases r; rw [D.pyL]; exact ⟨.nil, by rw [PyData.plainAll], Nat.zero_le _⟩
  | n, x :: xs, v, h, r => by
    cases r with
    | cons r1 r2 =>
      rw [D.dtL, Bool.and_eq_true] at h
      obtain ⟨q1, q2, q3⟩ := D.dp n x _ h.1 r1
      obtain ⟨p1, p2, p3⟩ := D.dpL n xs _ h.2 r2
      rw [D.pyL]
      exact ⟨.cons q1 p1, by rw [PyData.plainAll, q2, p2]; rfl, by rw [PyData.depthAll]; exact Nat.max_le.mpr ⟨q3, p3⟩⟩
end
/-- == of data -/
def D.eqv (a b : D) : Bool := PyData.eqv a.py b.py
def D.eqvL : List D → List D → Bool
  | [], [] => true
  | x :: xs, y :: ys => D.eqv x y && D.eqvL xs ys
  | _, _ => false
theorem eqvAll_pyL : ∀ xs ys : List D, PyData.eqvAll (D.pyL xs) (D.pyL ys) = D.eqvL xs ys
  | [], [] => by rw [D.pyL, PyData.eqvAll, D.eqvL]
  | [], y :: ys => by simp [D.pyL, PyData.eqvAll, D.eqvL]
  | x :: xs, [] => by simp [D.pyL, PyData.eqvAll, D.eqvL]
  | x :: xs, y :: ys => by rw [D.pyL, D.pyL, PyData.eqvAll, D.eqvL, eqvAll_pyL xs ys]; rfl
@[simp] theorem eqv_int (i j : Int) : D.eqv (.int i) (.int j) = (i == j) := by unfold D.eqv; rw [D.py, D.py, PyData.eqv]
@[simp] theorem eqv_bl (i j : Bool) : D.eqv (.bl i) (.bl j) = (i == j) := by unfold D.eqv; rw [D.py, D.py, PyData.eqv]
@[simp] theorem eqv_str (i j : List Nat) : D.eqv (.str i) (.str j) = (i == j) := by
  unfold D.eqv; rw [D.py, D.py, PyData.eqv]
  rw [Bool.eq_iff_iff]
  simp
@[simp] theorem eqv_non : D.eqv .non .non = true := by unfold D.eqv; rw [D.py, PyData.eqv]
@[simp] theorem eqv_lst (i j : List D) : D.eqv (.lst i) (.lst j) = D.eqvL i j := by unfold D.eqv; rw [D.py, D.py, PyData.eqv, eqvAll_pyL]
@[simp] theorem eqv_tup (i j : List D) : D.eqv (.tup i) (.tup j) = D.eqvL i j := by unfold D.eqv; rw [D.py, D.py, PyData.eqv, eqvAll_pyL]
@[simp] theorem eqv_non_int (i : Int) : D.eqv .non (.int i) = false := by unfold D.eqv; rw [D.py, D.py, PyData.eqv]
@[simp] theorem eqv_int_non (i : Int) : D.eqv (.int i) .non = false := by unfold D.eqv; rw [D.py, D.py, PyData.eqv]
@[simp] theorem eqv_non_str (i : List Nat) : D.eqv .non (.str i) = false := by unfold D.eqv; rw [D.py, D.py, PyData.eqv]
@[simp] theorem eqv_str_non (i : List Nat) : D.eqv (.str i) .non = false := by unfold D.eqv; rw [D.py, D.py, PyData.eqv]
@[simp] theorem eqv_int_str (j : Int) (i : List Nat) : D.eqv (.int j) (.str i) = false := by unfold D.eqv; rw [D.py, D.py, PyData.eqv]
@[simp] theorem eqv_str_int (j : Int) (i : List Nat) : D.eqv (.str i) (.int j) = false := by unfold D.eqv; rw [D.py, D.py, PyData.eqv]
@[simp] theorem eqv_non_lst (i : List D) : D.eqv .non (.lst i) = false := by unfold D.eqv; rw [D.py, D.py, PyData.eqv]
@[simp] theorem eqv_lst_non (i : List D) : D.eqv (.lst i) .non = false := by unfold D.eqv; rw [D.py, D.py, PyData.eqv]
@[simp] theorem eqv_non_tup (i : List D) : D.eqv .non (.tup i) = false := by unfold D.eqv; rw [D.py, D.py, PyData.eqv]
@[simp] theorem eqv_tup_non (i : List D) : D.eqv (.tup i) .non = false := by unfold D.eqv; rw [D.py, D.py, PyData.eqv]
@[simp] theorem eqv_lst_tup (i j : List D) : D.eqv (.lst i) (.tup j) = false := by unfold D.eqv; rw [D.py, D.py, PyData.eqv]
@[simp] theorem eqv_tup_lst (i j : List D) : D.eqv (.tup i) (.lst j) = false := by unfold D.eqv; rw [D.py, D.py, PyData.eqv]
@[simp] theorem eqvL_nil : D.eqvL [] [] = true := rfl
@[simp] theorem eqvL_cons (x y : D) (xs ys : List D) : D.eqvL (x :: xs) (y :: ys) = (D.eqv x y && D.eqvL xs ys) := rfl
@[simp] theorem eqvL_nil_cons (y : D) (ys : List D) : D.eqvL [] (y :: ys) = false := rfl
@[simp] theorem eqvL_cons_nil (y : D) (ys : List D) : D.eqvL (y :: ys) [] = false := rfl
/-- lists of one kind -/
theorem eqvL_map {α : Type} [DecidableEq α] (f : α → D) (h : ∀ a b, D.eqv (f a) (f b) = decide (a = b)) : ∀ xs ys : List α, D.eqvL (xs.map f) (ys.map f) = decide (xs = ys)
  | [], [] => by simp
  | [], y :: ys => by simp
  | x :: xs, [] => by simp
  | x :: xs, y :: ys => by
    rw [List.map_cons, List.map_cons, eqvL_cons, h, eqvL_map f h xs ys, Bool.eq_iff_iff]
    simp
def dEq (a b : D) : Option D := if a.dt 20 && b.dt 20 then some (.bl (D.eqv a b)) else none
def dNe (a b : D) : Option D := if a.dt 20 && b.dt 20 then some (.bl (!D.eqv a b)) else none
theorem fl_eq : Flat2 dEq := fun a b d e => by
  unfold dEq at e; split at e
  · cases e; rfl
  · cases e
theorem fl_ne : Flat2 dNe := fun a b d e => by
  unfold dNe at e; split at e
  · cases e; rfl
  · cases e
def rEqP (P : Wd) (neg : Bool) : R2 := fun x y H Q => ∃ p d e, Rep P (cut H p) x d ∧ Rep P (cut H p) y e ∧ d.dt 20 = true ∧ e.dt 20 = true ∧ Q (.bl (if neg then !D.eqv d e else D.eqv d e)) H
section
variable {X : Cx} {P : Wd}
theorem op_eqP (hK : P.K = X.K) (hu : X.A.units + 64 < cLine) : OpR X (compareOp .Eq) (rEqP P false) := by
  intro pins s σ H x y v u Q I rx ry h
  obtain ⟨p, d, e, hd, he, sd, se, q⟩ := h
  obtain ⟨d1, d2, d3⟩ := D.dp 20 d x sd hd
  obtain ⟨e1, e2, e3⟩ := D.dp 20 e y se he
  rw [hK] at d1 e1
  obtain ⟨as, r1⟩ := Dp.reads I _ x v d1 rx
  obtain ⟨bs, r2⟩ := Dp.reads I _ y u e1 ry
  refine SeqAt.eq_plain r1 r2 d2 e2 ?_ ⟨.bl _, H, I, rfl, q⟩
  have : min d.py.depth e.py.depth ≤ 20 := Nat.le_trans (Nat.min_le_left _ _) d3
  omega
theorem op_neP (hK : P.K = X.K) (hu : X.A.units + 64 < cLine) : OpR X (compareOp .NotEq) (rEqP P true) := by
  intro pins s σ H x y v u Q I rx ry h
  obtain ⟨p, d, e, hd, he, sd, se, q⟩ := h
  obtain ⟨d1, d2, d3⟩ := D.dp 20 d x sd hd
  obtain ⟨e1, e2, e3⟩ := D.dp 20 e y se he
  rw [hK] at d1 e1
  obtain ⟨as, r1⟩ := Dp.reads I _ x v d1 rx
  obtain ⟨bs, r2⟩ := Dp.reads I _ y u e1 ry
  refine SeqAt.ne_plain r1 r2 d2 e2 ?_ ⟨.bl _, H, I, rfl, q⟩
  have : min d.py.depth e.py.depth ≤ 20 := Nat.le_trans (Nat.min_le_left _ _) d3
  omega
theorem ad_eq : Ad2 P (rEqP P false) dEq := fun p H x y a b d Q hp r1 r2 e q => by
  unfold dEq at e
  split at e
  · rename_i h
    obtain ⟨h1, h2⟩ := Bool.and_eq_true_iff.mp h
    cases e
    exact ⟨p, a, b, r1, r2, h1, h2, q _ _ (Same.refl _) (.bl _)⟩
  · cases e
theorem ad_ne : Ad2 P (rEqP P true) dNe := fun p H x y a b d Q hp r1 r2 e q => by
  unfold dNe at e
  split at e
  · rename_i h
    obtain ⟨h1, h2⟩ := Bool.and_eq_true_iff.mp h
    cases e
    exact ⟨p, a, b, r1, r2, h1, h2, q _ _ (Same.refl _) (.bl _)⟩
  · cases e
end
end DL
set_option Elab.async false
set_option linter.all false
set_option maxRecDepth 100000
namespace DL
open PySem PySem.Spec PyProof.Rows L2

/-! ### order -/
def strLt (s t : List Nat) : Bool := decide (s < t)
def dCmp (fi : Int → Int → Bool) (fs : List Nat → List Nat → Bool) : D → D → Option D
  | .int i, .int j => some (.bl (fi i j))
  | .str s, .str t => some (.bl (fs s t))
  | _, _ => none
def dLt : D → D → Option D := dCmp (fun i j => decide (i < j)) (fun s t => decide (s < t))
def dLe : D → D → Option D := dCmp (fun i j => decide (i ≤ j)) (fun s t => !decide (t < s))
def dGt : D → D → Option D := dCmp (fun i j => decide (j < i)) (fun s t => decide (t < s))
def dGe : D → D → Option D := dCmp (fun i j => decide (j ≤ i)) (fun s t => !decide (s < t))
@[simp] theorem dLt_int (i j : Int) : dLt (.int i) (.int j) = some (.bl (decide (i < j))) := rfl
@[simp] theorem dLe_int (i j : Int) : dLe (.int i) (.int j) = some (.bl (decide (i ≤ j))) := rfl
@[simp] theorem dGt_int (i j : Int) : dGt (.int i) (.int j) = some (.bl (decide (j < i))) := rfl
@[simp] theorem dGe_int (i j : Int) : dGe (.int i) (.int j) = some (.bl (decide (j ≤ i))) := rfl
@[simp] theorem dLt_str (i j : List Nat) : dLt (.str i) (.str j) = some (.bl (decide (i < j))) := rfl
@[simp] theorem dLe_str (i j : List Nat) : dLe (.str i) (.str j) = some (.bl (!decide (j < i))) := rfl
@[simp] theorem dGt_str (i j : List Nat) : dGt (.str i) (.str j) = some (.bl (decide (j < i))) := rfl
@[simp] theorem dGe_str (i j : List Nat) : dGe (.str i) (.str j) = some (.bl (!decide (i < j))) := rfl
theorem fl_cmp {fi : Int → Int → Bool} {fs : List Nat → List Nat → Bool} : Flat2 (dCmp fi fs) := fun a b d e => by
  unfold dCmp at e
  split at e
  · cases e; rfl
  · cases e; rfl
  · cases e
abbrev rCmp (fi : Int → Int → Bool) (fs : List Nat → List Nat → Bool) : R2 := fun x y H Q => rI0 (fun i j => .bl (fi i j)) x y H Q ∨ ∃ i j : Str, x = .str i ∧ y = .str j ∧ Q (.bl (fs i.cps.toList j.cps.toList)) H
theorem ad_cmp {P : Wd} {fi : Int → Int → Bool} {fs : List Nat → List Nat → Bool} : Ad2 P (rCmp fi fs) (dCmp fi fs) := fun p H x y a b d Q hp r1 r2 e q => by
  unfold dCmp at e
  split at e
  · cases e; cases r1; cases r2; exact .inl ⟨_, _, rfl, rfl, q _ _ (Same.refl _) (.bl _)⟩
  · cases e
    obtain ⟨z, rfl, hz⟩ := r1.tick
    obtain ⟨w, rfl, hw⟩ := r2.tick
    exact .inr ⟨z, w, rfl, rfl, q _ _ (Same.refl _) (by rw [hz, hw]; exact .bl _)⟩
  · cases e
section
variable {X : Cx}
theorem op_ltA : OpR X (compareOp .Lt) (rCmp (fun i j => decide (i < j)) (fun s t => decide (s < t))) := op_lt.or op_lt_str
theorem op_leA : OpR X (compareOp .LtE) (rCmp (fun i j => decide (i ≤ j)) (fun s t => !decide (t < s))) := op_le.or op_le_str
theorem op_gtA : OpR X (compareOp .Gt) (rCmp (fun i j => decide (j < i)) (fun s t => decide (t < s))) := op_gt.or op_gt_str
theorem op_geA : OpR X (compareOp .GtE) (rCmp (fun i j => decide (j ≤ i)) (fun s t => !decide (s < t))) := op_ge.or op_ge_str
end
/-! ### is None -/
def dIsN : D → D → Option D
  | .non, .non => some (.bl true)
  | .bl _, .non | .int _, .non | .str _, .non | .lst _, .non | .tup _, .non | .dic _, .non | .obj _ _, .non => some (.bl false)
  | _, _ => none
def dNotN : D → D → Option D
  | .non, .non => some (.bl false)
  | .bl _, .non | .int _, .non | .str _, .non | .lst _, .non | .tup _, .non | .dic _, .non | .obj _ _, .non => some (.bl true)
  | _, _ => none
@[simp] theorem dIsN_non : dIsN .non .non = some (.bl true) := rfl
@[simp] theorem dIsN_int (i : Int) : dIsN (.int i) .non = some (.bl false) := rfl
@[simp] theorem dIsN_bl (i : Bool) : dIsN (.bl i) .non = some (.bl false) := rfl
@[simp] theorem dIsN_str (i : List Nat) : dIsN (.str i) .non = some (.bl false) := rfl
@[simp] theorem dIsN_lst (i : List D) : dIsN (.lst i) .non = some (.bl false) := rfl
@[simp] theorem dIsN_tup (i : List D) : dIsN (.tup i) .non = some (.bl false) := rfl
@[simp] theorem dIsN_obj (c : Str) (i : List (Str × D)) : dIsN (.obj c i) .non = some (.bl false) := rfl
@[simp] theorem dNotN_non : dNotN .non .non = some (.bl false) := rfl
@[simp] theorem dNotN_int (i : Int) : dNotN (.int i) .non = some (.bl true) := rfl
@[simp] theorem dNotN_bl (i : Bool) : dNotN (.bl i) .non = some (.bl true) := rfl
@[simp] theorem dNotN_str (i : List Nat) : dNotN (.str i) .non = some (.bl true) := rfl
@[simp] theorem dNotN_lst (i : List D) : dNotN (.lst i) .non = some (.bl true) := rfl
@[simp] theorem dNotN_tup (i : List D) : dNotN (.tup i) .non = some (.bl true) := rfl
@[simp] theorem dNotN_obj (c : Str) (i : List (Str × D)) : dNotN (.obj c i) .non = some (.bl true) := rfl
theorem rep_nn {P : Wd} {G : Hp} {x : V} {d : D} (r : Rep P G x d) : decide (x = .non) = (match d with | .non => true | _ => false) := by
  cases r <;> simp
theorem ad_isN {P : Wd} : Ad2 P (fun x y H Q => y = .non ∧ Q (.bl (decide (x = .non))) H) dIsN := fun p H x y a b d Q hp r1 r2 e q => by
  cases b with
  | non =>
    have := r2.nonE; subst this
    refine ⟨rfl, ?_⟩
    rw [rep_nn r1]
    cases a <;> first | (cases e; exact q _ _ (Same.refl _) (.bl _)) | cases e
  | _ => cases a <;> cases e
theorem ad_notN {P : Wd} : Ad2 P (fun x y H Q => y = .non ∧ Q (.bl (!decide (x = .non))) H) dNotN := fun p H x y a b d Q hp r1 r2 e q => by
  cases b with
  | non =>
    have := r2.nonE; subst this
    refine ⟨rfl, ?_⟩
    rw [rep_nn r1]
    cases a <;> first | (cases e; exact q _ _ (Same.refl _) (.bl _)) | cases e
  | _ => cases a <;> cases e
theorem fl_isN : Flat2 dIsN := fun a b d e => by
  cases b <;> cases a <;> cases e <;> rfl
theorem fl_notN : Flat2 dNotN := fun a b d e => by
  cases b <;> cases a <;> cases e <;> rfl
end DL
set_option Elab.async false
set_option linter.all false
set_option maxRecDepth 100000
namespace DL
open PySem PySem.Spec PyProof.Rows L2

/-! ## getting at the items of data -/
def erE (f : En → R OD) : En → R D := fun ρ => (f ρ).bind fun od => .ok od.er
section
variable {X : Cx} {B : Bs} {W : WX} {E E1 E2 : List Nat} {f f1 f2 : En → R D} {fo : En → R OD} {fa : En → R (List D)} {e e1 e2 e3 : Expr} {es : List Expr} {pos : Pos}
theorem imp_ofF {σ : L2.St} {H : Hp} {Q : VK} (h : tD B W E (erE fo) σ H Q) : tF B W E fo σ H Q := by
  obtain ⟨ρ, As, S, h⟩ := h
  refine ⟨ρ, As, S, ?_⟩
  unfold erE at h
  cases e : fo ρ with
  | ok d =>
    rw [e, R.bind_ok] at h
    exact fun v A H' s nA fA ro => h v H' s (er_new S.hth fA ro)
  | ex c fs => rw [e] at h; exact h
  | st => rw [e] at h; exact h
theorem d_ofF (h : PE X e (tF B W E fo)) : PE X e (tD B W E (erE fo)) := h.imp fun _ _ _ => imp_ofF
def op2F (g : D → D → Option OD) (f1 f2 : En → R D) : En → R OD := fun ρ => (f1 ρ).bind fun a => (f2 ρ).bind fun b => .ofO (g a b)
def opAF (g : List D → Option OD) (f : En → R (List D)) : En → R OD := fun ρ => (f ρ).bind fun a => .ofO (g a)
theorem imp_o2F {r : R2} {g : D → D → Option OD} (hg : AdF2 B.P r g) {σ : L2.St} {H : Hp} {Q : VK} (h : tF B W (E1 ++ E2) (op2F g f1 f2) σ H Q) : tOp r (tD B W E1 f1) (tD B W E2 f2) σ H Q := by
  obtain ⟨ρ, As, S, h⟩ := h
  refine tD_bind S h fun a v H1 s1 S1 r1 h1 => ?_
  refine tD_bind S1 h1 fun b u H2 s2 S2 r2 h2 => ?_
  cases e : g a b with
  | none => rw [e] at h2; exact h2.elim
  | some d =>
    rw [e] at h2
    refine hg (hid B As (E1 ++ E2)) H2 v u a b d Q S2.hth (r1.up (cut_mono s2 (hid_mono fun i hi => List.mem_append_left _ hi))) (r2.up (cut_mono (Same.refl _) (hid_mono fun i hi => List.mem_append_right _ hi))) e fun w A H3 s3 nA fA r3 => ?_
    exact h2 w A H3 ((s1.trans s2).trans s3) nA (fun a ha => (s1.trans s2).free (fA a ha)) r3
theorem imp_oAF {r : List V → Hp → VK → Prop} {g : List D → Option OD} (hg : AdFA B.P r g) {σ : L2.St} {H : Hp} {Q : VK} (h : tF B W E (opAF g fa) σ H Q) : tA B W E fa σ H (fun x H1 => r x H1 Q) := by
  obtain ⟨ρ, As, S, h⟩ := h
  refine tA_bind S h fun a v H1 s1 S1 r1 h1 => ?_
  cases e : g a with
  | none => rw [e] at h1; exact h1.elim
  | some d =>
    rw [e] at h1
    exact hg (hid B As E) H1 v a d Q S1.hth r1 e fun w A H3 s3 nA fA r3 => h1 w A H3 (s1.trans s3) nA (fun a ha => s1.free (fA a ha)) r3
theorem f_op {op : Operator} {r : R2} {g : D → D → Option OD} (ho : OpR X (binaryOp op) r) (hg : AdF2 B.P r g) (h1 : PE X e1 (tD B W E1 f1)) (h2 : PE X e2 (tD B W E2 f2)) : PE X (.BinOp e1 op e2 pos) (tF B W (E1 ++ E2) (op2F g f1 f2)) :=
  (pe_op ho h1 h2).imp fun _ _ _ => imp_o2F hg
/-- + and * of lists that are new -/
theorem f_cat (h1 : PE X e1 (tD B W E1 f1)) (h2 : PE X e2 (tD B W E2 f2)) : PE X (.BinOp e1 .Add e2 pos) (tF B W (E1 ++ E2) (op2F fCat f1 f2)) := f_op op_cat ad_catF h1 h2
theorem f_rep (h1 : PE X e1 (tD B W E1 f1)) (h2 : PE X e2 (tD B W E2 f2)) : PE X (.BinOp e1 .Mult e2 pos) (tF B W (E1 ++ E2) (op2F fRep f1 f2)) := f_op op_rep ad_repF h1 h2
theorem d_add (h1 : PE X e1 (tD B W E1 f1)) (h2 : PE X e2 (tD B W E2 f2)) : PE X (.BinOp e1 .Add e2 pos) (tD B W (E1 ++ E2) (op2 dAdd f1 f2)) := d_op op_addA ad_add h1 h2
theorem d_mul (h1 : PE X e1 (tD B W E1 f1)) (h2 : PE X e2 (tD B W E2 f2)) : PE X (.BinOp e1 .Mult e2 pos) (tD B W (E1 ++ E2) (op2 dMul f1 f2)) := d_op op_mulAA ad_mul h1 h2
theorem d_sub (h1 : PE X e1 (tD B W E1 f1)) (h2 : PE X e2 (tD B W E2 f2)) : PE X (.BinOp e1 .Sub e2 pos) (tD B W [] (op2 dSub f1 f2)) := d_opF op_sub ad_sub fl_sub h1 h2
theorem d_div (h1 : PE X e1 (tD B W E1 f1)) (h2 : PE X e2 (tD B W E2 f2)) : PE X (.BinOp e1 .FloorDiv e2 pos) (tD B W [] (op2 dDiv f1 f2)) := d_opF op_divA ad_div fl_div h1 h2
theorem d_mod (h1 : PE X e1 (tD B W E1 f1)) (h2 : PE X e2 (tD B W E2 f2)) : PE X (.BinOp e1 .Mod e2 pos) (tD B W [] (op2 dMod f1 f2)) := d_opF op_modA ad_mod fl_mod h1 h2
theorem d_neg (h1 : PE X e1 (tD B W E1 f1)) : PE X (.UnaryOp .USub e1 pos) (tD B W E1 (op1 dNeg f1)) := d_un un_neg ad_neg h1

/-! ### a[i] -/
theorem atI_map {α β : Type} (g : α → β) {xs : List α} {i : Int} {x : α} (h : L2.atI xs i = some x) : L2.atI (xs.map g) i = some (g x) := by
  unfold L2.atI at h ⊢
  rw [List.length_map]
  cases e1 : ixN xs.length i with
  | none => rw [e1] at h; cases h
  | some j =>
    rw [e1, Option.bind_some] at h
    rw [Option.bind_some, List.getElem?_map, h]; rfl
theorem RepL.atI {P : Wd} {G : Hp} {vs : List V} {ds : List D} (h : RepL P G vs ds) {i : Int} {d : D} (e : L2.atI ds i = some d) : ∃ v, L2.atI vs i = some v ∧ Rep P G v d := by
  unfold L2.atI at e ⊢
  rw [h.len]
  cases e1 : ixN ds.length i with
  | none => rw [e1] at e; cases e
  | some j =>
    rw [e1, Option.bind_some] at e
    rw [Option.bind_some]
    exact h.getD e
def dIx : D → D → Option D
  | .scr ns, .int i => (L2.atI ns i).map D.int
  | .lst xs, .int i => L2.atI xs i
  | .tup xs, .int i => L2.atI xs i
  | .str s, .int i => if okSz s.length then (L2.atI s i).map fun c => .str [c] else none
  | _, _ => none
@[simp] theorem dIx_scr (ns : List Int) (i : Int) : dIx (.scr ns) (.int i) = (L2.atI ns i).map D.int := rfl
@[simp] theorem dIx_lst (xs : List D) (i : Int) : dIx (.lst xs) (.int i) = L2.atI xs i := rfl
@[simp] theorem dIx_tup (xs : List D) (i : Int) : dIx (.tup xs) (.int i) = L2.atI xs i := rfl
@[simp] theorem dIx_str (xs : List Nat) (i : Int) : dIx (.str xs) (.int i) = if okSz xs.length then (L2.atI xs i).map fun c => .str [c] else none := rfl
theorem ad_ix {P : Wd} : Ad2 P (rIx P.K) dIx := fun p H x y a b d Q hp r1 r2 e q => by
  unfold dIx at e
  split at e
  · rename_i ns i
    cases r1 with
    | @scr l _ h =>
    have := r2.intE; subst this
    cases e1 : L2.atI ns i with
    | none => rw [e1] at e; cases e
    | some j =>
      rw [e1] at e
      cases e
      refine .inl ⟨l, ns.map V.int, _, .int j, rfl, rfl, Same.seq cut_same h, ?_, q _ _ (Same.refl _) (.int _)⟩
      exact atI_map V.int e1
  · obtain ⟨l, vs, rfl, hl, rl⟩ := r1.lstE
    have := r2.intE; subst this
    obtain ⟨v, e1, rv⟩ := rl.atI e
    exact .inl ⟨l, vs, _, v, rfl, rfl, .inl (rd_cut hl), e1, q _ _ (Same.refl _) rv⟩
  · obtain ⟨l, vs, rfl, hl, rl⟩ := r1.tupE
    have := r2.intE; subst this
    obtain ⟨v, e1, rv⟩ := rl.atI e
    exact .inr (.inl ⟨l, vs, _, v, rfl, rfl, sqT_cut hl, e1, q _ _ (Same.refl _) rv⟩)
  · obtain ⟨z, rfl, hz⟩ := r1.tick
    have := r2.intE; subst this
    split at e
    · rename_i hk
      rw [← hz] at e
      cases e1 : L2.atI z.cps.toList _ with
      | none => rw [e1] at e; cases e
      | some c =>
        rw [e1] at e
        cases e
        exact .inr (.inr ⟨z, _, c, rfl, rfl, by rw [slen hz]; exact okSz_le hk, e1, q _ _ (Same.refl _) (rep_of rfl)⟩)
    · cases e
  · cases e
theorem d_ix (hK : B.P.K = X.K) (hs : PlainIx e2) (h1 : PE X e1 (tD B W E1 f1)) (h2 : PE X e2 (tD B W E2 f2)) : PE X (.Subscript e1 e2 pos) (tD B W (E1 ++ E2) (op2 dIx f1 f2)) :=
  (pe_ix (by rw [hK]; exact ix_seq) h1 h2 hs).imp fun _ _ _ => imp_op2 ad_ix

/-! ### slices -/
def cutN {α : Type} (xs : List α) (lo hi : Option Int) : List α := (xs.drop (HT.sIx xs.length 0 lo)).take (HT.sIx xs.length xs.length hi - HT.sIx xs.length 0 lo)
theorem RepL.cutN {P : Wd} {G : Hp} {vs : List V} {ds : List D} (h : RepL P G vs ds) (lo hi : Option Int) : RepL P G (cutV vs lo hi) (DL.cutN ds lo hi) := by
  unfold cutV DL.cutN
  rw [h.len]
  exact (h.drop _).take _
theorem cutS_list {z : Str} {s : List Nat} (hz : z.cps.toList = s) (lo hi : Option Int) : (cutS z lo hi).cps.toList = cutN s lo hi := by
  unfold cutS cutN
  rw [slen hz, hz]
def tP (B : Bs) (W : WX) (f : En → R (Option Int)) : TO := fun σ H Q => ∃ ρ As, Sta B σ H ρ As ∧ (f ρ).go (fun o => ∀ H', Same H H' → Q o H') (Exk B W σ H)
def pN : En → R (Option Int) := fun _ => .ok none
def asI : D → Option Int
  | .int i => some i
  | _ => none
def pI (f : En → R D) : En → R (Option Int) := fun ρ => (f ρ).bind fun d => .ofO ((asI d).map some)
theorem _root_.L2.PO.imp {o : Option Expr} {t t' : TO} (h : PO X o t) (i : ∀ σ H Q, t' σ H Q → t σ H Q) : PO X o t' := ⟨fun p s σ H Q I q => h.run p s σ H Q I (i σ H Q q)⟩
theorem p_none : PO X none (tP B W pN) := po_none.imp fun σ H Q ⟨ρ, As, S, h⟩ => h H (Same.refl _)
theorem p_some (h : PE X e (tD B W E f)) : PO X (some e) (tP B W (pI f)) := (po_some h).imp fun σ H Q ⟨ρ, As, S, q⟩ => tD_bind S q fun d v H1 s1 S1 r1 q1 => by
  cases d with
  | int i => cases r1; exact ⟨i, rfl, q1 H1 s1⟩
  | _ => exact q1.elim
theorem tP_bind {β : Type} {σ : L2.St} {H : Hp} {ρ : En} {As : Ow} {f : En → R (Option Int)} {k : Option Int → R β} {KO : β → Prop} {T : Option Int → Hp → Prop} (S : Sta B σ H ρ As) (h : ((f ρ).bind k).go KO (Exk B W σ H))
    (hk : ∀ d H1, Same H H1 → Sta B σ H1 ρ As → (k d).go KO (Exk B W σ H1) → T d H1) : tP B W f σ H T := by
  refine ⟨ρ, As, S, ?_⟩
  cases e : f ρ with
  | ok d =>
    rw [e] at h
    intro H1 s
    refine hk d H1 s (S.same s) ?_
    revert h
    rw [R.bind_ok]
    cases k d with
    | ok b => exact fun z => z
    | ex c fs => exact fun z => Exk.same z s
    | st => exact fun z => z
  | ex c fs => rw [e] at h; exact h
  | st => rw [e] at h; exact h
def sliceV : D → Option Int → Option Int → Option D
  | .lst xs, lo, hi => some (.lst (cutN xs lo hi))
  | .str s, lo, hi => if okSz s.length then some (.str (cutN s lo hi)) else none
  | _, _, _ => none
@[simp] theorem sliceV_lst (xs : List D) (lo hi : Option Int) : sliceV (.lst xs) lo hi = some (.lst (cutN xs lo hi)) := rfl
@[simp] theorem sliceV_str (s : List Nat) (lo hi : Option Int) : sliceV (.str s) lo hi = if okSz s.length then some (.str (cutN s lo hi)) else none := rfl
def sliceE (f : En → R D) (lo hi : En → R (Option Int)) : En → R D := fun ρ => (f ρ).bind fun d => (lo ρ).bind fun l => (hi ρ).bind fun h => .ofO (sliceV d l h)
def sliceF (f : En → R D) (lo hi : En → R (Option Int)) : En → R OD := fun ρ => (f ρ).bind fun d => (lo ρ).bind fun l => (hi ρ).bind fun h => match d with
  | .lst xs => .ok (lstF (cutN xs l h))
  | _ => .st
theorem f_sl {lo hi : Option Expr} {fl fh : En → R (Option Int)} {p2 : Pos} (hK : B.P.K = X.K) (h1 : PE X e (tD B W E f)) (hl : PO X lo (tP B W fl)) (hh : PO X hi (tP B W fh)) : PE X (.Subscript e (.Slice lo hi none p2) pos) (tF B W E (sliceF f fl fh)) :=
  (pe_slice sl_list h1 hl hh).imp fun σ H Q ⟨ρ, As, S, q⟩ => by
    refine tD_bind S q fun d v H1 s1 S1 r1 q1 => ?_
    refine tP_bind S1 q1 fun l H2 s2 S2 q2 => ?_
    refine tP_bind S2 q2 fun u H3 s3 S3 q3 => ?_
    cases d with
    | lst xs =>
      obtain ⟨a, vs, rfl, ha, ra⟩ := r1.lstE
      have s23 := s2.trans s3
      refine ⟨a, vs, rfl, .inl (Rd.same s23 (rd_cut ha)), fun p hp => ?_⟩
      refine new_lst S3.hth hp (RepL.cutN (ra.up (cut_mono s23 fun _ z => z)) l u) fun v A H' s nA fA ro => ?_
      exact q3 v A H' (s1.trans (s23.trans s)) nA (fun a ha => (s1.trans s23).free (fA a ha)) ro
    | _ => exact q3.elim
theorem d_sl {lo hi : Option Expr} {fl fh : En → R (Option Int)} {p2 : Pos} (hK : B.P.K = X.K) (h1 : PE X e (tD B W E f)) (hl : PO X lo (tP B W fl)) (hh : PO X hi (tP B W fh)) : PE X (.Subscript e (.Slice lo hi none p2) pos) (tD B W E (sliceE f fl fh)) :=
  (pe_slice (sl_list.or sl_str) h1 hl hh).imp fun σ H Q ⟨ρ, As, S, q⟩ => by
    refine tD_bind S q fun d v H1 s1 S1 r1 q1 => ?_
    refine tP_bind S1 q1 fun l H2 s2 S2 q2 => ?_
    refine tP_bind S2 q2 fun u H3 s3 S3 q3 => ?_
    have s23 := s2.trans s3
    cases d with
    | lst xs =>
      obtain ⟨a, vs, rfl, ha, ra⟩ := r1.lstE
      refine .inl ⟨a, vs, rfl, .inl (Rd.same s23 (rd_cut ha)), fun p hp => ?_⟩
      refine new_lst S3.hth hp (RepL.cutN (ra.up (cut_mono s23 fun _ z => z)) l u) fun v A H' s nA fA ro => ?_
      exact q3 v H' (s1.trans (s23.trans s)) (by have := er_new S3.hth fA ro; rwa [lstF_er] at this)
    | str z =>
      obtain ⟨z, rfl, hz⟩ := r1.tick
      rw [sliceV_str] at q3
      split at q3
      · rename_i hk
        exact .inr ⟨z, rfl, by rw [slen hz]; exact okSz_le hk, q3 _ H3 (s1.trans s23) (rep_of (cutS_list hz l u))⟩
      · exact q3.elim
    | _ => exact q3.elim

/-! ### displays -/
def lstE (fa : En → R (List D)) : En → R OD := fun ρ => (fa ρ).bind fun ds => if okSz ds.length then .ok (lstF ds) else .st
def tupE (fa : En → R (List D)) : En → R D := fun ρ => (fa ρ).bind fun ds => if okSz ds.length then .ok (.tup ds) else .st
theorem f_lst (h : PA X es (tA B W E fa)) : PE X (.List es pos) (tF B W E (lstE fa)) := (pe_lst h).imp fun σ H Q ⟨ρ, As, S, q⟩ => tA_bind S q fun ds vs H1 s1 S1 r1 q1 => by

  split at q1
  · rename_i hk
    refine ⟨by rw [r1.len]; exact okSz_le hk, fun p hp => new_lst S1.hth hp r1 fun v A H' s nA fA ro => ?_⟩
    exact q1 v A H' (s1.trans s) nA (fun a ha => s1.free (fA a ha)) ro
  · exact q1.elim
theorem d_tup {x1 : Nat} (h : PA X es (tA B W E fa)) : PE X (.Tuple es x1 pos) (tD B W E (tupE fa)) := (pe_tup h).imp fun σ H Q ⟨ρ, As, S, q⟩ => tA_bind S q fun ds vs H1 s1 S1 r1 q1 => by

  split at q1
  · rename_i hk
    exact ⟨by rw [r1.len]; exact okSz_le hk, fun p hp => new_tup S1.hth hp r1 fun v H' s ro => q1 v H' (s1.trans s) ro⟩
  · exact q1.elim
end
end DL
set_option Elab.async false
set_option linter.all false
set_option maxRecDepth 100000
namespace DL
open PySem PySem.Spec PyProof.Rows L2

/-! ## in, is -/
theorem pyL_any (d : D) : ∀ ys : List D, (D.pyL ys).any (fun z => PyData.eqv z d.py) = ys.any fun y => D.eqv y d
  | [] => by rw [D.pyL]; rfl
  | y :: ys => by rw [D.pyL, List.any_cons, List.any_cons, pyL_any d ys]; rfl
def dIn : D → D → Option D
  | x, .lst ys => if x.dt 20 && ys.all (D.dt 20) then some (.bl (ys.any fun y => D.eqv y x)) else none
  | x, .tup ys => if x.dt 20 && ys.all (D.dt 20) then some (.bl (ys.any fun y => D.eqv y x)) else none
  | .str [c], .str s => some (.bl (decide (c ∈ s)))
  | _, _ => none
def dNotIn (x y : D) : Option D := (dIn x y).bind fun d => match d with
  | .bl b => some (.bl (!b))
  | _ => none
@[simp] theorem dIn_lst (x : D) (ys : List D) : dIn x (.lst ys) = if x.dt 20 && ys.all (D.dt 20) then some (.bl (ys.any fun y => D.eqv y x)) else none := by cases x <;> rfl
@[simp] theorem dIn_tup (x : D) (ys : List D) : dIn x (.tup ys) = if x.dt 20 && ys.all (D.dt 20) then some (.bl (ys.any fun y => D.eqv y x)) else none := by cases x <;> rfl
@[simp] theorem dIn_str (c : Nat) (s : List Nat) : dIn (.str [c]) (.str s) = some (.bl (decide (c ∈ s))) := rfl
theorem dIn_bl {x y d : D} (h : dIn x y = some d) : ∃ b, d = .bl b := by
  unfold dIn at h
  split at h
  · split at h
    · cases h; exact ⟨_, rfl⟩
    · cases h
  · split at h
    · cases h; exact ⟨_, rfl⟩
    · cases h
  · cases h; exact ⟨_, rfl⟩
  · cases h
theorem fl_in : Flat2 dIn := fun a b d e => by
  obtain ⟨c, rfl⟩ := dIn_bl e
  rfl
theorem fl_notIn : Flat2 dNotIn := fun a b d e => by
  unfold dNotIn at e
  cases e1 : dIn a b with
  | none => rw [e1] at e; cases e
  | some z =>
    obtain ⟨c, rfl⟩ := dIn_bl e1
    rw [e1] at e
    cases e; rfl
theorem str_one {z : Str} {c : Nat} (h : z.cps.toList = [c]) : z = ⟨#[c]⟩ := by
  obtain ⟨a⟩ := z
  have : a = #[c] := by rw [← Array.toArray_toList (xs := a), show a.toList = [c] from h]
  rw [this]
def rInA (P : Wd) (neg : Bool) : R2 := fun x y H Q => ∃ p d e b, Rep P (cut H p) x d ∧ Rep P (cut H p) y e ∧ dIn d e = some (.bl b) ∧ Q (.bl (if neg then !b else b)) H
section
variable {X : Cx} {P : Wd}
theorem op_inA (hK : P.K = X.K) (hu : X.A.units + 64 < cLine) : OpR X (compareOp .In) (rInA P false) := by
  intro pins s σ H x y v u Q I rx ry h
  obtain ⟨p, d, e, b, hd, he, hb, q⟩ := h
  unfold dIn at hb
  split at hb
  · rename_i ys
    split at hb
    · rename_i hk
      obtain ⟨k1, k2⟩ := Bool.and_eq_true_iff.mp hk
      obtain ⟨d1, d2, d3⟩ := D.dp 20 d x k1 hd
      obtain ⟨e1, e2, e3⟩ := D.dp 21 (.lst ys) y (by rw [D.dt_lst]; exact k2) he
      rw [D.py] at e1 e2
      rw [hK] at d1 e1
      obtain ⟨as, r1⟩ := Dp.reads I _ x v d1 rx
      obtain ⟨bs, r2⟩ := Dp.reads I _ y u e1 ry
      refine SeqAt.in_list_data r2 r1 (by rw [PyData.plain] at e2; exact e2) d2 ?_ ?_
      · have : min (PyData.depthAll (D.pyL ys)) d.py.depth ≤ 20 := Nat.le_trans (Nat.min_le_right _ _) d3
        omega
      · rw [pyL_any]
        cases hb
        exact ⟨.bl _, H, I, rfl, q⟩
    · cases hb
  · rename_i ys
    split at hb
    · rename_i hk
      obtain ⟨k1, k2⟩ := Bool.and_eq_true_iff.mp hk
      obtain ⟨d1, d2, d3⟩ := D.dp 20 d x k1 hd
      obtain ⟨e1, e2, e3⟩ := D.dp 21 (.tup ys) y (by rw [D.dt_tup]; exact k2) he
      rw [D.py] at e1 e2
      rw [hK] at d1 e1
      obtain ⟨as, r1⟩ := Dp.reads I _ x v d1 rx
      obtain ⟨bs, r2⟩ := Dp.reads I _ y u e1 ry
      refine SeqAt.in_tuple_data r2 r1 (by rw [PyData.plain] at e2; exact e2) d2 ?_ ?_
      · have : min (PyData.depthAll (D.pyL ys)) d.py.depth ≤ 20 := Nat.le_trans (Nat.min_le_right _ _) d3
        omega
      · rw [pyL_any]
        cases hb
        exact ⟨.bl _, H, I, rfl, q⟩
    · cases hb
  · obtain ⟨z, rfl, hz⟩ := hd.tick
    obtain ⟨w, rfl, hw⟩ := he.tick
    cases hb
    refine op_in_sign pins s σ H _ _ v u Q I rx ry ⟨_, w, ?_, rfl, by rw [hw]; exact q⟩
    rw [str_one hz]
  · cases hb
theorem op_notInA (hK : P.K = X.K) (hu : X.A.units + 64 < cLine) : OpR X (compareOp .NotIn) (rInA P true) := by
  intro pins s σ H x y v u Q I rx ry h
  obtain ⟨p, d, e, b, hd, he, hb, q⟩ := h
  unfold dIn at hb
  split at hb
  · rename_i ys
    split at hb
    · rename_i hk
      obtain ⟨k1, k2⟩ := Bool.and_eq_true_iff.mp hk
      obtain ⟨d1, d2, d3⟩ := D.dp 20 d x k1 hd
      obtain ⟨e1, e2, e3⟩ := D.dp 21 (.lst ys) y (by rw [D.dt_lst]; exact k2) he
      rw [D.py] at e1 e2
      rw [hK] at d1 e1
      obtain ⟨as, r1⟩ := Dp.reads I _ x v d1 rx
      obtain ⟨bs, r2⟩ := Dp.reads I _ y u e1 ry
      refine SeqAt.notIn_list_data r2 r1 (by rw [PyData.plain] at e2; exact e2) d2 ?_ ?_
      · have : min (PyData.depthAll (D.pyL ys)) d.py.depth ≤ 20 := Nat.le_trans (Nat.min_le_right _ _) d3
        omega
      · rw [pyL_any]
        cases hb
        exact ⟨.bl _, H, I, rfl, q⟩
    · cases hb
  · rename_i ys
    split at hb
    · rename_i hk
      obtain ⟨k1, k2⟩ := Bool.and_eq_true_iff.mp hk
      obtain ⟨d1, d2, d3⟩ := D.dp 20 d x k1 hd
      obtain ⟨e1, e2, e3⟩ := D.dp 21 (.tup ys) y (by rw [D.dt_tup]; exact k2) he
      rw [D.py] at e1 e2
      rw [hK] at d1 e1
      obtain ⟨as, r1⟩ := Dp.reads I _ x v d1 rx
      obtain ⟨bs, r2⟩ := Dp.reads I _ y u e1 ry
      refine SeqAt.notIn_tuple_data r2 r1 (by rw [PyData.plain] at e2; exact e2) d2 ?_ ?_
      · have : min (PyData.depthAll (D.pyL ys)) d.py.depth ≤ 20 := Nat.le_trans (Nat.min_le_right _ _) d3
        omega
      · rw [pyL_any]
        cases hb
        exact ⟨.bl _, H, I, rfl, q⟩
    · cases hb
  · obtain ⟨z, rfl, hz⟩ := hd.tick
    obtain ⟨w, rfl, hw⟩ := he.tick
    cases hb
    refine op_notIn_sign pins s σ H _ _ v u Q I rx ry ⟨_, w, ?_, rfl, by rw [hw]; exact q⟩
    rw [str_one hz]
  · cases hb
theorem ad_in : Ad2 P (rInA P false) dIn := fun p H x y a b d Q hp r1 r2 e q => by
  obtain ⟨c, rfl⟩ := dIn_bl e
  exact ⟨p, a, b, c, r1, r2, e, q _ _ (Same.refl _) (.bl _)⟩
theorem ad_notIn : Ad2 P (rInA P true) dNotIn := fun p H x y a b d Q hp r1 r2 e q => by
  unfold dNotIn at e
  cases e1 : dIn a b with
  | none => rw [e1] at e; cases e
  | some z =>
    obtain ⟨c, rfl⟩ := dIn_bl e1
    rw [e1] at e
    cases e
    exact ⟨p, a, b, c, r1, r2, e1, q _ _ (Same.refl _) (.bl _)⟩
end
/-- is, of None and of bools -/
def dIs (x y : D) : Option D := match x, y with
  | .bl a, .bl b => some (.bl (decide (a = b)))
  | .non, .bl _ => none
  | x, y => dIsN x y
def dIsNot (x y : D) : Option D := match x, y with
  | .bl a, .bl b => some (.bl (!decide (a = b)))
  | .non, .bl _ => none
  | x, y => dNotN x y
@[simp] theorem dIs_bl (a b : Bool) : dIs (.bl a) (.bl b) = some (.bl (decide (a = b))) := rfl
@[simp] theorem dIs_non (x : D) : dIs x .non = dIsN x .non := by cases x <;> rfl
@[simp] theorem dIsNot_bl (a b : Bool) : dIsNot (.bl a) (.bl b) = some (.bl (!decide (a = b))) := rfl
@[simp] theorem dIsNot_non (x : D) : dIsNot x .non = dNotN x .non := by cases x <;> rfl
theorem fl_is : Flat2 dIs := fun a b d e => by
  unfold dIs at e
  split at e
  · cases e; rfl
  · cases e
  · exact fl_isN _ _ _ e
theorem fl_isNot : Flat2 dIsNot := fun a b d e => by
  unfold dIsNot at e
  split at e
  · cases e; rfl
  · cases e
  · exact fl_notN _ _ _ e
theorem ad_is {P : Wd} : Ad2 P (fun x y H Q => (∃ a b, x = .bl a ∧ y = .bl b ∧ Q (.bl (decide (a = b))) H) ∨ (y = .non ∧ Q (.bl (decide (x = .non))) H)) dIs := fun p H x y a b d Q hp r1 r2 e q => by
  unfold dIs at e
  split at e
  · cases e; cases r1; cases r2; exact .inl ⟨_, _, rfl, rfl, q _ _ (Same.refl _) (.bl _)⟩
  · cases e
  · exact .inr (ad_isN p H x y _ _ d Q hp r1 r2 e q)
theorem ad_isNot {P : Wd} : Ad2 P (fun x y H Q => (∃ a b : Bool, x = .bl a ∧ y = .bl b ∧ Q (.bl (!decide (a = b))) H) ∨ (y = .non ∧ Q (.bl (!decide (x = .non))) H)) dIsNot := fun p H x y a b d Q hp r1 r2 e q => by
  unfold dIsNot at e
  split at e
  · cases e; cases r1; cases r2; exact .inl ⟨_, _, rfl, rfl, q _ _ (Same.refl _) (.bl _)⟩
  · cases e
  · exact .inr (ad_notN p H x y _ _ d Q hp r1 r2 e q)
section
variable {X : Cx} {B : Bs} {W : WX} {E1 E2 : List Nat} {f1 f2 : En → R D} {e1 e2 : Expr} {pos : Pos}
theorem d_eq (hK : B.P.K = X.K) (hu : X.A.units + 64 < cLine) (h1 : PE X e1 (tD B W E1 f1)) (h2 : PE X e2 (tD B W E2 f2)) : PE X (.Compare e1 [.Eq] [e2] pos) (tD B W [] (op2 dEq f1 f2)) := d_cmp (op_eqP hK hu) ad_eq fl_eq h1 h2 (nomark _)
theorem d_ne (hK : B.P.K = X.K) (hu : X.A.units + 64 < cLine) (h1 : PE X e1 (tD B W E1 f1)) (h2 : PE X e2 (tD B W E2 f2)) : PE X (.Compare e1 [.NotEq] [e2] pos) (tD B W [] (op2 dNe f1 f2)) := d_cmp (op_neP hK hu) ad_ne fl_ne h1 h2 (nomark _)
theorem d_lt (h1 : PE X e1 (tD B W E1 f1)) (h2 : PE X e2 (tD B W E2 f2)) : PE X (.Compare e1 [.Lt] [e2] pos) (tD B W [] (op2 dLt f1 f2)) := d_cmp op_ltA ad_cmp fl_cmp h1 h2 (nomark _)
theorem d_le (h1 : PE X e1 (tD B W E1 f1)) (h2 : PE X e2 (tD B W E2 f2)) : PE X (.Compare e1 [.LtE] [e2] pos) (tD B W [] (op2 dLe f1 f2)) := d_cmp op_leA ad_cmp fl_cmp h1 h2 (nomark _)
theorem d_gt (h1 : PE X e1 (tD B W E1 f1)) (h2 : PE X e2 (tD B W E2 f2)) : PE X (.Compare e1 [.Gt] [e2] pos) (tD B W [] (op2 dGt f1 f2)) := d_cmp op_gtA ad_cmp fl_cmp h1 h2 (nomark _)
theorem d_ge (h1 : PE X e1 (tD B W E1 f1)) (h2 : PE X e2 (tD B W E2 f2)) : PE X (.Compare e1 [.GtE] [e2] pos) (tD B W [] (op2 dGe f1 f2)) := d_cmp op_geA ad_cmp fl_cmp h1 h2 (nomark _)
theorem d_is (h1 : PE X e1 (tD B W E1 f1)) (h2 : PE X e2 (tD B W E2 f2)) : PE X (.Compare e1 [.Is] [e2] pos) (tD B W [] (op2 dIs f1 f2)) := d_cmp (op_isBl.or op_isN) ad_is fl_is h1 h2 (nomark _)
theorem d_isNot (h1 : PE X e1 (tD B W E1 f1)) (h2 : PE X e2 (tD B W E2 f2)) : PE X (.Compare e1 [.IsNot] [e2] pos) (tD B W [] (op2 dIsNot f1 f2)) := d_cmp (op_notBl.or op_notN) ad_isNot fl_isNot h1 h2 (nomark _)
theorem d_in (hK : B.P.K = X.K) (hu : X.A.units + 64 < cLine) (h1 : PE X e1 (tD B W E1 f1)) (h2 : PE X e2 (tD B W E2 f2)) (hm : behindInMarks .In e2 = false := by rfl) : PE X (.Compare e1 [.In] [e2] pos) (tD B W [] (op2 dIn f1 f2)) := d_cmp (op_inA hK hu) ad_in fl_in h1 h2 hm
theorem d_notIn (hK : B.P.K = X.K) (hu : X.A.units + 64 < cLine) (h1 : PE X e1 (tD B W E1 f1)) (h2 : PE X e2 (tD B W E2 f2)) (hm : behindInMarks .NotIn e2 = false := by rfl) : PE X (.Compare e1 [.NotIn] [e2] pos) (tD B W [] (op2 dNotIn f1 f2)) := d_cmp (op_notInA hK hu) ad_notIn fl_notIn h1 h2 hm
theorem t_of (h : PE X e1 (tD B W E1 f1)) (he : ∀ whole, isTrue e1 X.env whole = (do let v ← whole; standAt e1.pos; holding [v] (truthy v)) := by intro _; rfl) : PT X e1 (tT B W (tst f1)) := d_tval h he
end
end DL
set_option Elab.async false
set_option linter.all false
set_option maxRecDepth 100000
namespace DL
open PySem PySem.Spec PyProof.Rows L2

/-! ## what is called: built-in functions and types -/
section
variable {X : Cx} {B : Bs} {W : WX} {E E1 E2 : List Nat} {f f1 f2 : En → R D} {fa : En → R (List D)} {e e1 e2 e3 : Expr} {es : List Expr} {pos p : Pos} {x : Str} {id T : String}
theorem imp_opA0 {r : List V → Hp → VK → Prop} {g : List D → Option D} (hg : AdA B.P r g) (hf : FlatA g) {σ : L2.St} {H : Hp} {Q : VK} (h : tD B W [] (opA g fa) σ H Q) : tA B W E fa σ H (fun x H1 => r x H1 Q) := by
  refine imp_opA hg (tD_flat (fun ρ d e => ?_) h)
  unfold opA at e
  cases e1 : fa ρ with
  | ok a =>
    rw [e1, R.bind_ok] at e
    cases e2 : g a with
    | none => rw [e2] at e; cases e
    | some z => rw [e2] at e; cases e; exact hf a _ e2
  | ex c fs => rw [e1] at e; cases e
  | st => rw [e1] at e; cases e
theorem d_callB {r : List V → Hp → VK → Prop} {g : List D → Option D} (hc : CallR X (.builtin id) r) (hg : AdA B.P r g) (hf : FlatA g) (gl : Gl X x) (hm : X.mg x = none) (hv : bootBuiltins x = some (.builtin id)) (ha : PA X (e :: es) (tA B W E fa)) (hn : x ≠ "__name__" := by decide) (hdb : (x == ("__debug__" : Str)) = false := by decide)
    (he : starEach (e :: es) X.env = (false, eval e X.env) :: starEach es X.env := by rfl) (hpl : (backTo pos (starEach es X.env)).any (·.1) = false := by rfl) : PE X (.Call (.Name x p) (e :: es) [] pos) (tD B W [] (opA g fa)) :=
  (pe_callB hc gl hm hv ha hn hdb he hpl).imp fun _ _ _ => imp_opA0 hg hf
theorem d_callT {r : List V → Hp → VK → Prop} {g : List D → Option D} (hc : CallR X (.type T) r) (hg : AdA B.P r g) (hf : FlatA g) (gl : Gl X x) (hm : X.mg x = none) (hv : bootBuiltins x = some (.type T)) (ha : PA X (e :: es) (tA B W E fa)) (hn : x ≠ "__name__" := by decide) (hdb : (x == ("__debug__" : Str)) = false := by decide)
    (he : starEach (e :: es) X.env = (false, eval e X.env) :: starEach es X.env := by rfl) (hpl : (backTo pos (starEach es X.env)).any (·.1) = false := by rfl) : PE X (.Call (.Name x p) (e :: es) [] pos) (tD B W [] (opA g fa)) :=
  (pe_callTy hc gl hm hv ha hn hdb he hpl).imp fun _ _ _ => imp_opA0 hg hf
theorem d_callTD {r : List V → Hp → VK → Prop} {g : List D → Option D} (hc : CallR X (.type T) r) (hg : AdA B.P r g) (gl : Gl X x) (hm : X.mg x = none) (hv : bootBuiltins x = some (.type T)) (ha : PA X (e :: es) (tA B W E fa)) (hn : x ≠ "__name__" := by decide) (hdb : (x == ("__debug__" : Str)) = false := by decide)
    (he : starEach (e :: es) X.env = (false, eval e X.env) :: starEach es X.env := by rfl) (hpl : (backTo pos (starEach es X.env)).any (·.1) = false := by rfl) : PE X (.Call (.Name x p) (e :: es) [] pos) (tD B W E (opA g fa)) :=
  (pe_callTy hc gl hm hv ha hn hdb he hpl).imp fun _ _ _ => imp_opA hg
theorem f_callT {r : List V → Hp → VK → Prop} {g : List D → Option OD} (hc : CallR X (.type T) r) (hg : AdFA B.P r g) (gl : Gl X x) (hm : X.mg x = none) (hv : bootBuiltins x = some (.type T)) (ha : PA X (e :: es) (tA B W E fa)) (hn : x ≠ "__name__" := by decide) (hdb : (x == ("__debug__" : Str)) = false := by decide)
    (he : starEach (e :: es) X.env = (false, eval e X.env) :: starEach es X.env := by rfl) (hpl : (backTo pos (starEach es X.env)).any (·.1) = false := by rfl) : PE X (.Call (.Name x p) (e :: es) [] pos) (tF B W E (opAF g fa)) :=
  (pe_callTy hc gl hm hv ha hn hdb he hpl).imp fun _ _ _ => imp_oAF hg
theorem f_callB {r : List V → Hp → VK → Prop} {g : List D → Option OD} (hc : CallR X (.builtin id) r) (hg : AdFA B.P r g) (gl : Gl X x) (hm : X.mg x = none) (hv : bootBuiltins x = some (.builtin id)) (ha : PA X (e :: es) (tA B W E fa)) (hn : x ≠ "__name__" := by decide) (hdb : (x == ("__debug__" : Str)) = false := by decide)
    (he : starEach (e :: es) X.env = (false, eval e X.env) :: starEach es X.env := by rfl) (hpl : (backTo pos (starEach es X.env)).any (·.1) = false := by rfl) : PE X (.Call (.Name x p) (e :: es) [] pos) (tF B W E (opAF g fa)) :=
  (pe_callB hc gl hm hv ha hn hdb he hpl).imp fun _ _ _ => imp_oAF hg
theorem RepL.oneE {P : Wd} {G : Hp} {vs : List V} {d : D} (h : RepL P G vs [d]) : ∃ v, vs = [v] ∧ Rep P G v d := by
  cases h with
  | cons h1 h2 => cases h2; exact ⟨_, rfl, h1⟩
theorem RepL.twoE {P : Wd} {G : Hp} {vs : List V} {d d' : D} (h : RepL P G vs [d, d']) : ∃ v w, vs = [v, w] ∧ Rep P G v d ∧ Rep P G w d' := by
  cases h with
  | cons h1 h2 =>
    obtain ⟨w, rfl, h3⟩ := h2.oneE
    exact ⟨_, w, rfl, h1, h3⟩
/-! ### len, abs, int, list, tuple -/
def dLen : List D → Option D
  | [.scr ns] => some (.int ns.length)
  | [.str s] => if okSz s.length then some (.int s.length) else none
  | [.lst s] => some (.int s.length)
  | [.tup s] => some (.int s.length)
  | _ => none
@[simp] theorem dLen_scr (s : List Int) : dLen [.scr s] = some (.int s.length) := rfl
@[simp] theorem dLen_str (s : List Nat) : dLen [.str s] = if okSz s.length then some (.int s.length) else none := rfl
@[simp] theorem dLen_lst (s : List D) : dLen [.lst s] = some (.int s.length) := rfl
@[simp] theorem dLen_tup (s : List D) : dLen [.tup s] = some (.int s.length) := rfl
theorem fl_len : FlatA dLen := fun a d e => by
  unfold dLen at e
  split at e
  · cases e; rfl
  · split at e
    · cases e; rfl
    · cases e
  · cases e; rfl
  · cases e; rfl
  · cases e
theorem ad_len {P : Wd} : AdA P (fun xs H Q => ∃ x n, xs = [x] ∧ LenV P.K x H n ∧ Q (.int n) H) dLen := fun p H vs a d Q hp r e q => by
  unfold dLen at e
  split at e
  · obtain ⟨v, rfl, rv⟩ := r.oneE
    cases rv with
    | @scr l _ h =>
    cases e
    exact ⟨_, _, rfl, .inl ⟨_, Same.seq cut_same h, rfl⟩, by rw [List.length_map]; exact q _ _ (Same.refl _) (.int _)⟩
  · obtain ⟨v, rfl, rv⟩ := r.oneE
    obtain ⟨z, rfl, hz⟩ := rv.tick
    split at e
    · rename_i hk
      cases e
      exact ⟨_, _, rfl, ⟨by rw [slen hz]; exact okSz_le hk, rfl⟩, by rw [slen hz]; exact q _ _ (Same.refl _) (.int _)⟩
    · cases e
  · obtain ⟨v, rfl, rv⟩ := r.oneE
    obtain ⟨l, ws, rfl, hl, rl⟩ := rv.lstE
    cases e
    exact ⟨_, _, rfl, .inl ⟨ws, .inl (rd_cut hl), rfl⟩, by rw [rl.len]; exact q _ _ (Same.refl _) (.int _)⟩
  · obtain ⟨v, rfl, rv⟩ := r.oneE
    obtain ⟨l, ws, rfl, hl, rl⟩ := rv.tupE
    cases e
    exact ⟨_, _, rfl, .inr ⟨ws, sqT_cut hl, rfl⟩, by rw [rl.len]; exact q _ _ (Same.refl _) (.int _)⟩
  · cases e
theorem d_len (hK : B.P.K = X.K) (gl : Gl X "len") (hm : X.mg "len" = none) (ha : PA X [e] (tA B W E fa)) (he : starEach [e] X.env = (false, eval e X.env) :: starEach [] X.env := by rfl) : PE X (.Call (.Name "len" p) [e] [] pos) (tD B W [] (opA dLen fa)) :=
  d_callB (r := fun xs H Q => ∃ x n, xs = [x] ∧ LenV B.P.K x H n ∧ Q (.int n) H) (by rw [hK]; exact call_len) ad_len fl_len gl hm (by rfl) ha (by decide) (by decide) he
def dAbs : List D → Option D
  | [.int i] => some (.int (if i < 0 then -i else i))
  | _ => none
theorem fl_abs : FlatA dAbs := fun a d e => by
  unfold dAbs at e; split at e
  · cases e; rfl
  · cases e
theorem ad_abs {P : Wd} : AdA P (fun xs H Q => ∃ i, xs = [.int i] ∧ Q (.int (if i < 0 then -i else i)) H) dAbs := fun p H vs a d Q hp r e q => by
  unfold dAbs at e
  split at e
  · obtain ⟨v, rfl, rv⟩ := r.oneE
    cases rv; cases e
    exact ⟨_, rfl, q _ _ (Same.refl _) (.int _)⟩
  · cases e
theorem d_abs (gl : Gl X "abs") (hm : X.mg "abs" = none) (ha : PA X [e] (tA B W E fa)) (he : starEach [e] X.env = (false, eval e X.env) :: starEach [] X.env := by rfl) : PE X (.Call (.Name "abs" p) [e] [] pos) (tD B W [] (opA dAbs fa)) :=
  d_callB call_abs ad_abs fl_abs gl hm (by rfl) ha (by decide) (by decide) he
def dInt : List D → Option D
  | [.int i] => some (.int i)
  | [.bl b] => some (.int (if b then 1 else 0))
  | _ => none
theorem fl_int : FlatA dInt := fun a d e => by
  unfold dInt at e; split at e
  · cases e; rfl
  · cases e; rfl
  · cases e
theorem ad_int {P : Wd} : AdA P (fun xs H Q => (∃ i, xs = [.int i] ∧ Q (.int i) H) ∨ ∃ k, xs = [.bl k] ∧ Q (.int (if k then 1 else 0)) H) dInt := fun p H vs a d Q hp r e q => by
  unfold dInt at e
  split at e
  · obtain ⟨v, rfl, rv⟩ := r.oneE
    cases rv; cases e
    exact .inl ⟨_, rfl, q _ _ (Same.refl _) (.int _)⟩
  · obtain ⟨v, rfl, rv⟩ := r.oneE
    cases rv; cases e
    exact .inr ⟨_, rfl, q _ _ (Same.refl _) (.int _)⟩
  · cases e
theorem d_toInt (gl : Gl X "int") (hm : X.mg "int" = none) (ha : PA X [e] (tA B W E fa)) (he : starEach [e] X.env = (false, eval e X.env) :: starEach [] X.env := by rfl) : PE X (.Call (.Name "int" p) [e] [] pos) (tD B W [] (opA dInt fa)) :=
  d_callT call_int1 ad_int fl_int gl hm (by rfl) ha (by decide) (by decide) he
def fList : List D → Option OD
  | [.lst xs] => some (lstF xs)
  | [.tup xs] => some (lstF xs)
  | _ => none
theorem ad_listF {P : Wd} : AdFA P (fun xs H Q => ∃ p ys, xs = [.ref p] ∧ (SqL P.K H p ys ∨ SqT P.K H p ys) ∧ ∀ l, H l = none → Q (.ref l) (upd H l (.lst ys))) fList := fun p H vs a d Q hp r e q => by
  unfold fList at e
  split at e
  · obtain ⟨v, rfl, rv⟩ := r.oneE
    obtain ⟨l, ws, rfl, hl, rl⟩ := rv.lstE
    cases e
    exact ⟨l, ws, rfl, .inl (.inl (rd_cut hl)), fun p' hn => new_lst hp hn rl q⟩
  · obtain ⟨v, rfl, rv⟩ := r.oneE
    obtain ⟨l, ws, rfl, hl, rl⟩ := rv.tupE
    cases e
    exact ⟨l, ws, rfl, .inr (sqT_cut hl), fun p' hn => new_lst hp hn rl q⟩
  · cases e
theorem f_list (hK : B.P.K = X.K) (gl : Gl X "list") (hm : X.mg "list" = none) (ha : PA X [e] (tA B W E fa)) (he : starEach [e] X.env = (false, eval e X.env) :: starEach [] X.env := by rfl) : PE X (.Call (.Name "list" p) [e] [] pos) (tF B W E (opAF fList fa)) :=
  f_callT (by rw [hK]; exact call_list_of) ad_listF gl hm (by rfl) ha (by decide) (by decide) he
def dTuple : List D → Option D
  | [.lst xs] => some (.tup xs)
  | [.tup xs] => some (.tup xs)
  | _ => none
theorem ad_tuple {P : Wd} : AdA P (fun xs H Q => ∃ p ys, xs = [.ref p] ∧ ((SqL P.K H p ys ∧ ∀ l, H l = none → Q (.ref l) (upd H l (.tup ys))) ∨ (SqT P.K H p ys ∧ Q (.ref p) H))) dTuple := fun p H vs a d Q hp r e q => by
  unfold dTuple at e
  split at e
  · obtain ⟨v, rfl, rv⟩ := r.oneE
    obtain ⟨l, ws, rfl, hl, rl⟩ := rv.lstE
    cases e
    exact ⟨l, ws, rfl, .inl ⟨.inl (rd_cut hl), fun p' hn => new_tup hp hn rl q⟩⟩
  · obtain ⟨v, rfl, rv⟩ := r.oneE
    have rv' := rv
    obtain ⟨l, ws, rfl, hl, rl⟩ := rv.tupE
    cases e
    exact ⟨l, ws, rfl, .inr ⟨sqT_cut hl, q _ _ (Same.refl _) rv'⟩⟩
  · cases e
theorem d_tuple (hK : B.P.K = X.K) (gl : Gl X "tuple") (hm : X.mg "tuple" = none) (ha : PA X [e] (tA B W E fa)) (he : starEach [e] X.env = (false, eval e X.env) :: starEach [] X.env := by rfl) : PE X (.Call (.Name "tuple" p) [e] [] pos) (tD B W E (opA dTuple fa)) :=
  d_callTD (by rw [hK]; exact call_tuple_of) ad_tuple gl hm (by rfl) ha (by decide) (by decide) he
/-! ### lists of ints -/
def intsOf : List D → Option (List Int)
  | [] => some []
  | .int i :: ds => (intsOf ds).map (i :: ·)
  | _ => none
theorem intsOf_eq : ∀ {ds : List D} {ns : List Int}, intsOf ds = some ns → ds = ns.map D.int
  | [], ns, h => by cases h; rfl
  | .int i :: ds, ns, h => by
    rw [intsOf] at h
    cases e : intsOf ds with
    | none => rw [e] at h; cases h
    | some ms => rw [e] at h; cases h; rw [intsOf_eq e]; rfl
  | .non :: ds, ns, h => by cases h
  | .bl _ :: ds, ns, h => by cases h
  | .str _ :: ds, ns, h => by cases h
  | .lst _ :: ds, ns, h => by cases h
  | .tup _ :: ds, ns, h => by cases h
  | .dic _ :: ds, ns, h => by cases h
  | .obj _ _ :: ds, ns, h => by cases h
  | .exn _ _ :: ds, ns, h => by cases h
  | .scr _ :: ds, ns, h => by cases h
@[simp] theorem intsOf_map : ∀ ns : List Int, intsOf (ns.map D.int) = some ns
  | [] => rfl
  | n :: ns => by rw [List.map_cons, intsOf, intsOf_map ns]; rfl
theorem RepL.ints {P : Wd} {G : Hp} : ∀ {ns : List Int} {vs : List V}, RepL P G vs (ns.map D.int) → vs = ns.map V.int
  | [], vs, h => by cases h; rfl
  | n :: ns, vs, h => by
    cases h with
    | cons h1 h2 => cases h1; rw [RepL.ints h2]; rfl
def maxI : List Int → Option Int
  | [] => none
  | n :: ns => some (ns.foldl max n)
def minI : List Int → Option Int
  | [] => none
  | n :: ns => some (ns.foldl min n)
theorem fold_max : ∀ (ns : List Int) (a : Int), (ns.foldl max a = a ∨ ns.foldl max a ∈ ns) ∧ a ≤ ns.foldl max a ∧ ∀ y ∈ ns, y ≤ ns.foldl max a
  | [], a => ⟨.inl rfl, Int.le_refl _, fun _ h => nomatch h⟩
  | n :: ns, a => by
    obtain ⟨h1, h2, h3⟩ := fold_max ns (max a n)
    rw [List.foldl_cons]
    refine ⟨?_, Int.le_trans (Int.le_max_left _ _) h2, fun y hy => ?_⟩
    · rcases h1 with h1 | h1
      · rw [h1]
        by_cases z : n ≤ a
        · exact .inl (Int.max_eq_left z)
        · exact .inr (by rw [Int.max_eq_right (by omega)]; exact List.mem_cons_self)
      · exact .inr (List.mem_cons_of_mem _ h1)
    · rcases List.mem_cons.mp hy with rfl | hy
      · exact Int.le_trans (Int.le_max_right _ _) h2
      · exact h3 y hy
theorem fold_min : ∀ (ns : List Int) (a : Int), (ns.foldl min a = a ∨ ns.foldl min a ∈ ns) ∧ ns.foldl min a ≤ a ∧ ∀ y ∈ ns, ns.foldl min a ≤ y
  | [], a => ⟨.inl rfl, Int.le_refl _, fun _ h => nomatch h⟩
  | n :: ns, a => by
    obtain ⟨h1, h2, h3⟩ := fold_min ns (min a n)
    rw [List.foldl_cons]
    refine ⟨?_, Int.le_trans h2 (Int.min_le_left _ _), fun y hy => ?_⟩
    · rcases h1 with h1 | h1
      · rw [h1]
        by_cases z : a ≤ n
        · exact .inl (Int.min_eq_left z)
        · exact .inr (by rw [Int.min_eq_right (by omega)]; exact List.mem_cons_self)
      · exact .inr (List.mem_cons_of_mem _ h1)
    · rcases List.mem_cons.mp hy with rfl | hy
      · exact Int.le_trans h2 (Int.min_le_right _ _)
      · exact h3 y hy
theorem maxI_is {ns : List Int} {m : Int} (h1 : m ∈ ns) (h2 : ∀ y ∈ ns, y ≤ m) : maxI ns = some m := by
  cases ns with
  | nil => cases h1
  | cons n ns =>
    obtain ⟨a, b, c⟩ := fold_max ns n
    refine congrArg some (Int.le_antisymm ?_ ?_)
    · rcases a with a | a
      · rw [a]; exact h2 _ List.mem_cons_self
      · exact h2 _ (List.mem_cons_of_mem _ a)
    · rcases List.mem_cons.mp h1 with rfl | h1
      · exact b
      · exact c _ h1
theorem minI_is {ns : List Int} {m : Int} (h1 : m ∈ ns) (h2 : ∀ y ∈ ns, m ≤ y) : minI ns = some m := by
  cases ns with
  | nil => cases h1
  | cons n ns =>
    obtain ⟨a, b, c⟩ := fold_min ns n
    refine congrArg some (Int.le_antisymm ?_ ?_)
    · rcases List.mem_cons.mp h1 with rfl | h1
      · exact b
      · exact c _ h1
    · rcases a with a | a
      · rw [a]; exact h2 _ List.mem_cons_self
      · exact h2 _ (List.mem_cons_of_mem _ a)
def onInts (g : List Int → Option Int) : List D → Option D
  | [.lst xs] => ((intsOf xs).bind g).map D.int
  | _ => none
@[simp] theorem onInts_lst (g : List Int → Option Int) (xs : List D) : onInts g [.lst xs] = ((intsOf xs).bind g).map D.int := rfl
theorem fl_onInts {g : List Int → Option Int} : FlatA (onInts g) := fun a d e => by
  unfold onInts at e
  split at e
  · cases e1 : (intsOf _).bind g with
    | none => rw [e1] at e; cases e
    | some z => rw [e1] at e; cases e; rfl
  · cases e
theorem onInts_inv {g : List Int → Option Int} {P : Wd} {p : Addr → Prop} {H : Hp} {vs : List V} {a : List D} {d : D} (r : RepL P (cut H p) vs a) (e : onInts g a = some d) : ∃ l ns i, vs = [.ref l] ∧ SqL P.K H l (ns.map V.int) ∧ g ns = some i ∧ d = .int i := by
  unfold onInts at e
  split at e
  · rename_i xs
    obtain ⟨v, rfl, rv⟩ := r.oneE
    obtain ⟨l, ws, rfl, hl, rl⟩ := rv.lstE
    cases e1 : intsOf xs with
    | none => rw [e1] at e; cases e
    | some ns =>
      rw [e1, Option.bind_some] at e
      rw [intsOf_eq e1] at rl
      have := rl.ints
      subst this
      cases e2 : g ns with
      | none => rw [e2] at e; cases e
      | some i => rw [e2] at e; cases e; exact ⟨l, ns, i, rfl, .inl (rd_cut hl), e2, rfl⟩
  · cases e
theorem ad_sum {P : Wd} : AdA P (rSum P.K) (onInts fun ns => some ns.sum) := fun p H vs a d Q hp r e q => by
  obtain ⟨l, ns, i, rfl, hl, e1, rfl⟩ := onInts_inv r e
  cases e1
  exact ⟨l, ns, rfl, hl, q _ _ (Same.refl _) (.int _)⟩
theorem ad_max {P : Wd} : AdA P (rMax P.K) (onInts maxI) := fun p H vs a d Q hp r e q => by
  obtain ⟨l, ns, i, rfl, hl, e1, rfl⟩ := onInts_inv r e
  refine ⟨l, ns, rfl, hl, by cases ns; cases e1; exact Nat.succ_pos _, fun m h1 h2 => ?_⟩
  rw [maxI_is h1 h2] at e1
  cases e1
  exact q _ _ (Same.refl _) (.int _)
theorem ad_min {P : Wd} : AdA P (rMin P.K) (onInts minI) := fun p H vs a d Q hp r e q => by
  obtain ⟨l, ns, i, rfl, hl, e1, rfl⟩ := onInts_inv r e
  refine ⟨l, ns, rfl, hl, by cases ns; cases e1; exact Nat.succ_pos _, fun m h1 h2 => ?_⟩
  rw [minI_is h1 h2] at e1
  cases e1
  exact q _ _ (Same.refl _) (.int _)
def dMax2 : List D → Option D
  | [.int i, .int j] => some (.int (max i j))
  | _ => none
def dMin2 : List D → Option D
  | [.int i, .int j] => some (.int (min i j))
  | _ => none
theorem ad_max2 {P : Wd} : AdA P (fun xs H Q => ∃ i j, xs = [.int i, .int j] ∧ Q (.int (if j > i then j else i)) H) dMax2 := fun p H vs a d Q hp r e q => by
  unfold dMax2 at e
  split at e
  · obtain ⟨v, w, rfl, rv, rw'⟩ := r.twoE
    cases rv; cases rw'; cases e
    refine ⟨_, _, rfl, ?_⟩
    rename_i i j
    have : (if j > i then j else i) = max i j := by rw [Int.max_def]; split <;> split <;> omega
    rw [this]
    exact q _ _ (Same.refl _) (.int _)
  · cases e
theorem ad_min2 {P : Wd} : AdA P (fun xs H Q => ∃ i j, xs = [.int i, .int j] ∧ Q (.int (if j < i then j else i)) H) dMin2 := fun p H vs a d Q hp r e q => by
  unfold dMin2 at e
  split at e
  · obtain ⟨v, w, rfl, rv, rw'⟩ := r.twoE
    cases rv; cases rw'; cases e
    refine ⟨_, _, rfl, ?_⟩
    rename_i i j
    have : (if j < i then j else i) = min i j := by rw [Int.min_def]; split <;> split <;> omega
    rw [this]
    exact q _ _ (Same.refl _) (.int _)
  · cases e
theorem AdA.or {P : Wd} {r r' : List V → Hp → VK → Prop} {g g' : List D → Option D} (h : AdA P r g) (h' : AdA P r' g') : AdA P (fun x H Q => r x H Q ∨ r' x H Q) (fun a => (g a).or (g' a)) := fun p H x a d Q hp r1 e q => by
  have e : (g a).or (g' a) = some d := e
  cases e1 : g a with
  | some z => rw [e1] at e; exact .inl (h p H x a d Q hp r1 (e1.trans e) q)
  | none => rw [e1] at e; exact .inr (h' p H x a d Q hp r1 e q)
theorem FlatA.or {g g' : List D → Option D} (h : FlatA g) (h' : FlatA g') : FlatA (fun a => (g a).or (g' a)) := fun a d e => by
  have e : (g a).or (g' a) = some d := e
  cases e1 : g a with
  | some z => rw [e1] at e; cases e; exact h a _ e1
  | none => rw [e1] at e; exact h' a _ e
theorem _root_.L2.CallR.or' {c : Value} {r r' : List V → Hp → VK → Prop} (h : CallR X c r) (h' : CallR X c r') : CallR X c (fun xs H Q => r xs H Q ∨ r' xs H Q) := by
  intro pins s σ H xs us Q I rx q
  rcases q with q | q
  · exact h pins s σ H xs us Q I rx q
  · exact h' pins s σ H xs us Q I rx q
def dMax (a : List D) : Option D := (onInts maxI a).or (dMax2 a)
def dMin (a : List D) : Option D := (onInts minI a).or (dMin2 a)
@[simp] theorem dMax_lst (xs : List D) : dMax [.lst xs] = ((intsOf xs).bind maxI).map D.int := Option.or_none ..
@[simp] theorem dMin_lst (xs : List D) : dMin [.lst xs] = ((intsOf xs).bind minI).map D.int := Option.or_none ..
@[simp] theorem dMax_two (i j : Int) : dMax [.int i, .int j] = some (.int (max i j)) := rfl
@[simp] theorem dMin_two (i j : Int) : dMin [.int i, .int j] = some (.int (min i j)) := rfl
theorem fl_max : FlatA dMax := FlatA.or fl_onInts fun a d e => by
  unfold dMax2 at e; split at e
  · cases e; rfl
  · cases e
theorem fl_min : FlatA dMin := FlatA.or fl_onInts fun a d e => by
  unfold dMin2 at e; split at e
  · cases e; rfl
  · cases e
def dSum : List D → Option D := onInts fun ns => some ns.sum
theorem d_sum (hK : B.P.K = X.K) (hc : X.calm = true) (gl : Gl X "sum") (hm : X.mg "sum" = none) (ha : PA X [e] (tA B W E fa)) (he : starEach [e] X.env = (false, eval e X.env) :: starEach [] X.env := by rfl) : PE X (.Call (.Name "sum" p) [e] [] pos) (tD B W [] (opA dSum fa)) :=
  d_callB (by rw [hK]; exact cr_sum hc) ad_sum fl_onInts gl hm (by rfl) ha (by decide) (by decide) he
theorem d_max (hK : B.P.K = X.K) (hc : X.calm = true) (gl : Gl X "max") (hm : X.mg "max" = none) (ha : PA X (e :: es) (tA B W E fa)) (he : starEach (e :: es) X.env = (false, eval e X.env) :: starEach es X.env := by rfl) (hpl : (backTo pos (starEach es X.env)).any (·.1) = false := by rfl) : PE X (.Call (.Name "max" p) (e :: es) [] pos) (tD B W [] (opA dMax fa)) :=
  d_callB (by rw [hK]; exact (cr_max hc).or' (call_max2 hc)) (AdA.or ad_max ad_max2) fl_max gl hm (by rfl) ha (by decide) (by decide) he hpl
theorem d_min (hK : B.P.K = X.K) (hc : X.calm = true) (gl : Gl X "min") (hm : X.mg "min" = none) (ha : PA X (e :: es) (tA B W E fa)) (he : starEach (e :: es) X.env = (false, eval e X.env) :: starEach es X.env := by rfl) (hpl : (backTo pos (starEach es X.env)).any (·.1) = false := by rfl) : PE X (.Call (.Name "min" p) (e :: es) [] pos) (tD B W [] (opA dMin fa)) :=
  d_callB (by rw [hK]; exact (cr_min hc).or' (call_min2 hc)) (AdA.or ad_min ad_min2) fl_min gl hm (by rfl) ha (by decide) (by decide) he hpl
/-! ### ''.join -/
def strsOf : List D → Option (List (List Nat))
  | [] => some []
  | .str i :: ds => (strsOf ds).map (i :: ·)
  | _ => none
theorem strsOf_eq : ∀ {ds : List D} {ns : List (List Nat)}, strsOf ds = some ns → ds = ns.map D.str
  | [], ns, h => by cases h; rfl
  | .str i :: ds, ns, h => by
    rw [strsOf] at h
    cases e : strsOf ds with
    | none => rw [e] at h; cases h
    | some ms => rw [e] at h; cases h; rw [strsOf_eq e]; rfl
  | .non :: ds, ns, h => by cases h
  | .bl _ :: ds, ns, h => by cases h
  | .int _ :: ds, ns, h => by cases h
  | .lst _ :: ds, ns, h => by cases h
  | .tup _ :: ds, ns, h => by cases h
  | .dic _ :: ds, ns, h => by cases h
  | .obj _ _ :: ds, ns, h => by cases h
  | .exn _ _ :: ds, ns, h => by cases h
  | .scr _ :: ds, ns, h => by cases h
@[simp] theorem strsOf_map : ∀ ns : List (List Nat), strsOf (ns.map D.str) = some ns
  | [] => rfl
  | n :: ns => by rw [List.map_cons, strsOf, strsOf_map ns]; rfl
theorem RepL.strs {P : Wd} {G : Hp} : ∀ {ns : List (List Nat)} {vs : List V}, RepL P G vs (ns.map D.str) → ∃ zs : List Str, vs = zs.map V.str ∧ zs.map (fun z => z.cps.toList) = ns
  | [], vs, h => by cases h; exact ⟨[], rfl, rfl⟩
  | n :: ns, vs, h => by
    cases h with
    | cons h1 h2 =>
      obtain ⟨z, rfl, hz⟩ := h1.tick
      obtain ⟨zs, rfl, e⟩ := RepL.strs h2
      exact ⟨z :: zs, rfl, by rw [List.map_cons, hz, e]⟩
def joinN (a : List Nat) : List (List Nat) → List Nat
  | [] => []
  | [x] => x
  | x :: y :: r => x ++ a ++ joinN a (y :: r)
theorem join_list (a : Str) : ∀ zs : List Str, (Txt.join a zs).cps.toList = joinN a.cps.toList (zs.map fun z => z.cps.toList) := fun zs => by
  show (Builtin.Str.glued a zs).cps.toList = _
  rw [PySem.StrLaws.glued_eq_join]
  induction zs with
  | nil => rfl
  | cons z zs ih =>
    cases zs with
    | nil => rfl
    | cons y zs =>
      show (z ++ a ++ Str.join a (y :: zs)).cps.toList = _
      rw [List.map_cons, List.map_cons, joinN, ← List.map_cons (f := fun z : Str => z.cps.toList), ← ih]
      show ((z.cps ++ a.cps) ++ (Str.join a (y :: zs)).cps).toList = _
      rw [Array.toList_append, Array.toList_append]
def joinOk (a : List Nat) (ns : List (List Nat)) : Bool := decide ((ns.map List.length).sum + ns.length * a.length ≤ 16777216)
def dJoin : D → D → Option D
  | .str a, .lst ds => (strsOf ds).bind fun ns => if joinOk a ns then some (.str (joinN a ns)) else none
  | _, _ => none
@[simp] theorem dJoin_lst (a : List Nat) (ds : List D) : dJoin (.str a) (.lst ds) = (strsOf ds).bind fun ns => if joinOk a ns then some (.str (joinN a ns)) else none := rfl
def asS : D → Option (List Nat)
  | .str s => some s
  | _ => none
def strOp (g : D → D → Option D) (f1 f2 : En → R D) : En → R D := fun ρ => (f1 ρ).bind fun a => (R.ofO (asS a)).bind fun _ => (f2 ρ).bind fun b => .ofO (g a b)
theorem d_join {o : Expr} {apos : Pos} (hK : B.P.K = X.K) (ho : PE X o (tD B W E1 f1)) (he : PE X e (tD B W E2 f2)) (hs : starEach [e] X.env = [(false, eval e X.env)] := by rfl) (hbase : attributeBase o "join" X.env (eval o X.env) = eval o X.env := by rfl) (hline : (apos.endLine == pos.line) = true := by rfl) :
    PE X (.Call (.Attribute o "join" apos) [e] [] pos) (tD B W [] (strOp dJoin f1 f2)) := (pe_join ho he hs hbase hline).imp fun σ H Q ⟨ρ, As, S, q⟩ => by
  refine tD_bind S q fun a v H1 s1 S1 r1 q1 => ?_
  cases a with
  | str a =>
    obtain ⟨z, rfl, hz⟩ := r1.tick
    refine ⟨⟨z, rfl⟩, ?_⟩
    refine tD_bind S1 q1 fun b u H2 s2 S2 r2 q2 => ?_
    cases b with
    | lst ds =>
      obtain ⟨l, ws, rfl, hl, rl⟩ := r2.lstE
      rw [dJoin_lst] at q2
      cases es : strsOf ds with
      | none => rw [es] at q2; exact q2.elim
      | some ns =>
        rw [es, Option.bind_some] at q2
        rw [strsOf_eq es] at rl
        obtain ⟨zs, rfl, en⟩ := rl.strs
        by_cases hk : joinOk a ns = true
        · rw [if_pos hk] at q2
          refine ⟨z, l, zs, rfl, rfl, .inl (.inl (rd_cut hl)), ?_, q2 _ H2 (s1.trans s2) (rep_of (by rw [join_list, hz, en]))⟩
          have h := of_decide_eq_true hk
          rw [← en, List.map_map, List.length_map, ← slen hz] at h
          have : (List.length ∘ fun z : Str => z.cps.toList) = fun z : Str => z.length := funext fun z => by show z.cps.toList.length = z.cps.size; exact Array.length_toList
          rw [this] at h
          exact h
        · rw [if_neg hk] at q2; exact q2.elim
    | _ => exact (show False from q2).elim
  | _ => exact q1.elim
end
end DL
set_option Elab.async false
set_option linter.all false
set_option maxRecDepth 100000
namespace DL
open PySem PySem.Spec PyProof.Rows L2

/-! ## isinstance, the module's constants -/
def tyD : D → Option String
  | .non => some "NoneType"
  | .bl _ => some "bool"
  | .int _ => some "int"
  | .str _ => some "str"
  | .lst _ => some "list"
  | .tup _ => some "tuple"
  | _ => none
inductive TyN where
  | bool | int | str | list | tuple
def TyN.s : TyN → String
  | .bool => "bool"
  | .int => "int"
  | .str => "str"
  | .list => "list"
  | .tuple => "tuple"
def isD : TyN → D → Option D
  | t, .non => some (.bl false)
  | .bool, .bl _ => some (.bl true)
  | .int, .bl _ => some (.bl true)
  | .int, .int _ => some (.bl true)
  | .str, .str _ => some (.bl true)
  | .list, .lst _ => some (.bl true)
  | .tuple, .tup _ => some (.bl true)
  | _, .dic _ => none
  | _, .obj _ _ => none
  | _, .exn _ _ => none
  | _, .scr _ => none
  | _, _ => some (.bl false)
section
variable {X : Cx} {B : Bs} {W : WX} {E E1 E2 Ee : List Nat} {f f1 f2 : En → R D} {fa : En → R (List D)} {e e1 e2 e3 tg iter : Expr} {es : List Expr} {pos p p' : Pos} {x : Str} {id T : String}
theorem pe_blt {u : String} (hg : Gl X x) (hm : X.mg x = none) (hv : bootBuiltins x = some (.type u)) (hn : x ≠ "__name__" := by decide) (hd : (x == ("__debug__" : Str)) = false := by decide) : PE X (.Name x pos) (tC (.ty u)) :=
  ⟨fun pins s σ H Q I h => ld_blt I hg hm hv ⟨.ty u, H, I, rfl, h⟩ hn hd⟩
theorem tyX_of {P : Wd} {p : Addr → Prop} {H : Hp} {v : V} {d : D} {t : TyN} {r : D} (h : Rep P (cut H p) v d) (e : isD t d = some r) : ∃ u b, TyX P.K H v u ∧ PySem.W.kitOne P.K u (.type t.s) = some b ∧ r = .bl b := by
  cases d with
  | non => cases h; cases t <;> cases e <;> exact ⟨_, _, .base .non, rfl, rfl⟩
  | bl b => cases h; cases t <;> cases e <;> exact ⟨_, _, .base (.bl _), rfl, rfl⟩
  | int b => cases h; cases t <;> cases e <;> exact ⟨_, _, .base (.int _), rfl, rfl⟩
  | str b => obtain ⟨z, rfl, hz⟩ := h.tick; cases t <;> cases e <;> exact ⟨_, _, .base (.str _), rfl, rfl⟩
  | lst b =>
    obtain ⟨a, vs, rfl, h1, h2⟩ := h.lstE
    have : TyX P.K H (.ref a) (.type "list") := by
      rcases rd_cut h1 with h | ⟨o, h⟩
      · exact .base (.lst h)
      · exact .base (.frz h)
    cases t <;> cases e <;> exact ⟨_, _, this, rfl, rfl⟩
  | tup b =>
    obtain ⟨a, vs, rfl, h1, h2⟩ := h.tupE
    have : TyX P.K H (.ref a) (.type "tuple") := by
      rcases sqT_cut h1 with (h | ⟨o, h⟩) | ⟨o, its, n, h, hc, _⟩
      · exact .base (.tup h)
      · exact .fTuple h
      · exact .kTuple h hc
    cases t <;> cases e <;> exact ⟨_, _, this, rfl, rfl⟩
  | dic _ => cases t <;> cases e
  | obj _ _ => cases t <;> cases e
  | exn _ _ => cases t <;> cases e
  | scr _ => cases t <;> cases e
theorem d_isi (t : TyN) {y : Str} {py : Pos} (hK : B.P.K = X.K) (gl : Gl X "isinstance") (hm : X.mg "isinstance" = none) (gy : Gl X y) (my : X.mg y = none) (hv : bootBuiltins y = some (.type t.s)) (h : PE X e (tD B W E f)) (hn : y ≠ "__name__" := by decide) (hd : (y == ("__debug__" : Str)) = false := by decide)
    (hs : starEach [.Name y py] X.env = (false, eval (.Name y py) X.env) :: starEach [] X.env := by rfl) (he : starEach [e, .Name y py] X.env = (false, eval e X.env) :: starEach [.Name y py] X.env := by rfl) (hpl : (backTo pos (starEach [.Name y py] X.env)).any (·.1) = false := by rfl) :
    PE X (.Call (.Name "isinstance" p) [e, .Name y py] [] pos) (tD B W [] (op1 (isD t) f)) :=
  (pe_callB (r := rIsi B.P.K) (by rw [hK]; exact call_isi) gl hm (by rfl) (pa_cons h (pa_cons (pe_blt gy my hv hn hd) pa_nil hs) he) (by decide) (by decide) he hpl).imp fun σ H Q ⟨ρ, As, S, q⟩ => tD_bind S q fun d v H1 s1 S1 r1 q1 => by
    cases ed : isD t d with
    | none => rw [ed] at q1; exact q1.elim
    | some r =>
      rw [ed] at q1
      obtain ⟨u, b, ty, k, rfl⟩ := tyX_of r1 ed
      exact ⟨v, .ty t.s, u, .type t.s, b, rfl, .ty _, ty, k, q1 _ H1 s1 (.bl _)⟩
theorem d_glob {v : V} {u : Value} {d : D} (hg : Gl X x) (hm : X.mg x = some u) (r : RelV v u) (rep : ∀ G, Rep B.P G v d) (hd : (x == ("__debug__" : Str)) = false := by decide) : PE X (.Name x pos) (tD B W [] (con d)) := d_con (pe_glob hg hm r hd) rep

/-! ## what is walked -/
theorem _root_.L2.PI.imp {t t' : TI} (h : PI X tg iter t) (i : ∀ σ H Q, t' σ H Q → t σ H Q) : PI X tg iter t' := ⟨fun p s σ H Q I q => h.run p s σ H Q I (i σ H Q q)⟩
theorem _root_.L2.PI.or {t t' : TI} (h : PI X tg iter t) (h' : PI X tg iter t') : PI X tg iter (fun σ H Q => t σ H Q ∨ t' σ H Q) := ⟨fun p s σ H Q I q => by
  rcases q with q | q
  · exact h.run p s σ H Q I q
  · exact h'.run p s σ H Q I q⟩
def seqD : D → Option (List D)
  | .lst ds => some ds
  | .tup ds => some ds
  | .str s => some (s.map fun c => .str [c])
  | _ => none
def itE (f : En → R D) : En → R (List D) := fun ρ => (f ρ).bind fun d => .ofO (seqD d)
theorem walks_list {P : Wd} {H : Hp} {p : Addr → Prop} {a : Addr} {vs : List V} {ds : List D} (ha : Rd (cut H p) a (.lst vs)) (r : RepL P (cut H p) vs ds) : Walks P (cut H p) (cut H p) (Itl P.K a) ds where
  go := fun i H' s h => by
    obtain ⟨v, e, _⟩ := r.getD (List.getElem?_eq_getElem h)
    exact ⟨vs, v, .inl (Rd.same s ha), e⟩
  stop := fun i H' s h => ⟨vs, .inl (Rd.same s ha), by rw [r.len]; exact h⟩
  yld := fun i H' x H2 d s y e => by
    obtain ⟨rfl, y⟩ := y
    obtain ⟨v, e1, rv⟩ := r.getD e
    have := y vs (.inl (Rd.same s ha))
    rw [e1] at this
    cases this
    exact ⟨Same.refl _, _, Same.refl _, s, fun a o h => .inl h, rv⟩
theorem walks_tup {P : Wd} {H : Hp} {p : Addr → Prop} {a : Addr} {vs : List V} {ds : List D} (ha : SqT P.K (cut H p) a vs) (r : RepL P (cut H p) vs ds) : Walks P (cut H p) (cut H p) (Itt P.K a) ds where
  go := fun i H' s h => by
    obtain ⟨v, e, _⟩ := r.getD (List.getElem?_eq_getElem h)
    exact ⟨vs, v, SqT.same s ha, e⟩
  stop := fun i H' s h => ⟨vs, SqT.same s ha, by rw [r.len]; exact h⟩
  yld := fun i H' x H2 d s y e => by
    obtain ⟨rfl, y⟩ := y
    obtain ⟨v, e1, rv⟩ := r.getD e
    have := y vs (SqT.same s ha)
    rw [e1] at this
    cases this
    exact ⟨Same.refl _, _, Same.refl _, s, fun a o h => .inl h, rv⟩
theorem walks_str {P : Wd} {G : Hp} {z : Str} {cs : List Nat} (hz : z.cps.toList = cs) : Walks P G G (Its z) (cs.map fun c => .str [c]) where
  go := fun i H' s h => by
    rw [List.length_map, ← slen hz] at h
    exact h
  stop := fun i H' s h => by
    rw [List.length_map, ← slen hz] at h
    exact h
  yld := fun i H' x H2 d s y e => by
    obtain ⟨rfl, c, y, rfl⟩ := y
    rw [← Array.getElem?_toList, hz] at y
    rw [List.getElem?_map, y] at e
    cases e
    exact ⟨Same.refl _, _, Same.refl _, s, fun a o h => .inl h, rep_of rfl⟩
theorem i_any (hK : B.P.K = X.K) (h : PE X iter (tD B W E f)) : PI X tg iter (tI B W E E (itE f)) :=
  (((pi_list h).or (pi_tup h)).or (pi_str h)).imp fun σ H Q ⟨ρ, As, S, q⟩ => by
    cases e : f ρ with
    | st => unfold itE at q; rw [e] at q; exact q.elim
    | ex c fs =>
      unfold itE at q; rw [e] at q
      exact .inl (.inl ⟨ρ, As, S, by rw [e]; exact q⟩)
    | ok d =>
      have q' := q
      unfold itE at q
      rw [e, R.bind_ok] at q
      unfold seqD at q
      split at q
      · refine .inl (.inl ⟨ρ, As, S, ?_⟩)
        rw [e]
        intro v H1 s1 r1
        obtain ⟨a, vs, rfl, ha, ra⟩ := r1.lstE
        exact ⟨a, rfl, ⟨vs, by rw [← hK]; exact .inl (rd_cut ha)⟩, by rw [← hK]; exact q _ H1 s1 (walks_list ha ra)⟩
      · refine .inl (.inr ⟨ρ, As, S, ?_⟩)
        rw [e]
        intro v H1 s1 r1
        obtain ⟨a, vs, rfl, ha, ra⟩ := r1.tupE
        exact ⟨a, rfl, ⟨vs, by rw [← hK]; exact sqT_cut ha⟩, by rw [← hK]; exact q _ H1 s1 (walks_tup ha ra)⟩
      · refine .inr ⟨ρ, As, S, ?_⟩
        rw [e]
        intro v H1 s1 r1
        obtain ⟨z, rfl, hz⟩ := r1.tick
        exact ⟨z, rfl, q _ H1 s1 (walks_str hz)⟩
      · exact q.elim
/-! ### ranges -/
def rngL (lo : Int) (n : Nat) : List D := (List.range n).map fun (k : Nat) => .int (lo + k)
def rngC (lo c : Int) (n : Nat) : List D := (List.range n).map fun (k : Nat) => .int (lo + k * c)
def rngOk (i : Int) : Bool := decide (-(2 ^ 62) ≤ i) && decide (i < 2 ^ 62)
theorem rngOk_iff {i : Int} (h : rngOk i = true) : -(2 ^ 62) ≤ i ∧ i < 2 ^ 62 := by
  obtain ⟨a, b⟩ := Bool.and_eq_true_iff.mp h
  exact ⟨of_decide_eq_true a, of_decide_eq_true b⟩
theorem walks_C {P : Wd} {G : Hp} {lo c : Int} {n : Nat} : Walks P G G (Itc lo c n) (rngC lo c n) where
  go := fun i H' s h => by unfold rngC at h; rw [List.length_map, List.length_range] at h; exact h
  stop := fun i H' s h => by unfold rngC at h; rw [List.length_map, List.length_range] at h; exact h
  yld := fun i H' x H2 d s y e => by
    obtain ⟨rfl, rfl⟩ := y
    unfold rngC at e
    rw [List.getElem?_map] at e
    cases e1 : (List.range n)[i]? with
    | none => rw [e1] at e; cases e
    | some k =>
      rw [e1] at e
      cases e
      have : k = i := by
        obtain ⟨h1, h2⟩ := List.getElem?_eq_some_iff.mp e1
        rw [← h2]; exact (List.getElem_range _).symm ▸ rfl
      subst this
      exact ⟨Same.refl _, _, Same.refl _, s, fun a o h => .inl h, .int _⟩
theorem walks_L {P : Wd} {G : Hp} {lo : Int} {n : Nat} : Walks P G G (Itr lo n) (rngL lo n) where
  go := fun i H' s h => by unfold rngL at h; rw [List.length_map, List.length_range] at h; exact h
  stop := fun i H' s h => by unfold rngL at h; rw [List.length_map, List.length_range] at h; exact h
  yld := fun i H' x H2 d s y e => by
    obtain ⟨rfl, rfl⟩ := y
    unfold rngL at e
    rw [List.getElem?_map] at e
    cases e1 : (List.range n)[i]? with
    | none => rw [e1] at e; cases e
    | some k =>
      rw [e1] at e
      cases e
      have : k = i := by
        obtain ⟨h1, h2⟩ := List.getElem?_eq_some_iff.mp e1
        rw [← h2]; exact (List.getElem_range _).symm ▸ rfl
      subst this
      exact ⟨Same.refl _, _, Same.refl _, s, fun a o h => .inl h, .int _⟩
def rgF1 : List D → R (List D)
  | [.int j] => if rngOk j then .ok (rngL 0 j.toNat) else .st
  | _ => .st
def rgF2 : List D → R (List D)
  | [.int i, .int j] => if rngOk i && rngOk j then .ok (rngL i (j - i).toNat) else .st
  | _ => .st
def rgOk3 (i j c : Int) : Bool := decide (c ≠ 0) && (decide (c.natAbs < 1073741824) && (Builtin.Range.small i j c && decide (0 ≤ Builtin.Range.rangeSize i j c)))
def rgF3 : List D → R (List D)
  | [.int i, .int j, .int c] => if rgOk3 i j c then .ok (rngC i c (Builtin.Range.rangeSize i j c).toNat) else .st
  | _ => .st
def rgE (g : List D → R (List D)) (fa : En → R (List D)) : En → R (List D) := fun ρ => (fa ρ).bind g
theorem i_range1 (gl : Gl X "range") (hm : X.mg "range" = none) (ha : PA X [e] (tA B W E fa)) (hs : starEach [e] X.env = [(false, eval e X.env)] := by rfl) : PI X tg (.Call (.Name "range" p) [e] [] pos) (tI B W [] [] (rgE rgF1 fa)) :=
  (pi_range1 gl hm ha hs).imp fun σ H Q ⟨ρ, As, S, q⟩ => tA_bind S q fun ds vs H1 s1 S1 r1 q1 => by
    unfold rgF1 at q1
    split at q1
    · obtain ⟨v, rfl, rv⟩ := r1.oneE
      cases rv
      split at q1
      · rename_i hk
        obtain ⟨h1, h2⟩ := rngOk_iff hk
        exact ⟨_, rfl, h1, h2, q1 _ H1 s1 walks_L⟩
      · exact q1.elim
    · exact q1.elim
theorem i_range2 (gl : Gl X "range") (hm : X.mg "range" = none) (ha : PA X [e1, e2] (tA B W E fa)) (hs : starEach [e1, e2] X.env = [(false, eval e1 X.env), (false, eval e2 X.env)] := by rfl) (hs2 : starEach [e2] X.env = [(false, eval e2 X.env)] := by rfl) : PI X tg (.Call (.Name "range" p) [e1, e2] [] pos) (tI B W [] [] (rgE rgF2 fa)) :=
  (pi_range2 gl hm ha hs hs2).imp fun σ H Q ⟨ρ, As, S, q⟩ => tA_bind S q fun ds vs H1 s1 S1 r1 q1 => by
    unfold rgF2 at q1
    split at q1
    · obtain ⟨v, w, rfl, rv, rw'⟩ := r1.twoE
      cases rv; cases rw'
      split at q1
      · rename_i hk
        obtain ⟨k1, k2⟩ := Bool.and_eq_true_iff.mp hk
        obtain ⟨h1, h2⟩ := rngOk_iff k1
        obtain ⟨h3, h4⟩ := rngOk_iff k2
        exact ⟨_, _, rfl, ⟨h1, h2, h3, h4⟩, q1 _ H1 s1 walks_L⟩
      · exact q1.elim
    · exact q1.elim
theorem i_range3 (gl : Gl X "range") (hm : X.mg "range" = none) (ha : PA X [e1, e2, e3] (tA B W E fa)) (hs : starEach [e1, e2, e3] X.env = (false, eval e1 X.env) :: starEach [e2, e3] X.env := by rfl) (hpl : (backTo pos (starEach [e2, e3] X.env)).any (·.1) = false := by rfl) : PI X tg (.Call (.Name "range" p) [e1, e2, e3] [] pos) (tI B W [] [] (rgE rgF3 fa)) :=
  (pi_range3 gl hm ha hs hpl).imp fun σ H Q ⟨ρ, As, S, q⟩ => tA_bind S q fun ds vs H1 s1 S1 r1 q1 => by
    unfold rgF3 at q1
    split at q1
    · cases r1 with
      | cons r1 r2 =>
      obtain ⟨v, w, rfl, rv, rw'⟩ := r2.twoE
      cases r1; cases rv; cases rw'
      split at q1
      · rename_i hk
        obtain ⟨k1, k2⟩ := Bool.and_eq_true_iff.mp hk
        obtain ⟨k2, k3⟩ := Bool.and_eq_true_iff.mp k2
        obtain ⟨k3, k4⟩ := Bool.and_eq_true_iff.mp k3
        exact ⟨_, _, _, _, rfl, ⟨of_decide_eq_true k1, of_decide_eq_true k2, k3, (Int.toNat_of_nonneg (of_decide_eq_true k4)).symm⟩, q1 _ H1 s1 walks_C⟩
      · exact q1.elim
    · exact q1.elim

/-! ## comprehensions -/
theorem _root_.L2.PG.ex {ι : Type} {t : ι → TG} (h : ∀ o, PG X tg (t o)) : PG X tg (fun v σ H Q => ∃ o, t o v σ H Q) := ⟨fun p s σ H v u Q I r ⟨o, q⟩ => (h o).run p s σ H v u Q I r q⟩
theorem _root_.L2.PE.ex {ι : Type} {t : ι → TE} (h : ∀ o, PE X e (t o)) : PE X e (fun σ H Q => ∃ o, t o σ H Q) := ⟨fun p s σ H Q I ⟨o, q⟩ => (h o).run p s σ H Q I q⟩
theorem _root_.L2.PTs.ex {ι : Type} {ifs : List Expr} {t : ι → TT} (h : ∀ o, PTs X ifs (t o)) : PTs X ifs (fun σ H Q => ∃ o, t o σ H Q) := ⟨fun p s σ H Q I ⟨o, q⟩ => (h o).run p s σ H Q I q⟩
theorem _root_.L2.PTs.imp {ifs : List Expr} {t t' : TT} (h : PTs X ifs t) (i : ∀ σ H Q, t' σ H Q → t σ H Q) : PTs X ifs t' := ⟨fun p s σ H Q I q => h.run p s σ H Q I (i σ H Q q)⟩
def tYesD : En → R Bool := fun _ => .ok true
theorem t_nil : PTs X [] (tT B W tYesD) := pts_nil.imp fun σ H Q ⟨ρ, As, S, q⟩ => q H (Same.refl _)
theorem t_one {ft : En → R Bool} (h : PT X e (tT B W ft)) : PTs X [e] (tT B W ft) := pts_one h
theorem f_lc {elt : Expr} {ifs : List Expr} {scope : Scope} {own : List (Str × Nat)} {it : En → R (List D)} {bnd : D → En → Option En} {tt : En → R Bool} {Mg : List Nat} (hc : X.calm = true) (hN : X.N.Nodup) (hi : PI X tg iter (tI B W E Ee it)) (ok : BlkOk X.N X.env.scope scope own)
    (hm : ∀ i ∈ Mg, i ∈ own.map (·.2)) (hg : ∀ (s : Shared) (H : Hp) (C : Addr) (cl : List (Str × Addr)) (fp : List Addr) (O : Addr → Prop), PG (X.blk s H scope (compEnvC scope cl C X.env) fp) tg (tG (B.wo O) Mg bnd))
    (ht : ∀ (s : Shared) (H : Hp) (C : Addr) (cl : List (Str × Addr)) (fp : List Addr) (O : Addr → Prop), PTs (X.blk s H scope (compEnvC scope cl C X.env) fp) ifs (tT (B.wo O) W0 tt))
    (he : ∀ (s : Shared) (H : Hp) (C : Addr) (cl : List (Str × Addr)) (fp : List Addr) (O : Addr → Prop), PE (X.blk s H scope (compEnvC scope cl C X.env) fp) elt (tD (B.wo O) W0 E1 f)) (hs : ∀ x, foldedSetIterable iter X.env x = pure x := by intro _; rfl) :
    PE X (.ListComp elt [⟨tg, iter, ifs, 0⟩] scope pos) (tF B W (E1.filter fun i => !(own.map (·.2)).contains i) (lcE Ee (own.map (·.2)) bnd it tt f)) :=
  (pe_lc hc hN hi ok (fun s H C cl fp => .ex (hg s H C cl fp)) (fun s H C cl fp => .ex (ht s H C cl fp)) (fun s H C cl fp => .ex (he s H C cl fp)) hs).imp fun σ H Q q => lc_imp hm q
/-- name = [..] -/
theorem s_setLc (i : Nat) {elt : Expr} {ifs : List Expr} {scope : Scope} {own : List (Str × Nat)} {it : En → R (List D)} {bnd : D → En → Option En} {tt : En → R Bool} {Mg : List Nat} (hN : X.N.Nodup) (hy : X.N[i]? = some x) (hyl : X.env.scope.names.lookup x = some .local)
    (hsw : swapsWith (.ListComp elt [⟨tg, iter, ifs, 0⟩] scope pos) (some (.Name x p')) p.line X.env = pure true) (hc : X.calm = true) (hi : PI X tg iter (tI B W E Ee it)) (ok : BlkOk X.N X.env.scope scope own)
    (hm : ∀ i ∈ Mg, i ∈ own.map (·.2)) (hg : ∀ (s : Shared) (H : Hp) (C : Addr) (cl : List (Str × Addr)) (fp : List Addr) (O : Addr → Prop), PG (X.blk s H scope (compEnvC scope cl C X.env) fp) tg (tG (B.wo O) Mg bnd))
    (ht : ∀ (s : Shared) (H : Hp) (C : Addr) (cl : List (Str × Addr)) (fp : List Addr) (O : Addr → Prop), PTs (X.blk s H scope (compEnvC scope cl C X.env) fp) ifs (tT (B.wo O) W0 tt))
    (he : ∀ (s : Shared) (H : Hp) (C : Addr) (cl : List (Str × Addr)) (fp : List Addr) (O : Addr → Prop), PE (X.blk s H scope (compEnvC scope cl C X.env) fp) elt (tD (B.wo O) W0 E1 f)) (hs : ∀ x, foldedSetIterable iter X.env x = pure x := by intro _; rfl) :
    PS X (.Assign [.Name x p'] (.ListComp elt [⟨tg, iter, ifs, 0⟩] scope pos) p) (tS B W [i] (setF i (E1.filter fun i => !(own.map (·.2)).contains i) (lcE Ee (own.map (·.2)) bnd it tt f))) :=
  (ps_setLc hc hN hy hyl hsw hi ok (fun s H C cl fp => .ex (hg s H C cl fp)) (fun s H C cl fp => .ex (ht s H C cl fp)) (fun s H C cl fp => .ex (he s H C cl fp)) hs).imp fun D σ H q => lc_imp hm (imp_setF i q)

/-! ## defs -/
/-- what a def promises: its answer is m of its arguments' data -/
def spD (P : Wd) (n : Nat) (m : List D → R OD) : Sp := fun vs H Q E => vs.length = n ∧ ∃ O ds, (∀ a, O a → H a ≠ none) ∧ RepL P (cut H O) vs ds ∧
  (m ds).go (fun od => ∀ v A H', Same H H' → A.Nodup → (∀ a ∈ A, H a = none) → RepO P (cut H' fun a => O a ∨ a ∈ A) H' v od A → Q v H')
    (fun c fs => ∀ C dx vfs H', Same H H' → H dx = none → P.mg c = some (.ref C) → H' dx = some (.xd vfs) → ExF vfs fs → E (.ref C) (some dx) H')
def callE (m : List D → R OD) (fa : En → R (List D)) : En → R OD := fun ρ => (fa ρ).bind m
theorem f_call {k n : Nat} {g : Addr} {fd : FuncData} {ps : List Str} {m : List D → R OD} (F : FnOk X.prog X.w X.K X.mg X.base (L2.CX X.prog X.w) k g fd ps (spD B.P n m)) (hr : Room k X.A) (gl : Gl X x) (hm : X.mg x = some (.ref g)) (hk : PySem.W.keepIn X.K (.ref g) = true) (hb : Binds X.K fd ps [])
    (tk : Takes X W) (ha : PA X (e :: es) (tA B W E fa)) (hl : ∀ ρ ds, fa ρ = .ok ds → ds.length = n) (hdb : (x == ("__debug__" : Str)) = false := by decide) (he : starEach (e :: es) X.env = (false, eval e X.env) :: starEach es X.env := by rfl) (hpl : (backTo pos (starEach es X.env)).any (·.1) = false := by rfl) :
    PE X (.Call (.Name x p) (e :: es) [] pos) (tF B W E (callE m fa)) :=
  (pe_callS (E := WE W) F hr gl hm hk hb (fun σ => passAt tk σ) ha hdb he hpl).imp fun σ H Q ⟨ρ, As, S, q⟩ => by
    have hl := hl ρ
    unfold callE at q
    refine ⟨ρ, As, S, ?_⟩
    cases ef : fa ρ with
    | st => rw [ef] at q; exact q
    | ex c fs => rw [ef] at q; exact q
    | ok ds =>
      rw [ef, R.bind_ok] at q
      intro vs H1 s1 r1
      have S1 := S.same s1
      refine ⟨by rw [r1.len]; exact hl ds ef, hid B As E, ds, S1.hth, r1, ?_⟩
      cases em : m ds with
      | st => rw [em] at q; exact q
      | ok od =>
        rw [em] at q
        exact fun v A H' s nA fA ro => q v A H' (s1.trans s) nA (fun a ha => s1.free (fA a ha)) ro
      | ex c fs =>
        rw [em] at q
        exact fun C dx vfs H' s nd mc hd xf => q C dx vfs H' (s1.trans s) (s1.free nd) mc hd xf
end
end DL
set_option Elab.async false
set_option linter.all false
set_option maxRecDepth 100000
namespace DL
open PySem PySem.Spec PyProof.Rows L2

/-! ## tuples as targets -/
def setAll : List Nat → List D → En → En
  | i :: is, d :: ds, ρ => setAll is ds (ρ.set i (some (.sh d)))
  | _, _, ρ => ρ
def bNames (is : List Nat) : D → En → Option En := fun d ρ => match d with
  | .tup ds => if ds.length = is.length then some (setAll is ds ρ) else none
  | .lst ds => if ds.length = is.length then some (setAll is ds ρ) else none
  | _ => none
def tGs (B : Bs) (is : List Nat) : TGs := fun vs σ H Q => ∃ ρ As ds, Sta B σ H ρ As ∧ RepL B.P (cut H (hid B As [])) vs ds ∧ ds.length = is.length ∧
  ∀ σ' As', Sta B σ' H (setAll is ds ρ) As' → Kp is σ H As σ' H As' → (∀ i, i ∉ is → As' i = As i) → Q σ' H
section
variable {X : Cx} {B : Bs} {W : WX} {E E1 E2 Ee : List Nat} {f f1 f2 : En → R D} {fa : En → R (List D)} {e e1 e2 e3 tg iter : Expr} {es : List Expr} {pos p p' : Pos} {x : Str} {id T : String}
theorem _root_.L2.PGs.imp {t t' : TGs} (h : PGs X es t) (i : ∀ v σ H Q, t' v σ H Q → t v σ H Q) : PGs X es t' := ⟨fun p s σ H v u Q I r q => h.run p s σ H v u Q I r (i v σ H Q q)⟩
theorem gs_nil : PGs X [] (tGs B []) := pgs_nil.imp fun vs σ H Q ⟨ρ, As, ds, S, r, hl, h⟩ => by
  cases ds with
  | nil => cases r; exact ⟨rfl, h σ As S (Kp.refl (Same.refl _)) fun _ _ => rfl⟩
  | cons d ds => cases hl
theorem gs_cons (i : Nat) {is : List Nat} (hN : X.N.Nodup) (hi : X.N[i]? = some x) (hx : Loc X.env.scope x) (h2 : PGs X es (tGs B is)) (hf : X.fn x = true ∨ X.env.scope.names.lookup x = some .local := by first | exact .inl rfl | exact .inr rfl | assumption)
    (hs : (assignEach (.Name x pos :: es) X.env).map (·.2) = assign (.Name x pos) X.env :: (assignEach es X.env).map (·.2) := by rfl) : PGs X (.Name x pos :: es) (tGs B (i :: is)) :=
  (pgs_cons (pg_name hN hi hx hf) h2 hs).imp fun vs σ H Q ⟨ρ, As, ds, S, r, hl, h⟩ => by
    cases r with
    | nil => cases hl
    | @cons v vs d ds r1 r2 =>
      refine ⟨v, vs, rfl, ?_⟩
      have S1 := S.setSh (i := i) r1
      refine ⟨_, _, ds, S1, r2.up (cut_mono (Same.refl _) fun a z => ?_), Nat.succ.inj hl, fun σ' As' S' k' h' => ?_⟩
      · rcases z with z | ⟨j, hj, z⟩
        · exact .inl z
        · rcases putA_mem z with ⟨_, z⟩ | ⟨_, z⟩
          · cases z
          · exact .inr ⟨j, hj, z⟩
      · refine h σ' As' S' ?_ fun j hj => ?_
        · have k0 : Kp [i] σ H As (σ.set i (some v)) H (putA As i []) := (Kp.refl (Same.refl _) : Kp [] σ H As σ H As).set fun _ h => nomatch h
          exact k0.trans k'
        · rw [h' j fun z => hj (List.mem_cons_of_mem _ z)]
          exact putA_ne fun z => hj (by rw [z]; exact List.mem_cons_self)
theorem bNames_inv {is : List Nat} {d : D} {ρ ρ' : En} (h : bNames is d ρ = some ρ') : ∃ ds, (d = .tup ds ∨ d = .lst ds) ∧ ds.length = is.length ∧ ρ' = setAll is ds ρ := by
  unfold bNames at h
  split at h
  · split at h
    · cases h; exact ⟨_, .inl rfl, by assumption, rfl⟩
    · cases h
  · split at h
    · cases h; exact ⟨_, .inr rfl, by assumption, rfl⟩
    · cases h
  · cases h
theorem _root_.L2.PG.or {t t' : TG} (h : PG X tg t) (h' : PG X tg t') : PG X tg (fun v σ H Q => t v σ H Q ∨ t' v σ H Q) := ⟨fun p s σ H v u Q I r q => by
  rcases q with q | q
  · exact h.run p s σ H v u Q I r q
  · exact h'.run p s σ H v u Q I r q⟩
/-- (a, b, ..) -/
theorem g_tup {is : List Nat} {k : Nat} (hK : B.P.K = X.K) (hc : X.calm = true) (h : PGs X es (tGs B is)) (hn : (assignEach es X.env).length = is.length := by rfl) (hst : (assignEach es X.env).findIdx? (·.1) = none := by rfl) : PG X (.Tuple es k pos) (tG B is (bNames is)) :=
  ((pg_tup hc h hn hst).or (pg_lst hc h hn hst)).imp fun v σ H Q ⟨ρ, As, d, S, r, h⟩ => by
    cases eb : bNames is d ρ with
    | none => rw [eb] at h; exact h.elim
    | some ρ' =>
      rw [eb] at h
      obtain ⟨ds, ed, hl, rfl⟩ := bNames_inv eb
      rcases ed with rfl | rfl
      · obtain ⟨a, vs, rfl, ha, ra⟩ := r.tupE
        exact .inl ⟨a, vs, rfl, by rw [← hK]; exact sqT_cut ha, ra.len.trans hl, ρ, As, ds, S, ra, hl, h⟩
      · obtain ⟨a, vs, rfl, ha, ra⟩ := r.lstE
        exact .inr ⟨a, vs, rfl, by rw [← hK]; exact .inl (rd_cut ha), ra.len.trans hl, ρ, As, ds, S, ra, hl, h⟩
/-- a, b = e -/
def asgS (bnd : D → En → Option En) (E : List Nat) (f : En → R D) : En → Out := fun ρ => (f ρ).out ρ fun d => match bnd d (frzIf d E ρ) with
  | some ρ' => .nx ρ'
  | none => .st
theorem s_asg {bnd : D → En → Option En} {M : List Nat} (h : PE X e (tD B W E f)) (hg : PG X tg (tG B M bnd)) (hs : swapsWithSole [tg] e pos.line X.env = pure false := by rfl) (hw : swappedStores [tg] e X.env = pure none := by rfl)
    (h1 : (assignEach [tg] X.env).map (·.2) = [assign tg X.env] := by rfl) : PS X (.Assign [tg] e pos) (tS B W M (asgS bnd E f)) :=
  (ps_asg h hg hs hw h1).imp fun D σ H ⟨ρ, As, S, h⟩ => tD_out S h fun d v H1 s1 S1 r q => by
    obtain ⟨A', S2, r2, k⟩ := rep_frz S1 r
    refine ⟨_, A', d, S2, r2, ?_⟩
    revert q
    cases bnd d (frzIf d E ρ) with
    | none => exact fun q => q
    | some ρ' => exact fun q σ' As' S' k' _ => q σ' H1 As' S' (k.trans k')
end

/-! ## a def by its body -/
def mOf (n N : Nat) (body : En → Out) : List D → R OD := fun ds => if ds.length = n then match body (ds.map (fun d => some (OD.sh d)) ++ List.replicate (N - n) none) with
    | .nx _ => .ok (.sh .non)
    | .rt od _ => .ok od
    | .ex c fs _ => .ex c fs
    | _ => .st
  else .st
section
variable {P : Program} {w : World} {K : PySem.W.Frag} {mg : Str → Option Value} {base : Heap}
theorem sta_start {O : Addr → Prop} {H : Hp} {N : Nat} {vs : List V} {ds : List D} (hO : ∀ a, O a → H a ≠ none) (r : RepL ⟨K, mg, none⟩ (cut H O) vs ds) :
    Sta ⟨⟨K, mg, none⟩, O, fun _ => False, H⟩ (vs.map some ++ List.replicate (N - vs.length) none) H (ds.map (fun d => some (OD.sh d)) ++ List.replicate (N - vs.length) none) (fun _ => []) where
  len := by rw [List.length_append, List.length_append, List.length_map, List.length_map, List.length_replicate, List.length_replicate, r.len]
  pt := fun i od e => by
    by_cases hi : i < ds.length
    · rw [List.getElem?_append_left (by rw [List.length_map]; exact hi), List.getElem?_map] at e
      cases e1 : ds[i]? with
      | none => rw [e1] at e; cases e
      | some d =>
        rw [e1] at e
        cases e
        obtain ⟨v, e2, rv⟩ := r.getD e1
        refine ⟨v, ?_, .sh (rv.up (cut_mono (Same.refl _) fun a z => ?_))⟩
        · rw [List.getElem?_append_left (by rw [List.length_map, r.len]; exact hi), List.getElem?_map, e2]; rfl
        · rcases z with z | ⟨j, _, z⟩
          · exact z
          · cases z
    · rw [List.getElem?_append_right (by rw [List.length_map]; omega)] at e
      rw [List.getElem?_replicate] at e
      split at e <;> cases e
  nd := fun _ => List.nodup_nil
  dj := fun _ _ _ h => nomatch h
  ow := fun _ _ h => nomatch h
  no := fun _ _ h => nomatch h
  hs := fun _ _ h => nomatch h
  ob := hO
  fr := fun a o e _ => e
  th := fun a h => h
theorem Sta.out {B : Bs} {σ : L2.St} {H : Hp} {ρ : En} {As : Ow} (S : Sta B σ H ρ As) (h0 : ∀ a, ¬ B.A0 a) : Same B.H0 H := fun a o e => S.fr a o e (h0 a)
theorem fn_ok {x qual : Str} {st : Stmt} {f : Addr} {fd : FuncData} {N ps : List Str} {k n : Nat} {M : List Nat} {body : En → Out} (F : Fun K x qual st f fd) (S : FnScope N ps (defScope st)) (hn : ps.length = n)
    (hbody : ∀ (cdv : Value) (A : Around) (outer : List Env) (s : Shared) (H : Hp) (E : XK) (O : Addr → Prop), Room k (A.deeper (envOfC qual (defScope st) s.heap.objs.size f cdv)) →
      PSs (cxOf (L2.CX P w) P w K mg base N qual (defScope st) f cdv A outer s H E) (defBody st) (tS ⟨⟨K, mg, none⟩, O, fun _ => False, H⟩ (fun c d _ H' => E c d H') M body)) :
    FnOk P w K mg base (L2.CX P w) (k + 1) f fd ps (spD ⟨K, mg, none⟩ n (mOf n N.length body)) := by
  subst hn
  refine F.okX S (fun vs H Q E h => h.1) fun cdv A outer s H vs Q E hr hsp => ?_
  obtain ⟨hl, O, ds, hO, r, q⟩ := hsp
  refine ⟨_, hbody cdv A outer s H E O hr, ?_⟩
  unfold mOf at q
  rw [if_pos (r.len.symm.trans hl)] at q
  have S0 := sta_start (N := N.length) hO r
  rw [hl] at S0
  refine ⟨_, _, by unfold L2.start; rw [hl]; exact S0, ?_⟩
  have no0 : ∀ a, ¬ (Bs.mk ⟨K, mg, none⟩ O (fun _ => False) H).A0 a := fun _ z => z
  revert q
  cases body (ds.map (fun d => some (OD.sh d)) ++ List.replicate (N.length - ps.length) none) with
  | st => exact fun q => q.elim
  | bk ρ => exact fun q => q.elim
  | ct ρ => exact fun q => q.elim
  | nx ρ' => exact fun q σ' H' As' S' k' => q .non [] H' (S'.out no0) List.nodup_nil (fun _ h => nomatch h) (.sh .non)
  | rt od ρ' => exact fun q v A' σ' H' As' S' k' nA fA dA ro => q v A' H' (S'.out no0) nA fA (RepO.mono (cut_mono (Same.refl _) fun a h => h.imp .inl id) _ _ _ ro fun _ _ => rfl)
  | ex c fs ρ' => exact fun q C dx vfs σ' H' As' S' k' nd mc hd na xf => q C dx vfs H' (S'.out no0) nd mc hd xf
end
section
variable {X : Cx} {B : Bs} {W : WX} {st : Stmt} {sts : List Stmt} {e : Expr} {E : List Nat} {x : Str} {pos px : Pos}
/-- what is not gone through -/
theorem s_stuck : PS X st (tS B W [] fun _ => .st) := ⟨fun p s σ H D I ⟨ρ, As, S, h⟩ => h.elim⟩
theorem ss_stuck : PSs X sts (tS B W [] fun _ => .st) := ⟨fun p s σ H D I ⟨ρ, As, S, h⟩ => h.elim⟩
theorem d_stuck : PE X e (tD B W [] fun _ => .st) := ⟨fun p s σ H D I ⟨ρ, As, S, h⟩ => h.elim⟩
theorem t_stuck : PT X e (tT B W fun _ => .st) := ⟨fun p s σ H D I ⟨ρ, As, S, h⟩ => h.elim⟩
theorem PTw {ft : En → R Bool} (h : PW X e (tT B W ft)) : PT X e (tT B W ft) := h.pt
/-- return of a name with all that it owns -/
def retV (i : Nat) : En → Out := fun ρ => match ρ[i]? with
  | some (some od) => .rt od (ρ.set i none)
  | _ => .st
theorem Sta.drop {σ : L2.St} {H : Hp} {ρ : En} {As : Ow} (S : Sta B σ H ρ As) (i : Nat) : Sta B σ H (ρ.set i none) (putA As i []) where
  len := by rw [List.length_set]; exact S.len
  pt := fun j od h => by
    by_cases hj : j = i
    · subst hj
      rw [List.getElem?_set_self'] at h
      cases e : ρ[j]? with
      | none => rw [e] at h; cases h
      | some z => rw [e] at h; cases h
    · rw [List.getElem?_set_ne (Ne.symm hj)] at h
      obtain ⟨v, e1, r⟩ := S.pt j od h
      rw [putA_ne hj]
      refine ⟨v, e1, RepO.mono (cut_mono (Same.refl _) fun a z => ?_) _ _ _ r fun _ _ => rfl⟩
      rcases z with z | ⟨m, hm, z⟩
      · exact .inl z
      · rcases putA_mem z with ⟨_, z⟩ | ⟨_, z⟩
        · cases z
        · exact .inr ⟨m, hm, z⟩
  nd := fun j => by
    by_cases hj : j = i
    · subst hj; rw [putA_same]; exact List.nodup_nil
    · rw [putA_ne hj]; exact S.nd j
  dj := fun j k a h1 h2 => by
    rcases putA_mem h1 with ⟨_, z⟩ | ⟨_, z1⟩
    · cases z
    · rcases putA_mem h2 with ⟨_, z⟩ | ⟨_, z2⟩
      · cases z
      · exact S.dj j k a z1 z2
  ow := fun j a h => by
    rcases putA_mem h with ⟨_, z⟩ | ⟨_, z⟩
    · cases z
    · exact S.ow j a z
  no := fun j a h => by
    rcases putA_mem h with ⟨_, z⟩ | ⟨_, z⟩
    · cases z
    · exact S.no j a z
  hs := fun j a h => by
    rcases putA_mem h with ⟨_, z⟩ | ⟨_, z⟩
    · cases z
    · exact S.hs j a z
  ob := S.ob
  fr := S.fr
  th := S.th
theorem s_retV (i : Nat) (h0 : ∀ a, ¬ B.A0 a) (h : PE X (.Name x px) (tVar i)) : PS X (.Return (some (.Name x px)) pos) (tS B W [] (retV i)) :=
  (ps_ret h).imp fun D σ H ⟨ρ, As, S, h⟩ => by
    unfold retV at h
    split at h
    · rename_i od e
      obtain ⟨v, e1, r⟩ := S.pt i od e
      have hsub : ∀ j a, a ∈ putA As i [] j → a ∈ As j := fun j a z => by
        rcases putA_mem z with ⟨_, z⟩ | ⟨_, z⟩
        · cases z
        · exact z
      refine ⟨v, e1, h v (As i) σ H _ (S.drop i) ⟨rfl, fun _ _ => rfl, fun j a z => .inl (hsub j a z), fun a o e _ => e, fun a h => h⟩ (S.nd i) (fun a ha => (S.ow i a ha).resolve_left (h0 a)) (fun a ha j z => ?_) (RepO.mono (cut_mono (Same.refl _) fun a z => ?_) _ _ _ r fun _ _ => rfl)⟩
      · rcases putA_mem z with ⟨_, z⟩ | ⟨hj, z⟩
        · cases z
        · exact hj (S.dj j i a z ha)
      · rcases z with (z | ⟨j, _, z⟩) | z
        · exact .inl z
        · exact .inr ⟨j, List.not_mem_nil, hsub j a z⟩
        · exact .inr ⟨i, List.not_mem_nil, z⟩
    · exact h.elim
end
end DL
set_option Elab.async false
set_option linter.all false
set_option maxRecDepth 100000
namespace DL
open PySem PySem.Spec PyProof.Rows L2

/-- a def of the text, ready to be called: its answer is m of the data -/
structure DefOk (P : Program) (w : World) (K : PySem.W.Frag) (mg : Str → Option Value) (base : Heap) (x : Str) (k n : Nat) (m : List D → R OD) : Prop where
  ex : ∃ (f : Addr) (fd : FuncData) (ps : List Str), mg x = some (.ref f) ∧ PySem.W.keepIn K (.ref f) = true ∧ Binds K fd ps [] ∧ FnOk P w K mg base (L2.CX P w) k f fd ps (spD ⟨K, mg, none⟩ n m)
section
variable {P : Program} {w : World} {K : PySem.W.Frag} {mg : Str → Option Value} {base : Heap}
theorem fn_okD {x qual : Str} {params : Arguments} {sts : List Stmt} {scope : Scope} {f : Addr} {fd : FuncData} {N ps : List Str} {k n : Nat} {M : List Nat} {body : En → Out} (F : FunD K x qual params sts scope [] [] f fd) (S : FnScope N ps scope) (hn : ps.length = n)
    (hbody : ∀ (cdv : Value) (A : Around) (outer : List Env) (s : Shared) (H : Hp) (E : XK) (O : Addr → Prop), Room k (A.deeper (envOfC qual scope s.heap.objs.size f cdv)) →
      PSs (cxOf (L2.CX P w) P w K mg base N qual scope f cdv A outer s H E) sts (tS ⟨⟨K, mg, none⟩, O, fun _ => False, H⟩ (fun c d _ H' => E c d H') M body)) :
    FnOk P w K mg base (L2.CX P w) (k + 1) f fd ps (spD ⟨K, mg, none⟩ n (mOf n N.length body)) := by
  subst hn
  refine F.ok S (fun vs H Q E h => h.1) fun cdv A outer s H vs Q E hr hsp => ?_
  obtain ⟨hl, O, ds, hO, r, q⟩ := hsp
  refine ⟨_, hbody cdv A outer s H E O hr, ?_⟩
  unfold mOf at q
  rw [if_pos (r.len.symm.trans hl)] at q
  have S0 := sta_start (N := N.length) hO r
  rw [hl] at S0
  refine ⟨_, _, by unfold L2.start; rw [hl]; exact S0, ?_⟩
  have no0 : ∀ a, ¬ (Bs.mk ⟨K, mg, none⟩ O (fun _ => False) H).A0 a := fun _ z => z
  revert q
  cases body (ds.map (fun d => some (OD.sh d)) ++ List.replicate (N.length - ps.length) none) with
  | st => exact fun q => q.elim
  | bk ρ => exact fun q => q.elim
  | ct ρ => exact fun q => q.elim
  | nx ρ' => exact fun q σ' H' As' S' k' => q .non [] H' (S'.out no0) List.nodup_nil (fun _ h => nomatch h) (.sh .non)
  | rt od ρ' => exact fun q v A' σ' H' As' S' k' nA fA dA ro => q v A' H' (S'.out no0) nA fA (RepO.mono (cut_mono (Same.refl _) fun a h => h.imp .inl id) _ _ _ ro fun _ _ => rfl)
  | ex c fs ρ' => exact fun q C dx vfs σ' H' As' S' k' nd mc hd na xf => q C dx vfs H' (S'.out no0) nd mc hd xf
theorem def_ok {x qual : Str} {params : Arguments} {sts : List Stmt} {scope : Scope} {f : Addr} {fd : FuncData} {N ps : List Str} {k n : Nat} {M : List Nat} {body : En → Out} (F : FunD K x qual params sts scope [] [] f fd) (hg : mg x = some (.ref f)) (S : FnScope N ps scope) (hn : ps.length = n) (hb : Binds K fd ps [])
    (hbody : ∀ (cdv : Value) (A : Around) (outer : List Env) (s : Shared) (H : Hp) (E : XK) (O : Addr → Prop), Room k (A.deeper (envOfC qual scope s.heap.objs.size f cdv)) →
      PSs (cxOf (L2.CX P w) P w K mg base N qual scope f cdv A outer s H E) sts (tS ⟨⟨K, mg, none⟩, O, fun _ => False, H⟩ (fun c d _ H' => E c d H') M body)) :
    DefOk P w K mg base x (k + 1) n (mOf n N.length body) := ⟨f, fd, ps, hg, F.kp, hb, fn_okD F S hn hbody⟩
theorem DefOk.imp {x : Str} {k n : Nat} {m m' : List D → R OD} (h : DefOk P w K mg base x k n m) (e : ∀ ds, m' ds = .st ∨ m' ds = m ds) : DefOk P w K mg base x k n m' := by
  obtain ⟨f, fd, ps, a, b, c, F⟩ := h.ex
  refine ⟨f, fd, ps, a, b, c, F.imp fun vs H Q E ⟨hl, O, ds, hO, r, q⟩ => ⟨hl, O, ds, hO, r, ?_⟩⟩
  rcases e ds with e | e
  · rw [e] at q; exact q.elim
  · rw [e] at q; exact q
end
section
variable {X : Cx} {B : Bs} {W : WX} {E E1 E2 Ee M M' : List Nat} {f f1 f2 : En → R D} {fa : En → R (List D)} {fo : En → R OD} {ft ft2 : En → R Bool} {e e1 e2 e3 tg iter : Expr} {es : List Expr} {pos p p' px : Pos} {x : Str} {id T : String}
theorem hu64 {A : Around} {k : Nat} (hr : Room k A) : A.units + 64 < cLine := by have := hr.un; omega
theorem f_fn {k k' n : Nat} {m : List D → R OD} {P' : Program} {w' : World} {K' : PySem.W.Frag} {mg' : Str → Option Value} {base' : Heap} (c : DefOk P' w' K' mg' base' x k n m) (hr : Room k' X.A) (hk : k ≤ k')
    (tk : Takes X W) (gl : Gl X x) (ha : PA X (e :: es) (tA B W E fa)) (hl : ∀ ρ ds, fa ρ = .ok ds → ds.length = n) (hP : X.prog = P' := by rfl) (hw : X.w = w' := by rfl) (hK : X.K = K' := by rfl) (hm : X.mg = mg' := by rfl) (hb : X.base = base' := by rfl) (hBK : B.P = ⟨X.K, X.mg, none⟩ := by rfl) (hdb : (x == ("__debug__" : Str)) = false := by decide) (he : starEach (e :: es) X.env = (false, eval e X.env) :: starEach es X.env := by rfl) (hpl : (backTo pos (starEach es X.env)).any (·.1) = false := by rfl) :
    PE X (.Call (.Name x p) (e :: es) [] pos) (tF B W E (callE m fa)) := by
  subst hP hw hK hm hb
  obtain ⟨f, fd, ps, a, b, c, F⟩ := c.ex
  rw [← hBK] at F
  exact f_call F (hr.mono hk) gl a b c tk ha hl hdb he hpl
theorem len_nil : ∀ ρ ds, aNil ρ = .ok ds → ds.length = 0 := fun ρ ds h => by cases h; rfl
theorem len_cons {n : Nat} (h : ∀ ρ ds, fa ρ = .ok ds → ds.length = n) : ∀ ρ ds, aCons f fa ρ = .ok ds → ds.length = n + 1 := fun ρ ds e => by
  unfold aCons at e
  cases e1 : f ρ with
  | ok a =>
    rw [e1, R.bind_ok] at e
    cases e2 : fa ρ with
    | ok b => rw [e2, R.bind_ok] at e; cases e; rw [List.length_cons, h ρ b e2]
    | ex c fs => rw [e2] at e; cases e
    | st => rw [e2] at e; cases e
  | ex c fs => rw [e1] at e; cases e
  | st => rw [e1] at e; cases e
theorem t_and1 (h : PT X e (tT B W ft)) : PW X (.BoolOp .And [e] pos) (tT B W ft) := pw_and1 h
theorem t_or1 (h : PT X e (tT B W ft)) : PW X (.BoolOp .Or [e] pos) (tT B W ft) := pw_or1 h
theorem t_eq (hK : B.P.K = X.K) (hu : X.A.units + 64 < cLine) (h1 : PE X e1 (tD B W E1 f1)) (h2 : PE X e2 (tD B W E2 f2)) : PT X (.Compare e1 [.Eq] [e2] pos) (tT B W (tst (op2 dEq f1 f2))) := d_tcmp (op_eqP hK hu) ad_eq fl_eq h1 h2 (nomark _)
theorem t_ne (hK : B.P.K = X.K) (hu : X.A.units + 64 < cLine) (h1 : PE X e1 (tD B W E1 f1)) (h2 : PE X e2 (tD B W E2 f2)) : PT X (.Compare e1 [.NotEq] [e2] pos) (tT B W (tst (op2 dNe f1 f2))) := d_tcmp (op_neP hK hu) ad_ne fl_ne h1 h2 (nomark _)
theorem t_lt (h1 : PE X e1 (tD B W E1 f1)) (h2 : PE X e2 (tD B W E2 f2)) : PT X (.Compare e1 [.Lt] [e2] pos) (tT B W (tst (op2 dLt f1 f2))) := d_tcmp op_ltA ad_cmp fl_cmp h1 h2 (nomark _)
theorem t_le (h1 : PE X e1 (tD B W E1 f1)) (h2 : PE X e2 (tD B W E2 f2)) : PT X (.Compare e1 [.LtE] [e2] pos) (tT B W (tst (op2 dLe f1 f2))) := d_tcmp op_leA ad_cmp fl_cmp h1 h2 (nomark _)
theorem t_gt (h1 : PE X e1 (tD B W E1 f1)) (h2 : PE X e2 (tD B W E2 f2)) : PT X (.Compare e1 [.Gt] [e2] pos) (tT B W (tst (op2 dGt f1 f2))) := d_tcmp op_gtA ad_cmp fl_cmp h1 h2 (nomark _)
theorem t_ge (h1 : PE X e1 (tD B W E1 f1)) (h2 : PE X e2 (tD B W E2 f2)) : PT X (.Compare e1 [.GtE] [e2] pos) (tT B W (tst (op2 dGe f1 f2))) := d_tcmp op_geA ad_cmp fl_cmp h1 h2 (nomark _)
theorem t_is (h1 : PE X e1 (tD B W E1 f1)) (h2 : PE X e2 (tD B W E2 f2)) : PT X (.Compare e1 [.Is] [e2] pos) (tT B W (tst (op2 dIs f1 f2))) := d_tcmp (op_isBl.or op_isN) ad_is fl_is h1 h2 (nomark _)
theorem t_isNot (h1 : PE X e1 (tD B W E1 f1)) (h2 : PE X e2 (tD B W E2 f2)) : PT X (.Compare e1 [.IsNot] [e2] pos) (tT B W (tst (op2 dIsNot f1 f2))) := d_tcmp (op_notBl.or op_notN) ad_isNot fl_isNot h1 h2 (nomark _)
theorem t_in (hK : B.P.K = X.K) (hu : X.A.units + 64 < cLine) (h1 : PE X e1 (tD B W E1 f1)) (h2 : PE X e2 (tD B W E2 f2)) (hm : behindInMarks .In e2 = false := by rfl) : PT X (.Compare e1 [.In] [e2] pos) (tT B W (tst (op2 dIn f1 f2))) := d_tcmp (op_inA hK hu) ad_in fl_in h1 h2 hm
theorem t_notIn (hK : B.P.K = X.K) (hu : X.A.units + 64 < cLine) (h1 : PE X e1 (tD B W E1 f1)) (h2 : PE X e2 (tD B W E2 f2)) (hm : behindInMarks .NotIn e2 = false := by rfl) : PT X (.Compare e1 [.NotIn] [e2] pos) (tT B W (tst (op2 dNotIn f1 f2))) := d_tcmp (op_notInA hK hu) ad_notIn fl_notIn h1 h2 hm
theorem d_one {op : BoolOp} (h1 : PE X e1 (tD B W E1 f1)) : PE X (.BoolOp op [e1] pos) (tD B W E1 f1) := pe_one h1
theorem v_and {rest : List Expr} (h1 : PE X e1 (tD B W E1 f1)) (h2 : PE X (.BoolOp .And (e2 :: rest) pos) (tD B W E2 f2)) : PE X (.BoolOp .And (e1 :: e2 :: rest) pos) (tD B W E2 (andV f1 f2)) :=
  (pe_and h1 h2).imp fun σ H Q ⟨ρ, As, S, q⟩ => tD_bind S q fun d v H1 s1 S1 r1 q1 => by
    cases d with
    | bl b =>
      cases r1
      refine ⟨b, rfl, ?_⟩
      cases b with
      | true => exact ⟨ρ, As, S1, imp_same s1 q1⟩
      | false => exact q1 _ H1 s1 (.bl _)
    | _ => exact q1.elim
theorem v_or {rest : List Expr} (h1 : PE X e1 (tD B W E1 f1)) (h2 : PE X (.BoolOp .Or (e2 :: rest) pos) (tD B W E2 f2)) : PE X (.BoolOp .Or (e1 :: e2 :: rest) pos) (tD B W E2 (orV f1 f2)) :=
  (pe_or h1 h2).imp fun σ H Q ⟨ρ, As, S, q⟩ => tD_bind S q fun d v H1 s1 S1 r1 q1 => by
    cases d with
    | bl b =>
      cases r1
      refine ⟨b, rfl, ?_⟩
      cases b with
      | false => exact ⟨ρ, As, S1, imp_same s1 q1⟩
      | true => exact q1 _ H1 s1 (.bl _)
    | _ => exact q1.elim
theorem d_globI {i : Int} (hg : Gl X x) (hm : ∃ t, X.mg x = some (.int i t)) (hd : (x == ("__debug__" : Str)) = false := by decide) : PE X (.Name x pos) (tD B W [] (con (.int i))) := by
  obtain ⟨t, hm⟩ := hm
  exact d_glob (v := .int i) hg hm ⟨t, rfl⟩ (fun _ => .int _) hd
theorem d_globS {z : Str} (hg : Gl X x) (hm : ∃ t, X.mg x = some (.str z t)) (cs : List Nat) (hz : z.cps.toList = cs) (hd : (x == ("__debug__" : Str)) = false := by decide) : PE X (.Name x pos) (tD B W [] (con (.str cs))) := by
  obtain ⟨t, hm⟩ := hm
  exact d_glob (v := .str z) hg hm ⟨t, rfl⟩ (fun _ => rep_of hz) hd
/-! ### x += e -/
def augS (i : Nat) (g : D → D → Option D) (E : List Nat) (f : En → R D) : En → Out := fun ρ => (var i ρ).out ρ fun a => (f ρ).out ρ fun b => match g a b with
  | some d => .nx ((frzIf d E ρ).set i (some (.sh d)))
  | none => .st
end

/-! ## the end of a law -/
section
theorem end_law {l : PySem.W.OpenLaw} {n k : Nat} {q : Program} {loose : List Str} {XP : (Str → Option Value) → Heap → Prop} {YP : World → Heap → Prop} {d : DefRec} {x : Str} {m : List D → R OD}
    (hn : l.most = some n) (hn2 : n ≤ sizeLine) (hdf : d.params.defaults = []) (hr : Room k callerA)
    (F : ∀ (w : World) (mg : Str → Option Value) (fa : Addr) (h : Heap), YP w h → h.Ns mainGlobals mg → mg d.name = some (.ref fa) →
      ∃ (K : PySem.W.Frag) (fd : FuncData), K.In h ∧ (∀ (s : Shared) (u : Value), BindsTo s fd ⟨[u], []⟩ [(x, u)]) ∧
        ∀ base : Heap, K.In base → base.Ns mainGlobals mg → FnOk l.prog w K mg base (L2.CX l.prog w) k fa fd [x] (spD ⟨K, mg, none⟩ 1 m))
    (hm : ∀ ns : List Int, ns.length ≤ n → (∀ z ∈ ns, Builtin.Int.intBits z ≤ 1048576) → m [.scr ns] = .ok (.sh (.bl true))) :
    PySem.W.WalkO q loose XP YP l.row.toRowW d [] (fun f vs => PySem.call f vs) :=
  Att.attach_callB hn hdf fun w sa sb mg mb fa o pm cd doc a vs ns G Y ho hd hcd hmg hobj hints hlen hbits hg => by
    obtain ⟨K, fd, KX, hb, hF⟩ := F w mg fa _ Y G.T.g hmg
    have big : ns.length ≤ sizeLine := Nat.le_trans hlen hn2
    apply law_call KX G.T.g G.T.b G.T.builtins G.T.nolimit hg hobj hints big hr hF hb
    · intro H hO hS
      have e : cut H (fun _ => False) = H := funext fun b => cut_out fun z => z
      refine ⟨rfl, fun _ => False, [.scr ns], fun _ z => z.elim, .cons (by rw [e]; exact .scr hS) .nil, ?_⟩
      rw [hm ns hlen hbits]
      intro v A H' _ _ _ r
      cases r with
      | sh r => cases r; rfl
    · intro H e s' z
      obtain ⟨_, _, _, _, _, _, _, _, _, _, z⟩ := z
      revert z
      simp
end
end DL
set_option Elab.async false
set_option linter.all false
set_option maxRecDepth 100000
namespace DL
open PySem PySem.Spec PyProof.Rows L2

/-! ## plain reasoning: what the readings answer -/
@[simp] theorem dlt_int (i j : Int) : op2 dLt (con (.int i)) (con (.int j)) [] = .ok (.bl (decide (i < j))) := rfl
theorem lstF_eq (xs : List D) : lstF xs = .lst (xs.map OD.sh) := rfl
/-- what a turn of a loop leaves: K of the slots, Z of an answer -/
@[irreducible] def Out.lk (K : En → Prop) (Z : OD → Prop) : Out → Prop
  | .nx ρ => K ρ
  | .ct ρ => K ρ
  | .rt od _ => Z od
  | _ => False
@[simp] theorem lk_nx (K : En → Prop) (Z : OD → Prop) (ρ : En) : (Out.nx ρ).lk K Z = K ρ := by unfold Out.lk; rfl
@[simp] theorem lk_ct (K : En → Prop) (Z : OD → Prop) (ρ : En) : (Out.ct ρ).lk K Z = K ρ := by unfold Out.lk; rfl
@[simp] theorem lk_rt (K : En → Prop) (Z : OD → Prop) (od : OD) (ρ : En) : (Out.rt od ρ).lk K Z = Z od := by unfold Out.lk; rfl
@[irreducible] def bk (o : Option En) (K : En → Prop) : Prop := match o with
  | some ρ => K ρ
  | none => False
@[simp] theorem bk_some (ρ : En) (K : En → Prop) : bk (some ρ) K = K ρ := by unfold bk; rfl
/-- a loop that may leave by a return: Z tells of the way out -/
theorem loop_rt {fg : List Nat} {bnd : D → En → Option En} {body : En → Out} : ∀ (ds : List D) (I : Nat → En → Prop) (Z : Nat → OD → Prop) (ρ : En), I 0 ρ →
    (∀ k d ρ, ds[k]? = some d → I k ρ → bk (bnd d ρ) fun ρ1 => (body ρ1).lk (fun ρ2 => I (k + 1) (fgt fg ρ2)) (Z k)) →
    (∃ ρ', loopS fg bnd body ds ρ = .nx ρ' ∧ I ds.length ρ') ∨ ∃ k od ρ2, k < ds.length ∧ loopS fg bnd body ds ρ = .rt od ρ2 ∧ Z k od
  | [], I, Z, ρ, h0, hs => .inl ⟨ρ, rfl, h0⟩
  | d :: ds, I, Z, ρ, h0, hs => by
    have h1 := hs 0 d ρ rfl h0
    cases e1 : bnd d ρ with
    | some ρ1 =>
      rw [e1, bk_some] at h1
      have next : ∀ ρ2, I (0 + 1) (fgt fg ρ2) → (body ρ1 = .nx ρ2 ∨ body ρ1 = .ct ρ2) → (∃ ρ', loopS fg bnd body (d :: ds) ρ = .nx ρ' ∧ I (d :: ds).length ρ') ∨ ∃ k od ρ2, k < (d :: ds).length ∧ loopS fg bnd body (d :: ds) ρ = .rt od ρ2 ∧ Z k od := fun ρ2 h1 e2 => by
        rcases loop_rt (fg := fg) (bnd := bnd) (body := body) ds (fun k => I (k + 1)) (fun k => Z (k + 1)) _ h1 fun k d ρ e h => hs (k + 1) d ρ (by rw [List.getElem?_cons_succ]; exact e) h with ⟨ρ', e3, h3⟩ | ⟨k, od, ρ3, hk, e3, h3⟩
        · refine .inl ⟨ρ', ?_, h3⟩
          rw [loopS, e1]
          rcases e2 with e2 | e2 <;> (simp only [e2]; exact e3)
        · refine .inr ⟨k + 1, od, ρ3, Nat.succ_lt_succ hk, ?_, h3⟩
          rw [loopS, e1]
          rcases e2 with e2 | e2 <;> (simp only [e2]; exact e3)
      cases e2 : body ρ1 with
      | nx ρ2 => rw [e2, lk_nx] at h1; exact next ρ2 h1 (.inl e2)
      | ct ρ2 => rw [e2, lk_ct] at h1; exact next ρ2 h1 (.inr e2)
      | rt od ρ2 =>
        rw [e2, lk_rt] at h1
        refine .inr ⟨0, od, ρ2, Nat.succ_pos _, ?_, h1⟩
        rw [loopS, e1]
        simp only [e2]
      | ex c fs ρ2 => rw [e2] at h1; unfold Out.lk at h1; exact h1.elim
      | bk ρ2 => rw [e2] at h1; unfold Out.lk at h1; exact h1.elim
      | st => rw [e2] at h1; unfold Out.lk at h1; exact h1.elim
    | none => rw [e1] at h1; unfold bk at h1; exact h1.elim
/-- a loop that runs to its end, by what stands ahead of each turn -/
theorem loop_inv {fg : List Nat} {bnd : D → En → Option En} {body : En → Out} (ds : List D) (I : Nat → En → Prop) (ρ : En) (h0 : I 0 ρ)
    (hs : ∀ k d ρ, ds[k]? = some d → I k ρ → bk (bnd d ρ) fun ρ1 => (body ρ1).lk (fun ρ2 => I (k + 1) (fgt fg ρ2)) fun _ => False) : ∃ ρ', loopS fg bnd body ds ρ = .nx ρ' ∧ I ds.length ρ' := by
  rcases loop_rt (fg := fg) (bnd := bnd) (body := body) ds I (fun _ _ => False) ρ h0 hs with h | ⟨k, od, ρ2, _, _, h⟩
  · exact h
  · exact h.elim
theorem ifS_t {t : En → R Bool} {a b : En → Out} {ρ : En} (h : t ρ = .ok true) : ifS t a b ρ = a ρ := by unfold ifS; rw [h]; rfl
theorem ifS_f {t : En → R Bool} {a b : En → Out} {ρ : En} (h : t ρ = .ok false) : ifS t a b ρ = b ρ := by unfold ifS; rw [h]; rfl
theorem seqS_nx {s t : En → Out} {ρ ρ' : En} (h : s ρ = .nx ρ') : seqS s t ρ = t ρ' := by unfold seqS; rw [h]; rfl
theorem abs_eq (c : Int) : (if c < 0 then -c else c) = (c.natAbs : Int) := by split <;> omega
theorem divW_ok {j : Int} (h : 0 < j) (h2 : j < 2147483648) : divW j = true := by
  unfold divW
  rw [Bool.and_eq_true]
  refine ⟨decide_eq_true h, decide_eq_true ?_⟩
  have h0 : j.natAbs ≠ 0 := by omega
  have : j.natAbs.log2 < 31 := (Nat.log2_lt h0).mpr (by omega)
  omega
theorem mulOk_r {i j : Int} (h : j.natAbs < 18446744073709551616) : mulOk i j = true := by
  unfold mulOk
  rw [decide_eq_true h]
  simp
theorem mulOk_l {i j : Int} (h : i.natAbs < 18446744073709551616) : mulOk i j = true := by
  unfold mulOk
  rw [decide_eq_true h]
  simp
@[simp] theorem rngL_len (lo : Int) (n : Nat) : (rngL lo n).length = n := by simp [rngL]
@[simp] theorem rngC_len (lo c : Int) (n : Nat) : (rngC lo c n).length = n := by simp [rngC]
theorem rngL_get {lo : Int} {n k : Nat} {d : D} (h : (rngL lo n)[k]? = some d) : k < n ∧ d = .int (lo + k) := by
  have hk : k < n := by have := (List.getElem?_eq_some_iff.mp h).1; simpa using this
  unfold rngL at h
  rw [List.getElem?_map, List.getElem?_range hk] at h
  exact ⟨hk, by cases h; rfl⟩
theorem rngC_get {lo c : Int} {n k : Nat} {d : D} (h : (rngC lo c n)[k]? = some d) : k < n ∧ d = .int (lo + k * c) := by
  have hk : k < n := by have := (List.getElem?_eq_some_iff.mp h).1; simpa using this
  unfold rngC at h
  rw [List.getElem?_map, List.getElem?_range hk] at h
  exact ⟨hk, by cases h; rfl⟩
theorem rngL_flat (lo : Int) (n : Nat) : (rngL lo n).all D.flat = true := by simp [rngL, D.flat]
theorem rngC_flat (lo c : Int) (n : Nat) : (rngC lo c n).all D.flat = true := by simp [rngC, D.flat]
theorem atI_nat {α : Type} (xs : List α) (i : Nat) (h : i < xs.length) : L2.atI xs (i : Int) = some (xs[i]'h) := by
  unfold L2.atI L2.ixN
  rw [if_pos (by omega), if_pos (by omega)]
  simp
theorem atI_zero {α : Type} (x : α) (xs : List α) : L2.atI (x :: xs) 0 = some x := atI_nat (x :: xs) 0 (by simp)
end DL
set_option Elab.async false
set_option linter.all false
set_option maxRecDepth 100000
namespace DLC
open PySem L2 DL
def l1__law_draw : En → Out := (ifS (andT (tst (var 4)) (tst (op2 dGe (var 3) (op2 dIx (var 1) (var 5))))) (seqS (appS 2 [] (op2 dMod (opA dInt (aCons (var 3) aNil)) (op2 dIx (var 1) (var 5))))
    (setS 3 [] (op2 dDiv (var 3) (op2 dIx (var 1) (var 5))))) (seqS (setS 6 [] (op2 dMod (opA dInt (aCons (op2 dAdd (op2 dMul (opA dAbs (aCons (var 0) aNil)) (con (.int 48271))) (op2 dMul (op2 dAdd (var 5) (con (.int 1))) (con (.int 69621)))) aNil)) (con (.int 2147483647))))
    (seqS (setS 6 [] (op2 dMod (opA dInt (aCons (op2 dAdd (op2 dMul (var 6) (con (.int 16807))) (op2 dMul (op2 dAdd (var 5) (con (.int 1))) (con (.int 40692)))) aNil)) (con (.int 2147483399))))
    (appS 2 [] (op2 dMod (opA dInt (aCons (var 6) aNil)) (op2 dIx (var 1) (var 5)))))))
def b__law_draw : En → Out := (seqS (setF 2 [] (lstE aNil))
    (seqS (setS 3 [] (opA dAbs (aCons (var 0) aNil)))
    (seqS (setS 4 [] (op2 dGe (var 3) (con (.int 1000000000000000000))))
    (seqS (forS [] [5, 6] (bName 5) (rgE rgF1 (aCons (opA dLen (aCons (var 1) aNil)) aNil)) l1__law_draw)
    (retV 2)))))
def m__law_draw : List D → R OD := mOf 2 7 b__law_draw
def b__law_cell : En → Out := (seqS (ifS (tst (op2 dLt (var 1) (opA dLen (aCons (var 0) aNil)))) (retS ([0] ++ [1]) (op2 dIx (var 0) (var 1))) nxS)
    (retS [] (con (.int 0))))
def m__law_cell : List D → R OD := mOf 2 2 b__law_cell
theorem law_cell (ns : List Int) (k : Nat) : m__law_cell [.scr ns, .int k] = .ok (.sh (.int (ns.getD k 0))) := by
  unfold m__law_cell b__law_cell
  by_cases h : k < ns.length
  · simp [mOf, seqS, exprS, setS, setF, retS, retF, retV, retN, nxS, ifS, op1, op2, op2F, aNil, aCons, opA, opAF, erE, callE, tst, andT, orT, notT, andV, orV, notV, asB, var, con, sliceE, sliceF, pI, pN, asI, ifE, lstE, tupE, strOp, asS, frzIf, frzO, frz, frz1, D.flat, OD.fl_sh, List.replicate, fgt, fgt1, bName, dInt, dAbs, okSz, okLen, h, atI_nat ns k h]
  · have : ns[k]? = none := by simp; omega
    simp [mOf, seqS, exprS, setS, setF, retS, retF, retV, retN, nxS, ifS, op1, op2, op2F, aNil, aCons, opA, opAF, erE, callE, tst, andT, orT, notT, andV, orV, notV, asB, var, con, sliceE, sliceF, pI, pN, asI, ifE, lstE, tupE, strOp, asS, frzIf, frzO, frz, frz1, D.flat, OD.fl_sh, List.replicate, fgt, fgt1, bName, dInt, dAbs, okSz, okLen, h, this]
def drawnI (ls : List Int) (row : List Int) : Prop := ∀ i (h : i < row.length), ∃ (h2 : i < ls.length), 0 ≤ row[i] ∧ row[i] < ls[i]
theorem drawn_app {ls row : List Int} (h : drawnI ls row) {x : Int} (h1 : row.length < ls.length) (h2 : 0 ≤ x) (h3 : x < ls[row.length]) : drawnI ls (row ++ [x]) := by
  intro i hi
  by_cases e : i < row.length
  · obtain ⟨a, b⟩ := h i e
    refine ⟨a, ?_⟩
    rw [List.getElem_append_left e]; exact b
  · have : i = row.length := by simp at hi; omega
    subst this
    refine ⟨h1, ?_⟩
    simp
    exact ⟨h2, h3⟩
def eD (c : Int) (ls row : List Int) (rest : Int) (g : Bool) (k m : Option OD) : En := [some (.sh (.int c)), some (.sh (.lst (ls.map .int))), some (.lst (row.map fun i => .sh (.int i))), some (.sh (.int rest)), some (.sh (.bl g)), k, m]
theorem dr_b {c : Int} {ls row : List Int} {rest : Int} {g : Bool} {m : Option OD} (k : Int) : bName 5 (.int k) (eD c ls row rest g none m) = some (eD c ls row rest g (some (.sh (.int k))) m) := rfl
section
variable {c : Int} {ls row : List Int} {rest l : Int} {g : Bool} {m : Option OD} {k : Nat}
theorem dr_t (hx : L2.atI (ls.map D.int) (k : Int) = some (.int l)) : (andT (tst (var 4)) (tst (op2 dGe (var 3) (op2 dIx (var 1) (var 5))))) (eD c ls row rest g (some (.sh (.int k))) m) = .ok (g && decide (l ≤ rest)) := by
  unfold eD
  cases g <;> simp [mOf, seqS, exprS, setS, setF, retS, retF, retV, retN, nxS, ifS, op1, op2, op2F, aNil, aCons, opA, opAF, erE, callE, tst, andT, orT, notT, andV, orV, notV, asB, var, con, sliceE, sliceF, pI, pN, asI, ifE, lstE, tupE, strOp, asS, frzIf, frzO, frz, frz1, D.flat, OD.fl_sh, List.replicate, fgt, fgt1, bName, dInt, dAbs, okSz, okLen, hx]
theorem dr_1 (hx : L2.atI (ls.map D.int) (k : Int) = some (.int l)) (p1 : 0 < l) (hok : row.length < 16777216) : appS 2 [] (op2 dMod (opA dInt (aCons (var 3) aNil)) (op2 dIx (var 1) (var 5))) (eD c ls row rest g (some (.sh (.int k))) m) = .nx (eD c ls (row ++ [rest % l]) rest g (some (.sh (.int k))) m) := by
  unfold eD
  simp [mOf, seqS, exprS, setS, setF, retS, retF, retV, retN, nxS, ifS, op1, op2, op2F, aNil, aCons, opA, opAF, erE, callE, tst, andT, orT, notT, andV, orV, notV, asB, var, con, sliceE, sliceF, pI, pN, asI, ifE, lstE, tupE, strOp, asS, frzIf, frzO, frz, frz1, D.flat, OD.fl_sh, List.replicate, fgt, fgt1, bName, dInt, dAbs, okSz, okLen, hx, appS, ownL, keeps, hok, dMod, p1]
theorem dr_2 (hx : L2.atI (ls.map D.int) (k : Int) = some (.int l)) (hd : divW l = true) : setS 3 [] (op2 dDiv (var 3) (op2 dIx (var 1) (var 5))) (eD c ls row rest g (some (.sh (.int k))) m) = .nx (eD c ls row (rest / l) g (some (.sh (.int k))) m) := by
  unfold eD
  simp [mOf, seqS, exprS, setS, setF, retS, retF, retV, retN, nxS, ifS, op1, op2, op2F, aNil, aCons, opA, opAF, erE, callE, tst, andT, orT, notT, andV, orV, notV, asB, var, con, sliceE, sliceF, pI, pN, asI, ifE, lstE, tupE, strOp, asS, frzIf, frzO, frz, frz1, D.flat, OD.fl_sh, List.replicate, fgt, fgt1, bName, dInt, dAbs, okSz, okLen, hx, dDiv, hd]
theorem dr_3 : ∃ x : Int, setS 6 [] (op2 dMod (opA dInt (aCons (op2 dAdd (op2 dMul (opA dAbs (aCons (var 0) aNil)) (con (.int 48271))) (op2 dMul (op2 dAdd (var 5) (con (.int 1))) (con (.int 69621)))) aNil)) (con (.int 2147483647))) (eD c ls row rest g (some (.sh (.int k))) m) = .nx (eD c ls row rest g (some (.sh (.int k))) (some (.sh (.int x)))) := by
  have m1 : mulOk (c.natAbs : Int) 48271 = true := mulOk_r (by decide)
  have m2 : mulOk ((k : Int) + 1) 69621 = true := mulOk_r (by decide)
  unfold eD
  exact ⟨_, by simp [mOf, seqS, exprS, setS, setF, retS, retF, retV, retN, nxS, ifS, op1, op2, op2F, aNil, aCons, opA, opAF, erE, callE, tst, andT, orT, notT, andV, orV, notV, asB, var, con, sliceE, sliceF, pI, pN, asI, ifE, lstE, tupE, strOp, asS, frzIf, frzO, frz, frz1, D.flat, OD.fl_sh, List.replicate, fgt, fgt1, bName, dInt, dAbs, okSz, okLen, dMod, abs_eq, m1, m2]; rfl⟩
theorem dr_4 {x : Int} : ∃ y : Int, setS 6 [] (op2 dMod (opA dInt (aCons (op2 dAdd (op2 dMul (var 6) (con (.int 16807))) (op2 dMul (op2 dAdd (var 5) (con (.int 1))) (con (.int 40692)))) aNil)) (con (.int 2147483399))) (eD c ls row rest g (some (.sh (.int k))) (some (.sh (.int x)))) = .nx (eD c ls row rest g (some (.sh (.int k))) (some (.sh (.int y)))) := by
  have m3 : mulOk ((k : Int) + 1) 40692 = true := mulOk_r (by decide)
  have m4 : mulOk x 16807 = true := mulOk_r (by decide)
  unfold eD
  exact ⟨_, by simp [mOf, seqS, exprS, setS, setF, retS, retF, retV, retN, nxS, ifS, op1, op2, op2F, aNil, aCons, opA, opAF, erE, callE, tst, andT, orT, notT, andV, orV, notV, asB, var, con, sliceE, sliceF, pI, pN, asI, ifE, lstE, tupE, strOp, asS, frzIf, frzO, frz, frz1, D.flat, OD.fl_sh, List.replicate, fgt, fgt1, bName, dInt, dAbs, okSz, okLen, dMod, m3, m4]; rfl⟩
theorem dr_5 {x : Int} (hx : L2.atI (ls.map D.int) (k : Int) = some (.int l)) (p1 : 0 < l) (hok : row.length < 16777216) : appS 2 [] (op2 dMod (opA dInt (aCons (var 6) aNil)) (op2 dIx (var 1) (var 5))) (eD c ls row rest g (some (.sh (.int k))) (some (.sh (.int x)))) = .nx (eD c ls (row ++ [x % l]) rest g (some (.sh (.int k))) (some (.sh (.int x)))) := by
  unfold eD
  simp [mOf, seqS, exprS, setS, setF, retS, retF, retV, retN, nxS, ifS, op1, op2, op2F, aNil, aCons, opA, opAF, erE, callE, tst, andT, orT, notT, andV, orV, notV, asB, var, con, sliceE, sliceF, pI, pN, asI, ifE, lstE, tupE, strOp, asS, frzIf, frzO, frz, frz1, D.flat, OD.fl_sh, List.replicate, fgt, fgt1, bName, dInt, dAbs, okSz, okLen, hx, appS, ownL, keeps, hok, dMod, p1]
theorem dr_g (M : Int) : setS 4 [] (op2 dGe (var 3) (con (.int M))) [some (.sh (.int c)), some (.sh (.lst (ls.map .int))), some (.lst []), some (.sh (.int c.natAbs)), none, none, none] = .nx (eD c ls [] c.natAbs (decide (M ≤ (c.natAbs : Int))) none none) := rfl
theorem dr_f {k m : Option OD} : fgt [5, 6] (eD c ls row rest g k m) = eD c ls row rest g none none := rfl
end
theorem dr_loop (c : Int) (ls : List Int) (g : Bool) (r0 : Int) (hl : ∀ l ∈ ls, 0 < l ∧ l < 2147483648) (hn : ls.length < 1000) : ∃ (row : List Int) (rest : Int), loopS [5, 6] (bName 5) l1__law_draw (rngL 0 ls.length) (eD c ls [] r0 g none none) = .nx (eD c ls row rest g none none) ∧ row.length = ls.length ∧ drawnI ls row := by
  obtain ⟨ρ', e, h⟩ := loop_inv (fg := [5, 6]) (bnd := bName 5) (body := l1__law_draw) (rngL 0 ls.length)
    (fun k ρ => ∃ (row : List Int) (rest : Int), ρ = eD c ls row rest g none none ∧ row.length = k ∧ drawnI ls row)
    (eD c ls [] r0 g none none) ⟨[], r0, rfl, rfl, fun i h => absurd h (by simp)⟩ (by
      rintro k d ρ hd ⟨row, rest, rfl, hk, hr⟩
      obtain ⟨hkn, rfl⟩ := rngL_get hd
      have hx : L2.atI (ls.map D.int) (k : Int) = some (.int ls[k]) := by
        rw [atI_nat _ k (by simpa using hkn)]; simp
      obtain ⟨p1, p2⟩ := hl _ (List.getElem_mem hkn)
      have hne : ls[k] ≠ 0 := by omega
      have hd : divW ls[k] = true := divW_ok p1 p2
      have hok : row.length < 16777216 := by omega
      have ha : ∀ x : Int, drawnI ls (row ++ [x % ls[k]]) := fun x => drawn_app hr (by omega) (Int.emod_nonneg x hne) (by subst hk; exact Int.emod_lt_of_pos x p1)
      rw [Int.zero_add, dr_b, bk_some]
      unfold l1__law_draw
      cases g2 : (g && decide (ls[k] ≤ rest)) with
      | true =>
        rw [ifS_t ((dr_t hx).trans (by rw [g2])), seqS_nx (dr_1 hx p1 hok), dr_2 hx hd, lk_nx, dr_f]
        exact ⟨_, _, rfl, by simp [hk], ha rest⟩
      | false =>
        obtain ⟨x, e3⟩ := dr_3 (c := c) (ls := ls) (row := row) (rest := rest) (g := g) (m := none) (k := k)
        obtain ⟨y, e4⟩ := dr_4 (c := c) (ls := ls) (row := row) (rest := rest) (g := g) (x := x) (k := k)
        rw [ifS_f ((dr_t hx).trans (by rw [g2])), seqS_nx e3, seqS_nx e4, dr_5 hx p1 hok, lk_nx, dr_f]
        exact ⟨_, _, rfl, by simp [hk], ha y⟩)
  obtain ⟨row, rest, rfl, hk, hr⟩ := h
  rw [rngL_len] at hk
  exact ⟨row, rest, e, hk, hr⟩
theorem dr_h {c : Int} {ls : List Int} {g : Bool} {r0 : Int} {row : List Int} {rest : Int} (h0 : ls.length < 1000) (e : loopS [5, 6] (bName 5) l1__law_draw (rngL 0 ls.length) (eD c ls [] r0 g none none) = .nx (eD c ls row rest g none none)) :
    seqS (forS [] [5, 6] (bName 5) (rgE rgF1 (aCons (opA dLen (aCons (var 1) aNil)) aNil)) l1__law_draw) (retV 2) (eD c ls [] r0 g none none) = .rt (.lst (row.map fun i => .sh (.int i))) (eD c ls row rest g none none |>.set 2 none) := by
  rw [seqS_nx (ρ' := eD c ls row rest g none none)]
  · rfl
  · have h1 : rngOk (ls.length : Int) = true := by unfold rngOk; rw [Bool.and_eq_true]; exact ⟨decide_eq_true (by omega), decide_eq_true (by omega)⟩
    have : (rgE rgF1 (aCons (opA dLen (aCons (var 1) aNil)) aNil)) (eD c ls [] r0 g none none) = .ok (rngL 0 ls.length) := by
      unfold rgE
      rw [show (aCons (opA dLen (aCons (var 1) aNil)) aNil) (eD c ls [] r0 g none none) = .ok [.int ls.length] from by unfold eD; simp [mOf, seqS, exprS, setS, setF, retS, retF, retV, retN, nxS, ifS, op1, op2, op2F, aNil, aCons, opA, opAF, erE, callE, tst, andT, orT, notT, andV, orV, notV, asB, var, con, sliceE, sliceF, pI, pN, asI, ifE, lstE, tupE, strOp, asS, frzIf, frzO, frz, frz1, D.flat, OD.fl_sh, List.replicate, fgt, fgt1, bName, dInt, dAbs, okSz, okLen, dLen], R.bind_ok, rgF1, if_pos h1, Int.toNat_natCast]
    unfold forS
    rw [this, R.out_ok, rngL_flat, if_pos rfl, e]
theorem dr_i (c : Int) (ls : List Int) : setF 2 [] (lstE aNil) (([.int c, .lst (ls.map .int)] : List D).map (fun d => some (OD.sh d)) ++ List.replicate (7 - 2) none) = .nx [some (.sh (.int c)), some (.sh (.lst (ls.map .int))), some (.lst []), none, none, none, none] := by
  simp [mOf, seqS, exprS, setS, setF, retS, retF, retV, retN, nxS, ifS, op1, op2, op2F, aNil, aCons, opA, opAF, erE, callE, tst, andT, orT, notT, andV, orV, notV, asB, var, con, sliceE, sliceF, pI, pN, asI, ifE, lstE, tupE, strOp, asS, frzIf, frzO, frz, frz1, D.flat, OD.fl_sh, List.replicate, fgt, fgt1, bName, dInt, dAbs, okSz, okLen, lstF_eq]
theorem dr_j (c : Int) (ls : List Int) : setS 3 [] (opA dAbs (aCons (var 0) aNil)) [some (.sh (.int c)), some (.sh (.lst (ls.map .int))), some (.lst []), none, none, none, none] = .nx [some (.sh (.int c)), some (.sh (.lst (ls.map .int))), some (.lst []), some (.sh (.int c.natAbs)), none, none, none] := by simp [mOf, seqS, exprS, setS, setF, retS, retF, retV, retN, nxS, ifS, op1, op2, op2F, aNil, aCons, opA, opAF, erE, callE, tst, andT, orT, notT, andV, orV, notV, asB, var, con, sliceE, sliceF, pI, pN, asI, ifE, lstE, tupE, strOp, asS, frzIf, frzO, frz, frz1, D.flat, OD.fl_sh, List.replicate, fgt, fgt1, bName, dInt, dAbs, okSz, okLen, abs_eq]
theorem law_draw (c : Int) (ls : List Int) (hl : ∀ l ∈ ls, 0 < l ∧ l < 2147483648) (hn : ls.length < 1000) : ∃ row : List Int, m__law_draw [.int c, .lst (ls.map .int)] = .ok (.lst (row.map fun i => .sh (.int i))) ∧ row.length = ls.length ∧ drawnI ls row := by
  obtain ⟨M, hM⟩ : ∃ M : Int, M = 1000000000000000000 := ⟨_, rfl⟩
  obtain ⟨row, rest, e, hk, hr⟩ := dr_loop c ls (decide (M ≤ (c.natAbs : Int))) c.natAbs hl hn
  refine ⟨row, ?_, hk, hr⟩
  unfold m__law_draw b__law_draw mOf
  rw [← hM, if_pos (by rfl), seqS_nx (dr_i c ls), seqS_nx (dr_j c ls), seqS_nx (dr_g M), dr_h hn e]

/-! ## loops and comprehensions, once more -/
theorem rngOk_nat {n : Nat} (h : n < 1099511627776) : rngOk (n : Int) = true := by
  unfold rngOk
  rw [Bool.and_eq_true]
  exact ⟨decide_eq_true (by omega), decide_eq_true (by omega)⟩
theorem for_rng1 {fg : List Nat} {bnd : D → En → Option En} {fa : En → R (List D)} {body : En → Out} {ρ : En} {o : Out} {n : Nat} (hn : n < 1099511627776) (h : fa ρ = .ok [.int n]) (e : loopS fg bnd body (rngL 0 n) ρ = o) : forS [] fg bnd (rgE rgF1 fa) body ρ = o := by
  unfold forS rgE
  rw [h, R.bind_ok, rgF1, if_pos (rngOk_nat hn), Int.toNat_natCast, R.out_ok, rngL_flat, if_pos rfl, e]
theorem for_rng2 {fg : List Nat} {bnd : D → En → Option En} {fa : En → R (List D)} {body : En → Out} {ρ : En} {o : Out} {i n : Nat} (hi : i < 1099511627776) (hn : n < 1099511627776) (h : fa ρ = .ok [.int i, .int n]) (e : loopS fg bnd body (rngL i (n - i)) ρ = o) : forS [] fg bnd (rgE rgF2 fa) body ρ = o := by
  unfold forS rgE
  have : ((n : Int) - (i : Int)).toNat = n - i := by omega
  rw [h, R.bind_ok, rgF2, rngOk_nat hi, rngOk_nat hn, Bool.and_self, if_pos rfl, this, R.out_ok, rngL_flat, if_pos rfl, e]
theorem bk_imp {o : Option En} {K K' : En → Prop} (h : bk o K) (i : ∀ ρ, K ρ → K' ρ) : bk o K' := by
  cases o with
  | none => unfold bk at h; exact h.elim
  | some ρ => rw [bk_some] at h ⊢; exact i ρ h
theorem lcL_eq {α : Type} (c : α → D) (p : α → Bool) (g : α → D) {bnd : D → En → Option En} {t : En → R Bool} {f : En → R D} {ρ : En} : ∀ xs : List α, (∀ x ∈ xs, bk (bnd (c x) ρ) fun ρ1 => t ρ1 = .ok (p x) ∧ (p x = true → f ρ1 = .ok (g x))) → lcL bnd t f ρ (xs.map c) = .ok ((xs.filter p).map g)
  | [], h => rfl
  | x :: xs, h => by
    have ih := lcL_eq c p g xs fun y hy => h y (List.mem_cons_of_mem _ hy)
    have h0 := h x List.mem_cons_self
    rw [List.map_cons, lcL]
    cases e1 : bnd (c x) ρ with
    | none => rw [e1] at h0; unfold bk at h0; exact h0.elim
    | some ρ1 =>
      rw [e1, bk_some] at h0
      simp only
      rw [h0.1, R.nox_ok, R.bind_ok]
      cases q : p x with
      | true => rw [if_pos rfl, h0.2 q, R.nox_ok, R.bind_ok, ih, R.bind_ok, List.filter_cons_of_pos q]; rfl
      | false => rw [if_neg (by simp), ih, List.filter_cons_of_neg (by simp [q])]
theorem lcE_eq {α : Type} (xs : List α) (c : α → D) (p : α → Bool) (g : α → D) {Ee vs : List Nat} {bnd : D → En → Option En} {it : En → R (List D)} {t : En → R Bool} {f : En → R D} {ρ : En} (h : it ρ = .ok (xs.map c)) (hf : ((xs.map c).all D.flat || allSh Ee ρ) = true) (hl : xs.length < 16777216)
    (hx : ∀ x ∈ xs, bk (bnd (c x) (fgt vs ρ)) fun ρ1 => t ρ1 = .ok (p x) ∧ (p x = true → f ρ1 = .ok (g x))) : lcE Ee vs bnd it t f ρ = .ok (lstF ((xs.filter p).map g)) := by
  unfold lcE
  have ho : okLen (xs.map c).length = true := by unfold okLen; rw [List.length_map]; exact decide_eq_true hl
  rw [h, R.bind_ok, hf, ho, Bool.and_self, if_pos rfl, lcL_eq c p g xs hx, R.bind_ok, lstF_eq]
theorem lcE_map {α : Type} (xs : List α) (c : α → D) (g : α → D) {Ee vs : List Nat} {bnd : D → En → Option En} {it : En → R (List D)} {f : En → R D} {ρ : En} (h : it ρ = .ok (xs.map c)) (hf : ((xs.map c).all D.flat || allSh Ee ρ) = true) (hl : xs.length < 16777216)
    (hx : ∀ x ∈ xs, bk (bnd (c x) (fgt vs ρ)) fun ρ1 => f ρ1 = .ok (g x)) : lcE Ee vs bnd it tYesD f ρ = .ok (lstF (xs.map g)) := by
  have := lcE_eq xs c (fun _ => true) g (t := tYesD) (f := f) h hf hl fun x hx' => bk_imp (hx x hx') fun ρ1 h0 => ⟨rfl, fun _ => h0⟩
  rw [this, List.filter_eq_self.mpr fun _ _ => rfl]
theorem lcE_rng {Ee vs : List Nat} {bnd : D → En → Option En} {fa : En → R (List D)} {f : En → R D} {ρ : En} {n : Nat} (g : Nat → D) (h : fa ρ = .ok [.int n]) (hl : n < 16777216)
    (hx : ∀ x, x < n → bk (bnd (.int x) (fgt vs ρ)) fun ρ1 => f ρ1 = .ok (g x)) : lcE Ee vs bnd (rgE rgF1 fa) tYesD f ρ = .ok (lstF ((List.range n).map g)) := by
  refine lcE_map (List.range n) (fun k : Nat => .int (0 + k)) g ?_ ?_ (by simpa using hl) fun x hx' => ?_
  · unfold rgE
    rw [h, R.bind_ok, rgF1, if_pos (rngOk_nat (by omega)), Int.toNat_natCast]; rfl
  · rw [show (List.range n).map (fun k : Nat => D.int (0 + k)) = rngL 0 n from rfl, rngL_flat]; rfl
  · rw [Int.zero_add]; exact hx x (List.mem_range.mp hx')
/-! ## texts of # and . -/
def dS (C : List (List Nat)) : D := .lst (C.map .str)
theorem frzIf_flat {d : D} {E : List Nat} {ρ : En} (h : d.flat = true) : frzIf d E ρ = ρ := by unfold frzIf; rw [h]; rfl
theorem args1 {f : En → R D} {ρ : En} {a : D} (h : f ρ = .ok a) : aCons f aNil ρ = .ok [a] := by unfold aCons; rw [h]; rfl
theorem args2 {f g : En → R D} {ρ : En} {a b : D} (h : f ρ = .ok a) (h2 : g ρ = .ok b) : aCons f (aCons g aNil) ρ = .ok [a, b] := by
  have := args1 h2
  unfold aCons at this ⊢
  rw [h, R.bind_ok, this, R.bind_ok]
theorem args3 {f g k : En → R D} {ρ : En} {a b c : D} (h : f ρ = .ok a) (h2 : g ρ = .ok b) (h3 : k ρ = .ok c) : aCons f (aCons g (aCons k aNil)) ρ = .ok [a, b, c] := by
  have := args2 h2 h3
  unfold aCons at this ⊢
  rw [h, R.bind_ok, this, R.bind_ok]
theorem call1 {m : List D → R OD} {f : En → R D} {ρ : En} {a : D} (h : f ρ = .ok a) : callE m (aCons f aNil) ρ = m [a] := by unfold callE; rw [args1 h, R.bind_ok]
theorem call2 {m : List D → R OD} {f g : En → R D} {ρ : En} {a b : D} (h : f ρ = .ok a) (h2 : g ρ = .ok b) : callE m (aCons f (aCons g aNil)) ρ = m [a, b] := by unfold callE; rw [args2 h h2, R.bind_ok]
theorem call3 {m : List D → R OD} {f g k : En → R D} {ρ : En} {a b c : D} (h : f ρ = .ok a) (h2 : g ρ = .ok b) (h3 : k ρ = .ok c) : callE m (aCons f (aCons g (aCons k aNil))) ρ = m [a, b, c] := by unfold callE; rw [args3 h h2 h3, R.bind_ok]
theorem op2_ok {g : D → D → Option D} {f1 f2 : En → R D} {ρ : En} {a b d : D} (h1 : f1 ρ = .ok a) (h2 : f2 ρ = .ok b) (h : g a b = some d) : op2 g f1 f2 ρ = .ok d := by unfold op2; rw [h1, R.bind_ok, h2, R.bind_ok, h]; rfl
theorem op1_ok {g : D → Option D} {f1 : En → R D} {ρ : En} {a d : D} (h1 : f1 ρ = .ok a) (h : g a = some d) : op1 g f1 ρ = .ok d := by unfold op1; rw [h1, R.bind_ok, h]; rfl
theorem opA_ok {g : List D → Option D} {f : En → R D} {ρ : En} {a d : D} (h1 : f ρ = .ok a) (h : g [a] = some d) : opA g (aCons f aNil) ρ = .ok d := by unfold opA; rw [args1 h1, R.bind_ok, h]; rfl
theorem opAF_ok {g : List D → Option OD} {f : En → R D} {ρ : En} {a : D} {d : OD} (h1 : f ρ = .ok a) (h : g [a] = some d) : opAF g (aCons f aNil) ρ = .ok d := by unfold opAF; rw [args1 h1, R.bind_ok, h]; rfl
theorem tst_ok {f : En → R D} {ρ : En} {b : Bool} (h : f ρ = .ok (.bl b)) : tst f ρ = .ok b := by unfold tst; rw [h]; rfl
theorem orT_f {f g : En → R Bool} {ρ : En} {b : Bool} (h : f ρ = .ok false) (h2 : g ρ = .ok b) : orT f g ρ = .ok b := by unfold orT; rw [h, R.bind_ok]; exact h2
theorem orT_t {f g : En → R Bool} {ρ : En} (h : f ρ = .ok true) : orT f g ρ = .ok true := by unfold orT; rw [h, R.bind_ok]; rfl
theorem andT_t {f g : En → R Bool} {ρ : En} {b : Bool} (h : f ρ = .ok true) (h2 : g ρ = .ok b) : andT f g ρ = .ok b := by unfold andT; rw [h, R.bind_ok]; exact h2
theorem andT_f {f g : En → R Bool} {ρ : En} (h : f ρ = .ok false) : andT f g ρ = .ok false := by unfold andT; rw [h, R.bind_ok]; rfl
theorem dEq_int (i j : Int) : dEq (.int i) (.int j) = some (.bl (decide (i = j))) := by unfold dEq; simp; rfl
theorem dNe_int (i j : Int) : dNe (.int i) (.int j) = some (.bl (!decide (i = j))) := by unfold dNe; simp; rfl
theorem dLen_lst' (xs : List D) (n : Nat) (h : xs.length = n) : dLen [.lst xs] = some (.int n) := by subst h; rfl
theorem dLen_str' (xs : List Nat) (n : Nat) (h : xs.length = n) (hn : n ≤ 16777216) : dLen [.str xs] = some (.int n) := by subst h; rw [dLen_str, if_pos (by unfold okSz; exact decide_eq_true hn)]
theorem retS_ok {f : En → R D} {E : List Nat} {ρ : En} {d : D} (h : f ρ = .ok d) (hd : d.flat = true) : retS E f ρ = .rt (.sh d) ρ := by unfold retS; rw [h, R.out_ok, frzIf_flat hd]
theorem setS_ok {i : Nat} {f : En → R D} {E : List Nat} {ρ : En} {d : D} (h : f ρ = .ok d) (hd : d.flat = true) : setS i E f ρ = .nx (ρ.set i (some (.sh d))) := by unfold setS; rw [h, R.out_ok, frzIf_flat hd]
theorem setF_ok {i : Nat} {f : En → R OD} {E : List Nat} {ρ : En} {d : OD} (h : f ρ = .ok d) (hd : d.fl = true) : setF i E f ρ = .nx (ρ.set i (some d)) := by unfold setF frzO; rw [h, R.out_ok, if_pos hd]
theorem retF_ok {f : En → R OD} {E : List Nat} {ρ : En} {d : OD} (h : f ρ = .ok d) (hd : d.fl = true) : retF E f ρ = .rt d ρ := by unfold retF frzO; rw [h, R.out_ok, if_pos hd]
theorem seqS_rt {s t : En → Out} {ρ ρ' : En} {od : OD} (h : s ρ = .rt od ρ') : seqS s t ρ = .rt od ρ' := by unfold seqS; rw [h]; rfl
theorem flat_strs (C : List (List Nat)) : (C.map D.str).all D.flat = true := by simp [D.flat]
theorem fl_strs (C : List (List Nat)) : (lstF (C.map D.str)).fl = true := by rw [lstF_eq, OD.fl_lst]; simp [D.flat]
theorem mOf_rt {n N : Nat} {body : En → Out} {ds : List D} {ρ0 ρ : En} {od : OD} (hn : ds.length = n) (h0 : ds.map (fun d => some (OD.sh d)) ++ List.replicate (N - n) none = ρ0) (h : body ρ0 = .rt od ρ) : mOf n N body ds = .ok od := by
  unfold mOf
  rw [if_pos hn, h0, h]
theorem exprS_ok {f : En → R D} {ρ : En} {d : D} (h : f ρ = .ok d) : exprS f ρ = .nx ρ := by unfold exprS; rw [h]; rfl
theorem erE_ok {f : En → R OD} {ρ : En} {o : OD} (h : f ρ = .ok o) : erE f ρ = .ok o.er := by unfold erE; rw [h, R.bind_ok]
theorem joinN_one : ∀ ns : List Nat, joinN [] (ns.map fun c => [c]) = ns
  | [] => rfl
  | [x] => rfl
  | x :: y :: r => by
    have := joinN_one (y :: r)
    rw [List.map_cons] at this
    rw [List.map_cons, List.map_cons, joinN, this]; rfl
theorem sum_ones : ∀ ns : List Nat, ((ns.map fun c => [c]).map List.length).sum = ns.length
  | [] => rfl
  | x :: r => by rw [List.map_cons, List.map_cons, List.sum_cons, sum_ones r, List.length_cons]; simp; omega
theorem joinOk_one (ns : List Nat) (h : ns.length ≤ 16777216) : joinOk [] (ns.map fun c => [c]) = true := by
  unfold joinOk
  apply decide_eq_true
  rw [sum_ones]
  simp
  exact h
theorem join_chars {f : En → R D} {ρ : En} {ns : List Nat} (h : f ρ = .ok (.lst (ns.map fun c => .str [c]))) (hl : ns.length ≤ 16777216) : strOp dJoin (con (.str [])) f ρ = .ok (.str ns) := by
  have e : strsOf (ns.map fun c => D.str [c]) = some (ns.map fun c => [c]) := by
    rw [show (ns.map fun c => D.str [c]) = (ns.map fun c => [c]).map D.str from by rw [List.map_map]; rfl, strsOf_map]
  unfold strOp con asS
  rw [R.bind_ok, R.ofO_some, R.bind_ok, h, R.bind_ok, dJoin_lst, e, Option.bind_some, if_pos (joinOk_one ns hl), R.ofO_some, joinN_one]
end DLC
set_option Elab.async false
set_option linter.all false
set_option maxRecDepth 100000
namespace DLC
open PySem L2 DL
def l1__law_cloth : En → Out := (seqS (setF 8 (([] ++ ([] ++ [7])) ++ ([] ++ [])) (callE m__law_draw (aCons (op2 dAdd (op2 dDiv (var 0) (con (.int 7))) (op2 dMul (con (.int 31)) (var 7))) (aCons (erE (lcE [] [9] (bName 9) (rgE rgF1 (aCons (var 5) aNil)) tYesD (con (.int 4)))) aNil))))
    (appS 6 [] (strOp dJoin (con (.str [])) (erE (lcE [8] [10] (bName 10) (itE (var 8)) tYesD (op2 dIx (con (.str [46, 35])) (opA dInt (aCons (orV (op2 dLt (var 10) (con (.int 2))) (andV (op2 dEq (var 10) (con (.int 2))) (op2 dGt (op2 dIx (var 3) (con (.int 2))) (con (.int 3))))) aNil))))))))
def b__law_cloth : En → Out := (seqS (setF 3 ([0] ++ (([1] ++ ([2] ++ ([] ++ []))) ++ [])) (callE m__law_draw (aCons (var 0) (aCons (erE (lstE (aCons (var 1) (aCons (var 2) (aCons (con (.int 6)) aNil))))) aNil))))
    (seqS (setS 4 ([] ++ ([3] ++ [])) (op2 dAdd (con (.int 1)) (op2 dIx (var 3) (con (.int 0)))))
    (seqS (setS 5 ([] ++ ([3] ++ [])) (op2 dAdd (con (.int 1)) (op2 dIx (var 3) (con (.int 1)))))
    (seqS (setF 6 [] (lstE aNil))
    (seqS (forS [] [8] (bName 7) (rgE rgF1 (aCons (var 4) aNil)) l1__law_cloth)
    (seqS (ifS (tst (op2 dEq (op2 dIx (var 3) (con (.int 2))) (con (.int 0)))) (setF 6 ((([6] ++ []) ++ []) ++ [4]) (op2F fRep (erE (lstE (aCons (op2 dIx (var 6) (con (.int 0))) aNil))) (var 4))) nxS)
    (seqS (ifS (tst (op2 dEq (op2 dIx (var 3) (con (.int 2))) (con (.int 1)))) (setF 6 [] (lcE [] [7] (bName 7) (rgE rgF1 (aCons (var 4) aNil)) tYesD (strOp dJoin (con (.str [])) (erE (lcE [] [9] (bName 9) (rgE rgF1 (aCons (var 5) aNil)) tYesD (op2 dIx (con (.str [46, 35])) (op2 dMod (opA dInt (aCons (op2 dAdd (var 7) (var 9)) aNil)) (con (.int 2))))))))) nxS)
    (seqS (ifS (andT (tst (op2 dEq (op2 dIx (var 3) (con (.int 2))) (con (.int 2)))) (tst (op2 dGt (var 4) (con (.int 1))))) (setF 6 ([6] ++ [6]) (op2F fCat (sliceE (var 6) pN (pI (op2 dAdd (con (.int 1)) (op2 dDiv (var 4) (con (.int 2)))))) (sliceE (var 6) pN (pI (op2 dSub (op2 dSub (var 4) (con (.int 1))) (op2 dDiv (var 4) (con (.int 2)))))))) nxS)
    (retV 6)))))))))
def m__law_cloth : List D → R OD := mOf 3 11 b__law_cloth
/-- a cloth: p texts of e signs, each # or . -/
structure Cl (p e : Nat) (C : List (List Nat)) : Prop where
  len : C.length = p
  row : ∀ r ∈ C, r.length = e
  chr : ∀ r ∈ C, ∀ c ∈ r, c = 35 ∨ c = 46
theorem Cl.app {p e : Nat} {C : List (List Nat)} {r : List Nat} (h : Cl p e C) (h1 : r.length = e) (h2 : ∀ c ∈ r, c = 35 ∨ c = 46) : Cl (p + 1) e (C ++ [r]) where
  len := by simp [h.len]
  row := fun s hs => by
    rcases List.mem_append.mp hs with hs | hs
    · exact h.row s hs
    · rw [List.mem_singleton.mp hs]; exact h1
  chr := fun s hs => by
    rcases List.mem_append.mp hs with hs | hs
    · exact h.chr s hs
    · rw [List.mem_singleton.mp hs]; exact h2
def chB (b : Bool) : Nat := if b then 35 else 46
theorem chB_or (b : Bool) : chB b = 35 ∨ chB b = 46 := by cases b; exact .inr rfl; exact .inl rfl
theorem pick_ch {f : En → R D} {ρ : En} {b : Bool} (h : f ρ = .ok (.bl b)) : op2 dIx (con (.str [46, 35])) (opA dInt (aCons f aNil)) ρ = .ok (.str [chB b]) := by
  cases b <;> simp [mOf, seqS, exprS, setS, setF, retS, retF, retV, retN, nxS, ifS, op1, op2, op2F, aNil, aCons, opA, opAF, erE, callE, tst, andT, orT, notT, andV, orV, notV, asB, var, con, sliceE, sliceF, pI, pN, asI, ifE, lstE, tupE, strOp, asS, frzIf, frzO, frz, frz1, D.flat, OD.fl_sh, List.replicate, fgt, fgt1, bName, dInt, dAbs, okSz, okLen, h, L2.atI, L2.ixN, chB]
theorem pick_ch2 {f : En → R D} {ρ : En} {i : Int} (h : f ρ = .ok (.int i)) (hi : i = 0 ∨ i = 1) : op2 dIx (con (.str [46, 35])) f ρ = .ok (.str [chB (decide (i = 1))]) := by
  rcases hi with rfl | rfl <;> simp [mOf, seqS, exprS, setS, setF, retS, retF, retV, retN, nxS, ifS, op1, op2, op2F, aNil, aCons, opA, opAF, erE, callE, tst, andT, orT, notT, andV, orV, notV, asB, var, con, sliceE, sliceF, pI, pN, asI, ifE, lstE, tupE, strOp, asS, frzIf, frzO, frz, frz1, D.flat, OD.fl_sh, List.replicate, fgt, fgt1, bName, dInt, dAbs, okSz, okLen, h, L2.atI, L2.ixN, chB]
theorem chars_map {α : Type} (g : α → Nat) (xs : List α) : (xs.map fun x => D.str [g x]) = (xs.map g).map fun c => D.str [c] := by rw [List.map_map]; rfl
def eC (c mp me a b t : Int) (p e : Nat) (rows : OD) (o7 o8 : Option OD) : En := [some (.sh (.int c)), some (.sh (.int mp)), some (.sh (.int me)), some (.lst [.sh (.int a), .sh (.int b), .sh (.int t)]), some (.sh (.int p)), some (.sh (.int e)), some rows, o7, o8, none, none]
def oS (C : List (List Nat)) : OD := .lst (C.map fun r => .sh (.str r))
theorem at3 (x y z : D) : L2.atI [x, y, z] (2 : Int) = some z := rfl
theorem at30 (x y z : D) : L2.atI [x, y, z] (0 : Int) = some x := rfl
theorem at31 (x y z : D) : L2.atI [x, y, z] (1 : Int) = some y := rfl
section
variable {c mp me a b t : Int} {p e : Nat} {C : List (List Nat)} {o7 o8 : Option OD}
theorem cl_bits {row : List Int} {k : Nat} (hl : row.length < 16777216) : strOp dJoin (con (.str [])) (erE (lcE [8] [10] (bName 10) (itE (var 8)) tYesD (op2 dIx (con (.str [46, 35])) (opA dInt (aCons (orV (op2 dLt (var 10) (con (.int 2))) (andV (op2 dEq (var 10) (con (.int 2))) (op2 dGt (op2 dIx (var 3) (con (.int 2))) (con (.int 3))))) aNil)))))
    (eC c mp me a b t p e (oS C) (some (.sh (.int k))) (some (.lst (row.map fun i => .sh (.int i))))) = .ok (.str (row.map fun x => chB (decide (x < 2) || (decide (x = 2) && decide (3 < t))))) := by
  refine join_chars ?_ (by rw [List.length_map]; omega)
  have := lcE_map row D.int (fun x => D.str [chB (decide (x < 2) || (decide (x = 2) && decide (3 < t)))]) (Ee := [8]) (vs := [10]) (bnd := bName 10) (it := itE (var 8)) (f := op2 dIx (con (.str [46, 35])) (opA dInt (aCons (orV (op2 dLt (var 10) (con (.int 2))) (andV (op2 dEq (var 10) (con (.int 2))) (op2 dGt (op2 dIx (var 3) (con (.int 2))) (con (.int 3))))) aNil)))
    (ρ := eC c mp me a b t p e (oS C) (some (.sh (.int k))) (some (.lst (row.map fun i => .sh (.int i))))) (by unfold eC; simp [mOf, seqS, exprS, setS, setF, retS, retF, retV, retN, nxS, ifS, op1, op2, op2F, aNil, aCons, opA, opAF, erE, callE, tst, andT, orT, notT, andV, orV, notV, asB, var, con, sliceE, sliceF, pI, pN, asI, ifE, lstE, tupE, strOp, asS, frzIf, frzO, frz, frz1, D.flat, OD.fl_sh, List.replicate, fgt, fgt1, bName, dInt, dAbs, okSz, okLen, itE, seqD, Function.comp_def]) (by simp [D.flat]) hl fun x hx => by
      unfold eC
      rw [bName, bk_some]
      refine pick_ch ?_
      by_cases h1 : x < 2
      · simp [mOf, seqS, exprS, setS, setF, retS, retF, retV, retN, nxS, ifS, op1, op2, op2F, aNil, aCons, opA, opAF, erE, callE, tst, andT, orT, notT, andV, orV, notV, asB, var, con, sliceE, sliceF, pI, pN, asI, ifE, lstE, tupE, strOp, asS, frzIf, frzO, frz, frz1, D.flat, OD.fl_sh, List.replicate, fgt, fgt1, bName, dInt, dAbs, okSz, okLen, h1]
      · by_cases h2 : x = 2
        · subst h2
          simp [mOf, seqS, exprS, setS, setF, retS, retF, retV, retN, nxS, ifS, op1, op2, op2F, aNil, aCons, opA, opAF, erE, callE, tst, andT, orT, notT, andV, orV, notV, asB, var, con, sliceE, sliceF, pI, pN, asI, ifE, lstE, tupE, strOp, asS, frzIf, frzO, frz, frz1, D.flat, OD.fl_sh, List.replicate, fgt, fgt1, bName, dInt, dAbs, okSz, okLen, dEq, at3]
        · simp [mOf, seqS, exprS, setS, setF, retS, retF, retV, retN, nxS, ifS, op1, op2, op2F, aNil, aCons, opA, opAF, erE, callE, tst, andT, orT, notT, andV, orV, notV, asB, var, con, sliceE, sliceF, pI, pN, asI, ifE, lstE, tupE, strOp, asS, frzIf, frzO, frz, frz1, D.flat, OD.fl_sh, List.replicate, fgt, fgt1, bName, dInt, dAbs, okSz, okLen, h1, h2, dEq]
  unfold erE
  rw [this, R.bind_ok, lstF_er, chars_map]
theorem cl_b7 {k : Int} {rows : OD} : bName 7 (.int k) (eC c mp me a b t p e rows o7 o8) = some (eC c mp me a b t p e rows (some (.sh (.int k))) o8) := rfl
theorem cl_s8 {rows : OD} {x : OD} : (eC c mp me a b t p e rows o7 o8).set 8 (some x) = eC c mp me a b t p e rows o7 (some x) := rfl
theorem cl_f8 {rows : OD} : fgt [8] (eC c mp me a b t p e rows o7 o8) = eC c mp me a b t p e rows o7 none := rfl
theorem cl_s6 {rows : OD} {x : OD} : (eC c mp me a b t p e rows o7 o8).set 6 (some x) = eC c mp me a b t p e x o7 o8 := rfl
theorem cl_o6 {xs : List OD} : ownL 6 (eC c mp me a b t p e (.lst xs) o7 o8) = some xs := rfl
/-- the drawn row of a cloth -/
theorem cl_draw (he : e < 1000) : ∀ k : Nat, ∃ row : List Int, callE m__law_draw (aCons (op2 dAdd (op2 dDiv (var 0) (con (.int 7))) (op2 dMul (con (.int 31)) (var 7))) (aCons (erE (lcE [] [9] (bName 9) (rgE rgF1 (aCons (var 5) aNil)) tYesD (con (.int 4)))) aNil))
    (eC c mp me a b t p e (oS C) (some (.sh (.int k))) o8) = .ok (.lst (row.map fun i => .sh (.int i))) ∧ row.length = e := by
  intro k
  obtain ⟨row, h1, h2, _⟩ := law_draw (c / 7 + 31 * k) ((List.range e).map fun _ => 4) (fun l hl => by obtain ⟨_, _, rfl⟩ := List.mem_map.mp hl; decide) (by simpa using he)
  refine ⟨row, ?_, by simpa using h2⟩
  have hr := lcE_rng (Ee := []) (vs := [9]) (bnd := bName 9) (fa := aCons (var 5) aNil) (f := con (.int 4)) (ρ := eC c mp me a b t p e (oS C) (some (.sh (.int k))) o8) (n := e) (fun _ => .int 4) (by unfold eC; simp [mOf, seqS, exprS, setS, setF, retS, retF, retV, retN, nxS, ifS, op1, op2, op2F, aNil, aCons, opA, opAF, erE, callE, tst, andT, orT, notT, andV, orV, notV, asB, var, con, sliceE, sliceF, pI, pN, asI, ifE, lstE, tupE, strOp, asS, frzIf, frzO, frz, frz1, D.flat, OD.fl_sh, List.replicate, fgt, fgt1, bName, dInt, dAbs, okSz, okLen]) (by omega) (fun x _ => by rw [bName, bk_some]; rfl)
  have m1 : mulOk (31 : Int) k = true := mulOk_l (by decide)
  have e1 : (op2 dAdd (op2 dDiv (var 0) (con (.int 7))) (op2 dMul (con (.int 31)) (var 7))) (eC c mp me a b t p e (oS C) (some (.sh (.int k))) o8) = .ok (.int (c / 7 + 31 * k)) := by
    unfold eC
    simp [mOf, seqS, exprS, setS, setF, retS, retF, retV, retN, nxS, ifS, op1, op2, op2F, aNil, aCons, opA, opAF, erE, callE, tst, andT, orT, notT, andV, orV, notV, asB, var, con, sliceE, sliceF, pI, pN, asI, ifE, lstE, tupE, strOp, asS, frzIf, frzO, frz, frz1, D.flat, OD.fl_sh, List.replicate, fgt, fgt1, bName, dInt, dAbs, okSz, okLen, dDiv, divW_ok, m1]
  have e2 : (erE (lcE [] [9] (bName 9) (rgE rgF1 (aCons (var 5) aNil)) tYesD (con (.int 4)))) (eC c mp me a b t p e (oS C) (some (.sh (.int k))) o8) = .ok (.lst (((List.range e).map fun _ => (4 : Int)).map D.int)) := by
    unfold erE
    rw [hr, R.bind_ok, lstF_er, List.map_map]; rfl
  rw [call2 e1 e2]
  exact h1
theorem cloth_turn {k : Nat} (hp : p < 1000) (he : e < 1000) (hC : Cl k e C) (hkp : k < p) (row : List Int) (e1 : callE m__law_draw (aCons (op2 dAdd (op2 dDiv (var 0) (con (.int 7))) (op2 dMul (con (.int 31)) (var 7))) (aCons (erE (lcE [] [9] (bName 9) (rgE rgF1 (aCons (var 5) aNil)) tYesD (con (.int 4)))) aNil))
    (eC c mp me a b t p e (oS C) (some (.sh (.int k))) none) = .ok (.lst (row.map fun i => .sh (.int i)))) (e2 : row.length = e) :
    (l1__law_cloth (eC c mp me a b t p e (oS C) (some (.sh (.int k))) none)).lk (fun ρ2 => ∃ (C : List (List Nat)) (o7 : Option OD), fgt [8] ρ2 = eC c mp me a b t p e (oS C) o7 none ∧ Cl (k + 1) e C) fun _ => False := by
  unfold l1__law_cloth
  have hb := cl_bits (c := c) (mp := mp) (me := me) (a := a) (b := b) (t := t) (p := p) (e := e) (C := C) (row := row) (k := k) (by omega)
  have h3 : setF 8 (([] ++ ([] ++ [7])) ++ ([] ++ [])) (callE m__law_draw (aCons (op2 dAdd (op2 dDiv (var 0) (con (.int 7))) (op2 dMul (con (.int 31)) (var 7))) (aCons (erE (lcE [] [9] (bName 9) (rgE rgF1 (aCons (var 5) aNil)) tYesD (con (.int 4)))) aNil)))
      (eC c mp me a b t p e (oS C) (some (.sh (.int k))) none) = .nx (eC c mp me a b t p e (oS C) (some (.sh (.int k))) (some (.lst (row.map fun i => .sh (.int i))))) := by
    unfold setF
    rw [e1, R.out_ok]
    unfold frzO
    rw [OD.fl_lst, if_pos (by simp [D.flat]), cl_s8]
  rw [seqS_nx h3]
  have hlen := hC.len
  unfold appS oS
  rw [cl_o6]
  unfold oS at hb
  simp only
  rw [hb, R.out_ok, if_pos (by unfold okLen keeps; simp [D.flat]; omega), frzIf_flat (by rfl), cl_s6, lk_nx, cl_f8]
  refine ⟨C ++ [row.map fun x => chB (decide (x < 2) || (decide (x = 2) && decide (3 < t)))], some (.sh (.int k)), ?_, hC.app (by simpa using e2) ?_⟩
  · simp
  · intro ch hch
    obtain ⟨x, _, rfl⟩ := List.mem_map.mp hch
    exact chB_or _
end
theorem cloth_turn2 (c mp me a b t : Int) (p e k : Nat) (C : List (List Nat)) (hp : p < 1000) (he : e < 1000) (hC : Cl k e C) (hkp : k < p) :
    (l1__law_cloth (eC c mp me a b t p e (oS C) (some (.sh (.int k))) none)).lk (fun ρ2 => ∃ (C : List (List Nat)) (o7 : Option OD), fgt [8] ρ2 = eC c mp me a b t p e (oS C) o7 none ∧ Cl (k + 1) e C) fun _ => False := by
  have hdr := @cl_draw c mp me a b t p e C none he k
  exact hdr.elim fun row h => cloth_turn hp he hC hkp row h.1 h.2
section
variable {c mp me a b t : Int} {p e : Nat} {C : List (List Nat)} {o7 o8 : Option OD}
theorem cl_loop (hp : p < 1000) (he : e < 1000) : ∃ (C : List (List Nat)) (o7 : Option OD), loopS [8] (bName 7) l1__law_cloth (rngL 0 p) (eC c mp me a b t p e (oS []) none none) = .nx (eC c mp me a b t p e (oS C) o7 none) ∧ Cl p e C := by
  obtain ⟨ρ', h1, h2⟩ := loop_inv (fg := [8]) (bnd := bName 7) (body := l1__law_cloth) (rngL 0 p)
    (fun k ρ => ∃ (C : List (List Nat)) (o7 : Option OD), ρ = eC c mp me a b t p e (oS C) o7 none ∧ Cl k e C) (eC c mp me a b t p e (oS []) none none) ⟨[], none, rfl, ⟨rfl, fun _ h => absurd h List.not_mem_nil, fun _ h => absurd h List.not_mem_nil⟩⟩ (by
      rintro k d ρ hd ⟨C, o7, rfl, hC⟩
      obtain ⟨hkp, rfl⟩ := rngL_get hd
      rw [Int.zero_add, cl_b7, bk_some]
      exact cloth_turn2 c mp me a b t p e k C hp he hC hkp)
  obtain ⟨C, o7, rfl, hC⟩ := h2
  rw [rngL_len] at hC
  exact ⟨C, o7, h1, hC⟩
end
theorem fRep_one {x : D} {p : Nat} (h : p < 1000000) : fRep (.lst [x]) (.int p) = some (lstF (List.replicate p x)) := by
  show (if (okSz ([x].length * (p : Int).toNat) && (decide ((p : Int) < 1000000) && decide (-1000000 < (p : Int)))) = true then some (lstF (List.replicate (p : Int).toNat [x]).flatten) else none) = _
  rw [if_pos (by unfold okSz; simp; omega)]
  simp
theorem Cl.of {p e p' : Nat} {C C' : List (List Nat)} (h : Cl p e C) (hl : C'.length = p') (hs : ∀ r ∈ C', r ∈ C) : Cl p' e C' := ⟨hl, fun r hr => h.row r (hs r hr), fun r hr => h.chr r (hs r hr)⟩
section
variable {c mp me a b t : Int} {p e : Nat} {C : List (List Nat)} {o7 o8 : Option OD}
/-- the last three changes of the rows: a cloth each -/
theorem cl_t1 (hC : Cl p e C) (h1 : 1 ≤ p) (hp : p < 1000) : ∃ C', (ifS (tst (op2 dEq (op2 dIx (var 3) (con (.int 2))) (con (.int 0)))) (setF 6 ((([6] ++ []) ++ []) ++ [4]) (op2F fRep (erE (lstE (aCons (op2 dIx (var 6) (con (.int 0))) aNil))) (var 4))) nxS) (eC c mp me a b t p e (oS C) o7 none) = .nx (eC c mp me a b t p e (oS C') o7 none) ∧ Cl p e C' := by
  by_cases ht : t = 0
  · subst ht
    cases C with
    | nil => have := hC.len; simp at this; omega
    | cons r C =>
      refine ⟨List.replicate p r, ?_, hC.of (by simp) fun s hs => by rw [(List.mem_replicate.mp hs).2]; exact List.mem_cons_self⟩
      rw [ifS_t (by unfold eC; simp [mOf, seqS, exprS, setS, setF, retS, retF, retV, retN, nxS, ifS, op1, op2, op2F, aNil, aCons, opA, opAF, erE, callE, tst, andT, orT, notT, andV, orV, notV, asB, var, con, sliceE, sliceF, pI, pN, asI, ifE, lstE, tupE, strOp, asS, frzIf, frzO, frz, frz1, D.flat, OD.fl_sh, List.replicate, fgt, fgt1, bName, dInt, dAbs, okSz, okLen, at3, dEq])]
      have hr : (op2 dIx (var 6) (con (.int 0))) (eC c mp me a b 0 p e (oS (r :: C)) o7 none) = .ok (.str r) := by unfold eC oS; simp [mOf, seqS, exprS, setS, setF, retS, retF, retV, retN, nxS, ifS, op1, op2, op2F, aNil, aCons, opA, opAF, erE, callE, tst, andT, orT, notT, andV, orV, notV, asB, var, con, sliceE, sliceF, pI, pN, asI, ifE, lstE, tupE, strOp, asS, frzIf, frzO, frz, frz1, D.flat, OD.fl_sh, List.replicate, fgt, fgt1, bName, dInt, dAbs, okSz, okLen, atI_zero]
      have h2 : op2F fRep (erE (lstE (aCons (op2 dIx (var 6) (con (.int 0))) aNil))) (var 4) (eC c mp me a b 0 p e (oS (r :: C)) o7 none) = .ok (lstF (List.replicate p (.str r))) := by
        have h3 : erE (lstE (aCons (op2 dIx (var 6) (con (.int 0))) aNil)) (eC c mp me a b 0 p e (oS (r :: C)) o7 none) = .ok (.lst [.str r]) := by
          have h4 : lstE (aCons (op2 dIx (var 6) (con (.int 0))) aNil) (eC c mp me a b 0 p e (oS (r :: C)) o7 none) = .ok (lstF [.str r]) := by
            unfold lstE; rw [args1 hr, R.bind_ok]; rfl
          rw [erE_ok h4, lstF_er]
        have h5 : var 4 (eC c mp me a b 0 p e (oS (r :: C)) o7 none) = .ok (.int p) := rfl
        unfold op2F
        rw [h3, R.bind_ok, h5, R.bind_ok]
        have : (List.replicate p [D.str r]).flatten = List.replicate p (D.str r) := by simp
        rw [fRep_one (by omega)]
        rfl
      unfold setF frzO
      rw [h2, R.out_ok, lstF_eq, OD.fl_lst, if_pos (by simp [D.flat]), cl_s6]
      unfold oS
      simp
  · exact ⟨C, by rw [ifS_f (by unfold eC; simp [mOf, seqS, exprS, setS, setF, retS, retF, retV, retN, nxS, ifS, op1, op2, op2F, aNil, aCons, opA, opAF, erE, callE, tst, andT, orT, notT, andV, orV, notV, asB, var, con, sliceE, sliceF, pI, pN, asI, ifE, lstE, tupE, strOp, asS, frzIf, frzO, frz, frz1, D.flat, OD.fl_sh, List.replicate, fgt, fgt1, bName, dInt, dAbs, okSz, okLen, at3, dEq, ht])]; rfl, hC⟩
theorem cl_t2 (hC : Cl p e C) (hp : p < 1000) (he : e < 1000) : ∃ C', (ifS (tst (op2 dEq (op2 dIx (var 3) (con (.int 2))) (con (.int 1)))) (setF 6 [] (lcE [] [7] (bName 7) (rgE rgF1 (aCons (var 4) aNil)) tYesD (strOp dJoin (con (.str [])) (erE (lcE [] [9] (bName 9) (rgE rgF1 (aCons (var 5) aNil)) tYesD (op2 dIx (con (.str [46, 35])) (op2 dMod (opA dInt (aCons (op2 dAdd (var 7) (var 9)) aNil)) (con (.int 2))))))))) nxS) (eC c mp me a b t p e (oS C) o7 none) = .nx (eC c mp me a b t p e (oS C') o7 none) ∧ Cl p e C' := by
  by_cases ht : t = 1
  · subst ht
    refine ⟨(List.range p).map fun (k : Nat) => (List.range e).map fun (j : Nat) => chB (decide (((k : Int) + (j : Int)) % 2 = 1)), ?_, ⟨by simp, fun r hr => ?_, fun r hr ch hch => ?_⟩⟩
    · rw [ifS_t (by unfold eC; simp [mOf, seqS, exprS, setS, setF, retS, retF, retV, retN, nxS, ifS, op1, op2, op2F, aNil, aCons, opA, opAF, erE, callE, tst, andT, orT, notT, andV, orV, notV, asB, var, con, sliceE, sliceF, pI, pN, asI, ifE, lstE, tupE, strOp, asS, frzIf, frzO, frz, frz1, D.flat, OD.fl_sh, List.replicate, fgt, fgt1, bName, dInt, dAbs, okSz, okLen, at3, dEq])]
      have h2 := lcE_rng (Ee := []) (vs := [7]) (bnd := bName 7) (fa := aCons (var 4) aNil) (f := strOp dJoin (con (.str [])) (erE (lcE [] [9] (bName 9) (rgE rgF1 (aCons (var 5) aNil)) tYesD (op2 dIx (con (.str [46, 35])) (op2 dMod (opA dInt (aCons (op2 dAdd (var 7) (var 9)) aNil)) (con (.int 2)))))))
        (ρ := eC c mp me a b 1 p e (oS C) o7 none) (n := p) (fun (k : Nat) => .str ((List.range e).map fun (j : Nat) => chB (decide (((k : Int) + (j : Int)) % 2 = 1)))) (args1 rfl) (by omega) fun k hk => by
          rw [bName, bk_some]
          refine join_chars ?_ (by simp; omega)
          have h3 := lcE_rng (Ee := []) (vs := [9]) (bnd := bName 9) (fa := aCons (var 5) aNil) (f := op2 dIx (con (.str [46, 35])) (op2 dMod (opA dInt (aCons (op2 dAdd (var 7) (var 9)) aNil)) (con (.int 2))))
            (ρ := (fgt [7] (eC c mp me a b 1 p e (oS C) o7 none)).set 7 (some (.sh (.int k)))) (n := e) (fun (j : Nat) => .str [chB (decide (((k : Int) + (j : Int)) % 2 = 1))]) (args1 rfl) (by omega) fun j hj => by
              rw [bName, bk_some]
              refine pick_ch2 ?_ (by omega)
              unfold eC
              simp [mOf, seqS, exprS, setS, setF, retS, retF, retV, retN, nxS, ifS, op1, op2, op2F, aNil, aCons, opA, opAF, erE, callE, tst, andT, orT, notT, andV, orV, notV, asB, var, con, sliceE, sliceF, pI, pN, asI, ifE, lstE, tupE, strOp, asS, frzIf, frzO, frz, frz1, D.flat, OD.fl_sh, List.replicate, fgt, fgt1, bName, dInt, dAbs, okSz, okLen, dMod]
          rw [erE_ok h3, lstF_er, chars_map]
      unfold setF frzO
      rw [h2, R.out_ok, lstF_eq, OD.fl_lst, if_pos (by simp [D.flat]), cl_s6]
      unfold oS
      simp [Function.comp_def]
    · obtain ⟨k, _, rfl⟩ := List.mem_map.mp hr
      simp
    · obtain ⟨k, _, rfl⟩ := List.mem_map.mp hr
      obtain ⟨j, _, rfl⟩ := List.mem_map.mp hch
      exact chB_or _
  · exact ⟨C, by rw [ifS_f (by unfold eC; simp [mOf, seqS, exprS, setS, setF, retS, retF, retV, retN, nxS, ifS, op1, op2, op2F, aNil, aCons, opA, opAF, erE, callE, tst, andT, orT, notT, andV, orV, notV, asB, var, con, sliceE, sliceF, pI, pN, asI, ifE, lstE, tupE, strOp, asS, frzIf, frzO, frz, frz1, D.flat, OD.fl_sh, List.replicate, fgt, fgt1, bName, dInt, dAbs, okSz, okLen, at3, dEq, ht])]; rfl, hC⟩
theorem sIx_some (n d : Nat) (k : Int) (h0 : 0 ≤ k) (h1 : k ≤ n) : HT.sIx n d (some k) = k.toNat := by
  unfold HT.sIx
  simp only
  rw [if_neg (by omega)]
  omega
theorem cut_to {α : Type} (xs : List α) (k : Int) (h0 : 0 ≤ k) (h1 : k ≤ xs.length) : cutN xs none (some k) = xs.take k.toNat := by
  unfold cutN
  rw [sIx_some _ _ _ h0 h1]
  simp [HT.sIx]
theorem cut_from {α : Type} (xs : List α) (k : Int) (h0 : 0 ≤ k) (h1 : k ≤ xs.length) : cutN xs (some k) none = xs.drop k.toNat := by
  unfold cutN
  rw [sIx_some _ _ _ h0 h1]
  have : HT.sIx xs.length xs.length none = xs.length := rfl
  rw [this, List.take_of_length_le (by simp)]
theorem sl_to {f g : En → R D} {ρ : En} {xs : List D} {k : Int} (h : f ρ = .ok (.lst xs)) (hg : g ρ = .ok (.int k)) (h0 : 0 ≤ k) (h1 : k ≤ xs.length) : sliceE f pN (pI g) ρ = .ok (.lst (xs.take k.toNat)) := by
  unfold sliceE pN pI asI
  rw [h, R.bind_ok, R.bind_ok, hg, R.bind_ok]
  simp only [Option.map_some, R.ofO_some, R.bind_ok]
  rw [sliceV_lst, cut_to _ _ h0 h1]; rfl
theorem sl_from {f g : En → R D} {ρ : En} {xs : List D} {k : Int} (h : f ρ = .ok (.lst xs)) (hg : g ρ = .ok (.int k)) (h0 : 0 ≤ k) (h1 : k ≤ xs.length) : sliceE f (pI g) pN ρ = .ok (.lst (xs.drop k.toNat)) := by
  unfold sliceE pN pI asI
  rw [h, R.bind_ok, hg, R.bind_ok]
  simp only [Option.map_some, R.ofO_some, R.bind_ok]
  rw [sliceV_lst, cut_from _ _ h0 h1]; rfl
theorem ss_to {f g : En → R D} {ρ : En} {xs : List Nat} {k : Int} (h : f ρ = .ok (.str xs)) (hl : xs.length ≤ 16777216) (hg : g ρ = .ok (.int k)) (h0 : 0 ≤ k) (h1 : k ≤ xs.length) : sliceE f pN (pI g) ρ = .ok (.str (xs.take k.toNat)) := by
  unfold sliceE pN pI asI
  rw [h, R.bind_ok, R.bind_ok, hg, R.bind_ok]
  simp only [Option.map_some, R.ofO_some, R.bind_ok]
  rw [sliceV_str, if_pos (by unfold okSz; exact decide_eq_true hl), cut_to _ _ h0 h1]; rfl
theorem ss_from {f g : En → R D} {ρ : En} {xs : List Nat} {k : Int} (h : f ρ = .ok (.str xs)) (hl : xs.length ≤ 16777216) (hg : g ρ = .ok (.int k)) (h0 : 0 ≤ k) (h1 : k ≤ xs.length) : sliceE f (pI g) pN ρ = .ok (.str (xs.drop k.toNat)) := by
  unfold sliceE pN pI asI
  rw [h, R.bind_ok, hg, R.bind_ok]
  simp only [Option.map_some, R.ofO_some, R.bind_ok]
  rw [sliceV_str, if_pos (by unfold okSz; exact decide_eq_true hl), cut_from _ _ h0 h1]; rfl
theorem oS_er (C : List (List Nat)) : (oS C).er = dS C := by unfold oS dS; simp [Function.comp_def]
theorem cl_v6 : var 6 (eC c mp me a b t p e (oS C) o7 o8) = .ok (dS C) := by
  show R.ok (oS C).er = _
  rw [oS_er]
theorem cl_t3 (hC : Cl p e C) (h1 : 1 ≤ p) (hp : p < 1000) : ∃ C', (ifS (andT (tst (op2 dEq (op2 dIx (var 3) (con (.int 2))) (con (.int 2)))) (tst (op2 dGt (var 4) (con (.int 1))))) (setF 6 ([6] ++ [6]) (op2F fCat (sliceE (var 6) pN (pI (op2 dAdd (con (.int 1)) (op2 dDiv (var 4) (con (.int 2)))))) (sliceE (var 6) pN (pI (op2 dSub (op2 dSub (var 4) (con (.int 1))) (op2 dDiv (var 4) (con (.int 2)))))))) nxS) (eC c mp me a b t p e (oS C) o7 none) = .nx (eC c mp me a b t p e (oS C') o7 none) ∧ Cl p e C' := by
  by_cases ht : t = 2 ∧ 1 < (p : Int)
  · have hl := hC.len
    refine ⟨C.take (1 + p / 2) ++ C.take (p - 1 - p / 2), ?_, hC.of (by simp; omega) fun s hs => (List.mem_append.mp hs).elim List.mem_of_mem_take List.mem_of_mem_take⟩
    rw [ifS_t (by unfold eC; simp [mOf, seqS, exprS, setS, setF, retS, retF, retV, retN, nxS, ifS, op1, op2, op2F, aNil, aCons, opA, opAF, erE, callE, tst, andT, orT, notT, andV, orV, notV, asB, var, con, sliceE, sliceF, pI, pN, asI, ifE, lstE, tupE, strOp, asS, frzIf, frzO, frz, frz1, D.flat, OD.fl_sh, List.replicate, fgt, fgt1, bName, dInt, dAbs, okSz, okLen, at3, dEq, ht])]
    have e1 : op2 dAdd (con (.int 1)) (op2 dDiv (var 4) (con (.int 2))) (eC c mp me a b t p e (oS C) o7 none) = .ok (.int (1 + (p : Int) / 2)) := by unfold eC; simp [mOf, seqS, exprS, setS, setF, retS, retF, retV, retN, nxS, ifS, op1, op2, op2F, aNil, aCons, opA, opAF, erE, callE, tst, andT, orT, notT, andV, orV, notV, asB, var, con, sliceE, sliceF, pI, pN, asI, ifE, lstE, tupE, strOp, asS, frzIf, frzO, frz, frz1, D.flat, OD.fl_sh, List.replicate, fgt, fgt1, bName, dInt, dAbs, okSz, okLen, dDiv, divW_ok]
    have e2 : op2 dSub (op2 dSub (var 4) (con (.int 1))) (op2 dDiv (var 4) (con (.int 2))) (eC c mp me a b t p e (oS C) o7 none) = .ok (.int ((p : Int) - 1 - (p : Int) / 2)) := by unfold eC; simp [mOf, seqS, exprS, setS, setF, retS, retF, retV, retN, nxS, ifS, op1, op2, op2F, aNil, aCons, opA, opAF, erE, callE, tst, andT, orT, notT, andV, orV, notV, asB, var, con, sliceE, sliceF, pI, pN, asI, ifE, lstE, tupE, strOp, asS, frzIf, frzO, frz, frz1, D.flat, OD.fl_sh, List.replicate, fgt, fgt1, bName, dInt, dAbs, okSz, okLen, dDiv, dSub, divW_ok]
    have hd : (C.map D.str).length = p := by simp [hl]
    have s1 := sl_to (f := var 6) cl_v6 e1 (by omega) (by rw [hd]; omega)
    have s2 := sl_to (f := var 6) cl_v6 e2 (by omega) (by rw [hd]; omega)
    have n1 : (1 + (p : Int) / 2).toNat = 1 + p / 2 := by omega
    have n2 : ((p : Int) - 1 - (p : Int) / 2).toNat = p - 1 - p / 2 := by omega
    rw [n1] at s1
    rw [n2] at s2
    have h2 : op2F fCat (sliceE (var 6) pN (pI (op2 dAdd (con (.int 1)) (op2 dDiv (var 4) (con (.int 2)))))) (sliceE (var 6) pN (pI (op2 dSub (op2 dSub (var 4) (con (.int 1))) (op2 dDiv (var 4) (con (.int 2)))))) (eC c mp me a b t p e (oS C) o7 none) = .ok (lstF ((C.take (1 + p / 2) ++ C.take (p - 1 - p / 2)).map .str)) := by
      unfold op2F
      rw [s1, R.bind_ok, s2, R.bind_ok]
      unfold fCat
      simp only
      rw [if_pos (by unfold okSz; simp; omega), R.ofO_some, List.map_append, List.map_take, List.map_take]
    unfold setF frzO
    rw [h2, R.out_ok, lstF_eq, OD.fl_lst, if_pos (by rw [List.all_eq_true]; intro x hx; obtain ⟨y, hy, rfl⟩ := List.mem_map.mp hx; obtain ⟨z, _, rfl⟩ := List.mem_map.mp hy; rfl), cl_s6]
    unfold oS
    rw [List.map_map]; rfl
  · refine ⟨C, ?_, hC⟩
    rw [ifS_f]
    · rfl
    · unfold eC
      by_cases h2 : t = 2
      · have : ¬ (1 : Int) < p := fun z => ht ⟨h2, z⟩
        have : ¬ 1 < p := by omega
        simp [mOf, seqS, exprS, setS, setF, retS, retF, retV, retN, nxS, ifS, op1, op2, op2F, aNil, aCons, opA, opAF, erE, callE, tst, andT, orT, notT, andV, orV, notV, asB, var, con, sliceE, sliceF, pI, pN, asI, ifE, lstE, tupE, strOp, asS, frzIf, frzO, frz, frz1, D.flat, OD.fl_sh, List.replicate, fgt, fgt1, bName, dInt, dAbs, okSz, okLen, at3, dEq, h2, this]
        omega
      · simp [mOf, seqS, exprS, setS, setF, retS, retF, retV, retN, nxS, ifS, op1, op2, op2F, aNil, aCons, opA, opAF, erE, callE, tst, andT, orT, notT, andV, orV, notV, asB, var, con, sliceE, sliceF, pI, pN, asI, ifE, lstE, tupE, strOp, asS, frzIf, frzO, frz, frz1, D.flat, OD.fl_sh, List.replicate, fgt, fgt1, bName, dInt, dAbs, okSz, okLen, at3, dEq, h2]
end
theorem law_cloth (c : Int) (mp me : Nat) (h1 : 1 ≤ mp) (h2 : mp < 1000) (h3 : 1 ≤ me) (h4 : me < 1000) : ∃ (p e : Nat) (C : List (List Nat)), m__law_cloth [.int c, .int mp, .int me] = .ok (oS C) ∧ Cl p e C ∧ 1 ≤ p ∧ p ≤ mp ∧ 1 ≤ e ∧ e ≤ me := by
  obtain ⟨row, g1, g2, g3⟩ := law_draw c [(mp : Int), (me : Int), 6] (by simp; omega) (by simp)
  match row, g2, g3, g1 with
  | [a, b, t], _, g3, g1 =>
    obtain ⟨_, a1, a2⟩ := g3 0 (by simp)
    obtain ⟨_, b1, b2⟩ := g3 1 (by simp)
    simp at a1 a2 b1 b2
    obtain ⟨p, hp⟩ : ∃ p : Nat, (p : Int) = 1 + a := ⟨(1 + a).toNat, by omega⟩
    obtain ⟨e, he⟩ : ∃ e : Nat, (e : Int) = 1 + b := ⟨(1 + b).toNat, by omega⟩
    obtain ⟨C0, o7, l1, hC0⟩ := cl_loop (c := c) (mp := mp) (me := me) (a := a) (b := b) (t := t) (p := p) (e := e) (by omega) (by omega)
    obtain ⟨C1, t1, hC1⟩ := cl_t1 (c := c) (mp := mp) (me := me) (a := a) (b := b) (t := t) (o7 := o7) hC0 (by omega) (by omega)
    obtain ⟨C2, t2, hC2⟩ := cl_t2 (c := c) (mp := mp) (me := me) (a := a) (b := b) (t := t) (o7 := o7) hC1 (by omega) (by omega)
    obtain ⟨C3, t3, hC3⟩ := cl_t3 (c := c) (mp := mp) (me := me) (a := a) (b := b) (t := t) (o7 := o7) hC2 (by omega) (by omega)
    refine ⟨p, e, C3, ?_, hC3, by omega, by omega, by omega, by omega⟩
    have r1 : callE m__law_draw (aCons (var 0) (aCons (erE (lstE (aCons (var 1) (aCons (var 2) (aCons (con (.int 6)) aNil))))) aNil)) ([some (.sh (.int c)), some (.sh (.int mp)), some (.sh (.int me)), none, none, none, none, none, none, none, none]) = .ok (.lst [.sh (.int a), .sh (.int b), .sh (.int t)]) := by
      have q : lstE (aCons (var 1) (aCons (var 2) (aCons (con (.int 6)) aNil))) [some (.sh (.int c)), some (.sh (.int mp)), some (.sh (.int me)), none, none, none, none, none, none, none, none] = .ok (lstF [.int mp, .int me, .int 6]) := by
        unfold lstE
        rw [args3 (a := .int mp) (b := .int me) (c := .int 6) rfl rfl rfl, R.bind_ok]; rfl
      have q2 := erE_ok q
      rw [lstF_er] at q2
      rw [call2 (a := .int c) rfl q2]
      exact g1
    have w1 : setF 3 ([0] ++ (([1] ++ ([2] ++ ([] ++ []))) ++ [])) (callE m__law_draw (aCons (var 0) (aCons (erE (lstE (aCons (var 1) (aCons (var 2) (aCons (con (.int 6)) aNil))))) aNil))) [some (.sh (.int c)), some (.sh (.int mp)), some (.sh (.int me)), none, none, none, none, none, none, none, none] = .nx [some (.sh (.int c)), some (.sh (.int mp)), some (.sh (.int me)), some (.lst [.sh (.int a), .sh (.int b), .sh (.int t)]), none, none, none, none, none, none, none] := by
      unfold setF frzO
      rw [r1, R.out_ok, OD.fl_lst, if_pos (by simp [D.flat])]
      rfl
    have w2 : setS 4 ([] ++ ([3] ++ [])) (op2 dAdd (con (.int 1)) (op2 dIx (var 3) (con (.int 0)))) [some (.sh (.int c)), some (.sh (.int mp)), some (.sh (.int me)), some (.lst [.sh (.int a), .sh (.int b), .sh (.int t)]), none, none, none, none, none, none, none] = .nx [some (.sh (.int c)), some (.sh (.int mp)), some (.sh (.int me)), some (.lst [.sh (.int a), .sh (.int b), .sh (.int t)]), some (.sh (.int p)), none, none, none, none, none, none] := by
      simp [mOf, seqS, exprS, setS, setF, retS, retF, retV, retN, nxS, ifS, op1, op2, op2F, aNil, aCons, opA, opAF, erE, callE, tst, andT, orT, notT, andV, orV, notV, asB, var, con, sliceE, sliceF, pI, pN, asI, ifE, lstE, tupE, strOp, asS, frzIf, frzO, frz, frz1, D.flat, OD.fl_sh, List.replicate, fgt, fgt1, bName, dInt, dAbs, okSz, okLen, at30, hp]
    have w3 : setS 5 ([] ++ ([3] ++ [])) (op2 dAdd (con (.int 1)) (op2 dIx (var 3) (con (.int 1)))) [some (.sh (.int c)), some (.sh (.int mp)), some (.sh (.int me)), some (.lst [.sh (.int a), .sh (.int b), .sh (.int t)]), some (.sh (.int p)), none, none, none, none, none, none] = .nx [some (.sh (.int c)), some (.sh (.int mp)), some (.sh (.int me)), some (.lst [.sh (.int a), .sh (.int b), .sh (.int t)]), some (.sh (.int p)), some (.sh (.int e)), none, none, none, none, none] := by
      simp [mOf, seqS, exprS, setS, setF, retS, retF, retV, retN, nxS, ifS, op1, op2, op2F, aNil, aCons, opA, opAF, erE, callE, tst, andT, orT, notT, andV, orV, notV, asB, var, con, sliceE, sliceF, pI, pN, asI, ifE, lstE, tupE, strOp, asS, frzIf, frzO, frz, frz1, D.flat, OD.fl_sh, List.replicate, fgt, fgt1, bName, dInt, dAbs, okSz, okLen, at31, he]
    have w4 : setF 6 [] (lstE aNil) [some (.sh (.int c)), some (.sh (.int mp)), some (.sh (.int me)), some (.lst [.sh (.int a), .sh (.int b), .sh (.int t)]), some (.sh (.int p)), some (.sh (.int e)), none, none, none, none, none] = .nx (eC c mp me a b t p e (oS []) none none) := by
      unfold eC oS
      simp [mOf, seqS, exprS, setS, setF, retS, retF, retV, retN, nxS, ifS, op1, op2, op2F, aNil, aCons, opA, opAF, erE, callE, tst, andT, orT, notT, andV, orV, notV, asB, var, con, sliceE, sliceF, pI, pN, asI, ifE, lstE, tupE, strOp, asS, frzIf, frzO, frz, frz1, D.flat, OD.fl_sh, List.replicate, fgt, fgt1, bName, dInt, dAbs, okSz, okLen, lstF_eq]
    unfold m__law_cloth b__law_cloth mOf
    have e0 : ([D.int c, D.int mp, D.int me].map (fun d => some (OD.sh d)) ++ List.replicate (11 - 3) none) = [some (.sh (.int c)), some (.sh (.int mp)), some (.sh (.int me)), none, none, none, none, none, none, none, none] := rfl
    rw [if_pos (by rfl), e0, seqS_nx w1, seqS_nx w2, seqS_nx w3, seqS_nx w4, seqS_nx (for_rng1 (n := p) (by omega) (args1 rfl) l1), seqS_nx t1, seqS_nx t2, seqS_nx t3]
    rfl
end DLC
set_option Elab.async false
set_option linter.all false
set_option maxRecDepth 100000
namespace DL
open PySem PySem.Spec PyProof.Rows L2
/-! ### x[::-1] -/
/-- a text read from its end -/
def revT (z : Str) : Str := ⟨z.cps.toList.reverse.toArray⟩
theorem revT_of (z : Str) : (⟨((Builtin.Str.strSliceIndices none none (-1) z.length).filterMap (z.cps[·]?)).toArray⟩ : Str) = revT z := by
  unfold revT
  congr 2
  rw [picked_rev, filterMap_get _ _ (fun i hi => by
    obtain ⟨k, hk, rfl⟩ := List.mem_map.mp hi
    have := List.mem_range.mp hk
    show z.length - 1 - k < z.length
    omega)]
  apply List.ext_getElem?
  intro i
  rw [List.map_map, List.getElem?_map]
  have hl : z.cps.toList.length = z.length := Array.length_toList
  by_cases hi : i < z.length
  · rw [List.getElem?_range hi, List.getElem?_reverse (by rw [hl]; exact hi), hl]
    have h2 : z.length - 1 - i < z.cps.size := by show _ < z.length; omega
    simp only [Option.map_some, Function.comp_apply]
    rw [Array.getElem?_toList, Array.getElem?_eq_getElem h2]
    simp [Array.getD, h2]
  · rw [List.getElem?_eq_none (by rw [List.length_range]; omega), List.getElem?_eq_none (by rw [List.length_reverse, hl]; omega)] <;> rfl
def tRevX (K : PySem.W.Frag) (te : TE) : TE := fun σ H Q => te σ H fun x H1 => (∃ a xs, x = .ref a ∧ SqL K H1 a xs ∧ ∀ p, H1 p = none → Q (.ref p) (upd H1 p (.lst xs.reverse))) ∨ ∃ z : Str, x = .str z ∧ z.length ≤ sizeLine ∧ Q (.str (revT z)) H1
theorem pe_revX {X : Cx} {e : Expr} {te : TE} {k : Nat} {p1 p2 p3 pos : Pos} (he : PE X e te) : PE X (.Subscript e (.Slice none none (some (.UnaryOp .USub (.Constant (.int 1) k p1) p2)) p3) pos) (tRevX X.K te) := by
  refine ⟨fun pins s σ H Q I h => Subscript_ (thn (he.run pins s σ H _ I h) fun v s1 ⟨x, H1, I1, r1, q1⟩ => ?_)⟩
  have stp : PO X (some (.UnaryOp .USub (.Constant (.int 1) k p1) p2)) (tPart (tUn (rU fun i => .int (-i)) (tC (.int 1)))) := po_some (pe_un un_neg pe_int)
  refine wpAny_Slice (thn (po_none.run pins s1 σ H1 (fun o G => o = none ∧ G = H1) I1 ⟨rfl, rfl⟩) fun vl s2 ⟨_, _, I2, pl, el, e2⟩ => ?_)
  subst el e2
  refine thn (po_none.run pins s2 σ _ (fun o G => o = none ∧ G = _) I2 ⟨rfl, rfl⟩) fun vu s3 ⟨_, _, I3, pu, eu, e3⟩ => ?_
  subst eu e3
  refine thn (stp.run pins s3 σ _ (fun o G => o = some (-1) ∧ G = _) I3 ⟨1, rfl, -1, rfl, rfl, rfl⟩) fun vs s4 ⟨_, H4, I4, ps, eo, e4⟩ => ?_
  subst eo e4
  have I5 : Inv X pins σ H4 { s4 with heap := s4.heap.push { cls := .type "slice", data := .fields #[vl, vu, vs] } } := I4.kept (t' := s4.toks) fun b ob q => Heap.get?_push_of_some _ q
  show wpAny (model X.prog X.w) X.A (subscriptTail e (.Slice none none (some (.UnaryOp .USub (.Constant (.int 1) k p1) p2)) p3) v (.ref s4.heap.objs.size)) (EP X pins σ Q) X.xe { s4 with heap := s4.heap.push { cls := .type "slice", data := .fields #[vl, vu, vs] } }
  rcases q1 with ⟨a, xs, ex, hx, q⟩ | ⟨z, ex, hz, q⟩
  · subst ex
    cases r1
    obtain ⟨its, r, ht, hz⟩ := I5.list hx
    have hlen := r.length
    refine tail_any (ops := [.ref a, .ref s4.heap.objs.size]) ht.isList.typeIs (PySem.slot_list_getitem.lookup) (wpAny_getItem_list_slice ht.isList (Heap.IsSliceOf.new _ vl vu vs) pl pu ps (by decide) ?_ (by rw [List.size_toArray]; omega)) (by with_unfolding_all rfl)
    rw [PySem.W.krv_pick]
    exact ⟨.ref _, _, I5.laid (t' := s4.toks) (o := .lst xs.reverse) (fun b ob q => Heap.get?_push_of_some _ q) (Nat.le_refl _) ⟨by rw [List.length_reverse]; exact hz, _, 0, r.reverse, Heap.get?_push_size _ rfl⟩, rfl, q _ (I5.hok.fresh (Nat.le_refl _))⟩
  · subst ex
    obtain ⟨t, rfl⟩ := r1
    obtain ⟨l, rfl, hl⟩ := IsPart.raw pl
    obtain ⟨u, rfl, hu⟩ := IsPart.raw pu
    obtain ⟨st, rfl, hst⟩ := IsPart.raw ps
    cases l with
    | some l => cases hl
    | none =>
    cases u with
    | some u => cases hu
    | none =>
    cases st with
    | none => cases hst
    | some st =>
    obtain ⟨i, tk⟩ := st
    cases hst
    obtain ⟨oz, hoz, hcz, hdz⟩ := Heap.IsSliceOf.new s4.heap (partValue none) (partValue none) (partValue (some (-1, tk)))
    refine tail_any (ops := [.str z t, .ref s4.heap.objs.size]) (typeIs_str _ z t) (F.slot_str_getitem.lookup) (wpAny_getItem_str_slice (l := none) (u := none) (st := some (-1, tk)) ⟨oz, hoz, hcz, hdz⟩ (by rfl) ?_) (by with_unfolding_all rfl)
    rw [← revT_of] at q
    have hl : (revT z).length ≤ sizeLine := by
      show (z.cps.toList.reverse.toArray).size ≤ sizeLine
      rw [List.size_toArray, List.length_reverse, Array.length_toList]
      exact hz
    rw [← revT_of] at hl
    show Made.post (if ((-1 : Int) == 1 && (slicePicked z none none (some (-1, tk))).length == z.length) = true then Made.val (.str z t) else Made.str ⟨((Builtin.Str.strSliceIndices none none (-1) z.length).filterMap (z.cps[·]?)).toArray⟩) (EP X pins σ Q) _
    rw [if_neg (by simp)]
    exact ⟨hl, .str _, H4, I5.tok _, ⟨_, rfl⟩, q⟩
def dRev : D → Option D
  | .lst xs => some (.lst xs.reverse)
  | .str s => if okSz s.length then some (.str s.reverse) else none
  | _ => none
@[simp] theorem dRev_lst (xs : List D) : dRev (.lst xs) = some (.lst xs.reverse) := rfl
@[simp] theorem dRev_str (s : List Nat) : dRev (.str s) = if okSz s.length then some (.str s.reverse) else none := rfl
section
variable {X : Cx} {B : Bs} {W : WX} {E : List Nat} {f : En → R D} {e : Expr} {k : Nat} {p1 p2 p3 pos : Pos}
theorem d_rev (hK : B.P.K = X.K) (h1 : PE X e (tD B W E f)) : PE X (.Subscript e (.Slice none none (some (.UnaryOp .USub (.Constant (.int 1) k p1) p2)) p3) pos) (tD B W E (op1 dRev f)) :=
  (pe_revX h1).imp fun σ H Q ⟨ρ, As, S, q⟩ => by
    refine tD_bind S q fun d v H1 s1 S1 r1 q1 => ?_
    cases d with
    | lst xs =>
      obtain ⟨a, vs, rfl, ha, ra⟩ := r1.lstE
      refine .inl ⟨a, vs, rfl, .inl (rd_cut ha), fun p hp => ?_⟩
      refine new_lst S1.hth hp ra.reverse fun v A H' s nA fA ro => ?_
      exact q1 v H' (s1.trans s) (by have := er_new S1.hth fA ro; rwa [lstF_er] at this)
    | str z =>
      obtain ⟨z, rfl, hz⟩ := r1.tick
      dsimp only [dRev] at q1
      split at q1
      · rename_i hk
        refine .inr ⟨z, rfl, by rw [slen hz]; exact okSz_le hk, q1 _ H1 s1 (rep_of ?_)⟩
        show z.cps.toList.reverse.toArray.toList = _
        rw [List.toList_toArray, hz]
      · exact q1.elim
    | _ => exact q1.elim
end
end DL
set_option Elab.async false
set_option linter.all false
set_option maxRecDepth 100000
namespace DL
open PySem PySem.Spec PyProof.Rows L2
/-! ### a op b op c -/
def chainV (g g' : D → D → Option D) (f1 f2 f3 : En → R D) : En → R D := fun ρ => (f1 ρ).bind fun a => (f2 ρ).bind fun b => (R.ofO (g a b)).bind fun d => (R.ofO (asB d)).bind fun k =>
  if k then (f3 ρ).bind fun c => R.ofO (g' b c) else .ok (.bl false)
section
variable {X : Cx} {B : Bs} {W : WX} {E E1 E2 E3 : List Nat} {f1 f2 f3 : En → R D} {e1 e2 e3 : Expr} {pos : Pos}
theorem imp_chain {r r' : R2} {g g' : D → D → Option D} (hg : Ad2 B.P r g) (hg' : Ad2 B.P r' g') (hf' : Flat2 g') {σ : L2.St} {H : Hp} {Q : VK} (h : tD B W [] (chainV g g' f1 f2 f3) σ H Q) :
    tChain r r' (tD B W E1 f1) (tD B W E2 f2) (tD B W E3 f3) σ H Q := by
  obtain ⟨ρ, As, S, h⟩ := h
  unfold tChain
  refine tD_bind S h fun a v H1 s1 S1 r1 h => ?_
  refine tD_bind S1 h fun b u H2 s2 S2 r2 h => ?_
  cases e : g a b with
  | none => rw [e] at h; exact h.elim
  | some d =>
    rw [e] at h
    cases d with
    | bl k =>
      have h : (if k then (f3 ρ).bind fun c => R.ofO (g' b c) else (.ok (.bl false) : R D)).go _ _ := h
      refine hg (hid B As (E1 ++ E2)) H2 v u a b (.bl k) _ S2.hth (r1.up (cut_mono s2 (hid_mono fun i hi => List.mem_append_left _ hi))) (r2.up (cut_mono (Same.refl _) (hid_mono fun i hi => List.mem_append_right _ hi))) e fun w H3 s3 r3 => ?_
      cases r3
      refine ⟨k, rfl, ?_⟩
      have S3 := S2.same s3
      cases k with
      | false => exact h (.bl false) H3 ((s1.trans s2).trans s3) (.bl false)
      | true =>
        have h3 : ((f3 ρ).bind fun c => R.ofO (g' b c)).go (fun d => ∀ v H', Same H H' → Rep B.P (cut H' (hid B As [])) v d → Q v H') (Exk B W σ H3) := by
          have h : ((f3 ρ).bind fun c => R.ofO (g' b c)).go (fun d => ∀ v H', Same H H' → Rep B.P (cut H' (hid B As [])) v d → Q v H') (Exk B W σ H2) := h
          revert h
          cases (f3 ρ).bind fun c => R.ofO (g' b c) with
          | ok d => exact id
          | ex c fs => exact fun z => Exk.same z s3
          | st => exact id
        refine tD_bind S3 h3 fun c w' H4 s4 S4 r4 h => ?_
        cases e' : g' b c with
        | none => rw [e'] at h; exact h.elim
        | some d =>
          rw [e'] at h
          refine hg' (hid B As (E2 ++ E3)) H4 u w' b c d _ S4.hth (r2.up (cut_mono (s3.trans s4) (hid_mono fun i hi => List.mem_append_left _ hi))) (r4.up (cut_mono (Same.refl _) (hid_mono fun i hi => List.mem_append_right _ hi))) e' fun z H5 s5 r5 => ?_
          exact h z H5 ((((s1.trans s2).trans s3).trans s4).trans s5) (r5.flat (hf' _ _ _ e'))
    | _ => exact h.elim
theorem d_chain {op op' : CmpOp} {r r' : R2} {g g' : D → D → Option D} (ho : OpR X (compareOp op) r) (ho' : OpR X (compareOp op') r') (hg : Ad2 B.P r g) (hg' : Ad2 B.P r' g') (hf' : Flat2 g')
    (h1 : PE X e1 (tD B W E1 f1)) (h2 : PE X e2 (tD B W E2 f2)) (h3 : PE X e3 (tD B W E3 f3)) (hm : lastMarks [op, op'] [e2, e3] = false := by with_unfolding_all rfl) : PE X (.Compare e1 [op, op'] [e2, e3] pos) (tD B W [] (chainV g g' f1 f2 f3)) :=
  (pe_chain ho ho' h1 h2 h3 hm).imp fun _ _ _ => imp_chain hg hg' hf'
theorem t_chain {op op' : CmpOp} {r r' : R2} {g g' : D → D → Option D} (ho : OpR X (compareOp op) r) (ho' : OpR X (compareOp op') r') (hg : Ad2 B.P r g) (hg' : Ad2 B.P r' g') (hf' : Flat2 g')
    (h1 : PE X e1 (tD B W E1 f1)) (h2 : PE X e2 (tD B W E2 f2)) (h3 : PE X e3 (tD B W E3 f3)) (hm : lastMarks [op, op'] [e2, e3] = false := by with_unfolding_all rfl) : PT X (.Compare e1 [op, op'] [e2, e3] pos) (tT B W (tst (chainV g g' f1 f2 f3))) :=
  (pt_chain ho ho' h1 h2 h3 hm).imp fun _ _ _ q => imp_tst (fun _ _ _ => imp_chain hg hg' hf') q
theorem d_chain_ll (h1 : PE X e1 (tD B W E1 f1)) (h2 : PE X e2 (tD B W E2 f2)) (h3 : PE X e3 (tD B W E3 f3)) (hm : lastMarks [.LtE, .LtE] [e2, e3] = false := by with_unfolding_all rfl) : PE X (.Compare e1 [.LtE, .LtE] [e2, e3] pos) (tD B W [] (chainV dLe dLe f1 f2 f3)) := d_chain op_leA op_leA ad_cmp ad_cmp fl_cmp h1 h2 h3 hm
end
end DL
set_option Elab.async false
set_option linter.all false
set_option maxRecDepth 100000
namespace DL
open PySem PySem.Spec PyProof.Rows L2
/-! ### zip of two lists, extend -/
def zipD : List D → R (List D)
  | [.lst xs, .lst ys] => .ok (List.zipWith (fun a b => .tup [a, b]) xs ys)
  | _ => .st
def zpE (fa : En → R (List D)) : En → R (List D) := fun ρ => (fa ρ).bind zipD
theorem walks_zip {P : Wd} {H : Hp} {p : Addr → Prop} {a b : Addr} {vs ws : List V} {ds es : List D} (ha : Rd (cut H p) a (.lst vs)) (hb : Rd (cut H p) b (.lst ws)) (r : RepL P (cut H p) vs ds) (r' : RepL P (cut H p) ws es) :
    Walks P (cut H p) (cut H p) (Itz P.K a b) (List.zipWith (fun a b => D.tup [a, b]) ds es) where
  go := fun i H' s h => by
    rw [List.length_zipWith] at h
    obtain ⟨v, e, _⟩ := r.getD (List.getElem?_eq_getElem (show i < ds.length by omega))
    obtain ⟨w, e', _⟩ := r'.getD (List.getElem?_eq_getElem (show i < es.length by omega))
    exact ⟨vs, ws, v, w, .inl (Rd.same s ha), .inl (Rd.same s hb), e, e'⟩
  stop := fun i H' s h => by
    rw [List.length_zipWith] at h
    exact ⟨vs, ws, .inl (Rd.same s ha), .inl (Rd.same s hb), by rw [r.len, r'.len]; omega⟩
  yld := fun i H' x H2 d s y e => by
    obtain ⟨T, u, w, rfl, hT, rfl, y1, y2⟩ := y
    rw [List.getElem?_zipWith] at e
    cases e1 : ds[i]? with
    | none => rw [e1] at e; cases e
    | some da =>
      cases e2 : es[i]? with
      | none => rw [e1, e2] at e; cases e
      | some db =>
        rw [e1, e2] at e
        cases e
        obtain ⟨v1, f1, q1⟩ := r.getD e1
        obtain ⟨v2, f2, q2⟩ := r'.getD e2
        have := y1 vs (.inl (Rd.same s ha))
        rw [f1] at this
        cases this
        have := y2 ws (.inl (Rd.same s hb))
        rw [f2] at this
        cases this
        have gT : cut H p T = none := by
          cases c : cut H p T with
          | none => rfl
          | some o => rw [s T o c] at hT; cases hT
        have sg : Same (cut H p) (upd (cut H p) T (.tup [u, w])) := fun b o e => by rw [upd_ne (ne_of_none e gT)]; exact e
        refine ⟨fun b o e => by rw [upd_ne (ne_of_none e hT)]; exact e, upd (cut H p) T (.tup [u, w]), sg, ?_, ?_, .tup (.inl (.inl (by rw [upd_same]))) (.cons (q1.up sg) (.cons (q2.up sg) .nil))⟩
        · intro c o hc
          by_cases z : c = T
          · subst z; rw [upd_same] at hc ⊢; exact hc
          · rw [upd_ne z] at hc ⊢; exact s c o hc
        · intro c o hc
          by_cases z : c = T
          · subst z; exact .inr hT
          · rw [upd_ne z] at hc; exact .inl hc
section
variable {X : Cx} {B : Bs} {W : WX} {E : List Nat} {fa : En → R (List D)} {e1 e2 : Expr} {p pos tpos : Pos} {elts : List Expr} {kk : Nat}
theorem i_zip (hK : B.P.K = X.K) (gl : Gl X "zip") (hm : X.mg "zip" = none) (ha : PA X [e1, e2] (tA B W E fa))
    (hs : starEach [e1, e2] X.env = (false, eval e1 X.env) :: starEach [e2] X.env := by rfl) (hpl : (backTo pos (starEach [e2] X.env)).any (·.1) = false := by rfl) :
    PI X (.Tuple elts kk tpos) (.Call (.Name "zip" p) [e1, e2] [] pos) (tI B W E E (zpE fa)) :=
  (pi_zip gl hm ha hs hpl).imp fun σ H Q ⟨ρ, As, S, q⟩ => tA_bind S q fun ds vs H1 s1 S1 r1 q1 => by
    unfold zipD at q1
    split at q1
    · rename_i xs ys
      obtain ⟨v, w, rfl, rv, rw'⟩ := r1.twoE
      cases rv with
      | lst h1 l1 =>
        cases rw' with
        | lst h2 l2 =>
          refine ⟨_, _, _, _, rfl, .inl (Rd.same cut_same (.inl h1)), .inl (Rd.same cut_same (.inl h2)), ?_⟩
          have := q1 (Itz X.K _ _) H1 s1 (by rw [← hK]; exact walks_zip (.inl h1) (.inl h2) l1 l2)
          exact this
    · exact q1.elim
end
/-! ### xs.extend(e) -/
def extS (i : Nat) (E : List Nat) (f : En → R D) : En → Out := fun ρ => match ownL i ρ with
  | none => .st
  | some xs => (f ρ).out ρ fun d => match d with
    | .lst ys => if decide (xs.length + ys.length ≤ 16777216) && keeps i E d then .nx ((frzIf d E ρ).set i (some (.lst (xs ++ ys.map .sh)))) else .st
    | _ => .st
theorem RepL.shs {P : Wd} {G H : Hp} : ∀ {vs : List V} {ds : List D}, RepL P G vs ds → RepOL P G H vs (ds.map .sh) []
  | _, _, .nil => .nil
  | _, _, .cons h t => .cons (A := []) (B := []) (.sh h) (RepL.shs t)
section
variable {X : Cx} {B : Bs} {W : WX} {E : List Nat} {f : En → R D} {e : Expr} {pos : Pos}
theorem s_ext (i : Nat) {x : Str} {px apos cpos : Pos} (h0 : PE X (.Name x px) (tVar i)) (h : PE X e (tD B W E f))
    (hbase : attributeBase (.Name x px) "extend" X.env (eval (.Name x px) X.env) = eval (.Name x px) X.env := by rfl)
    (hline : (apos.endLine == cpos.line) = true := by rfl) (hst : starEach [e] X.env = (false, eval e X.env) :: starEach [] X.env := by rfl)
    (hfew : ((backTo cpos (starEach [e] X.env)).all (fun x => !x.1) && (backToKw cpos (keywordEach [] X.env)).all (fun x => x.1.isSome)
      && decide ([e].length + ([] : List Keyword).length + (if ([] : List Keyword).isEmpty then 0 else 1) < 30)) = true := by rfl)
    (hplain : (backTo cpos (starEach [] X.env)).any (·.1) = false := by rfl)
    (hs : swapsWith (.Call (.Attribute (.Name x px) "extend" apos) [e] [] cpos) none pos.line X.env = pure false := by rfl) : PS X (.Expr (.Call (.Attribute (.Name x px) "extend" apos) [e] [] cpos) pos) (tS B W [i] (extS i E f)) :=
  (ps_expr (pe_bm PySem.F.plainAttrs_list PySem.F.slot_list_extend PySem.F.type_list_extend mt_extend h0 (pa_cons h pa_nil hst) hbase hfew hline hst hplain) hs).imp fun D σ H ⟨ρ, As, S, h⟩ => by
    unfold extS at h
    cases eo : ownL i ρ with
    | none => rw [eo] at h; exact h.elim
    | some xs =>
      rw [eo] at h
      have eρ := ownL_eq eo
      obtain ⟨l, vs, A, e1, eA, hl, r⟩ := S.list eρ
      refine ⟨_, e1, .inl ⟨rfl, _, .inl (.inl hl)⟩, tD_out S h fun d v H1 s1 S1 r1 q => ?_⟩
      show rExtend (.ref l) [v] H1 (fun _ H1 => D.nx σ H1)
      cases d with
      | lst ys =>
        cases r1 with
        | @lst b zs _ hb0 rl0 =>
          have r1 : Rep B.P (cut H1 (hid B As E)) (.ref b) (.lst ys) := .lst hb0 rl0
          have q : (if decide (xs.length + ys.length ≤ 16777216) && keeps i E (.lst ys) then Out.nx ((frzIf (.lst ys) E ρ).set i (some (.lst (xs ++ ys.map .sh)))) else .st).go B W [i] σ H1 As D := q
          cases c : decide (xs.length + ys.length ≤ 16777216) && keeps i E (.lst ys) with
          | false => rw [c] at q; exact q.elim
          | true =>
            rw [c] at q
            obtain ⟨c1, c2⟩ := Bool.and_eq_true_iff.mp c
            obtain ⟨A1, S2, r2, k⟩ := rep_frz S1 r1
            have e3 : (frzIf (.lst ys) E ρ)[i]? = some (some (.lst xs)) := (frzIf_keep c2).trans eρ
            obtain ⟨l', vs', A', e1', eA', hl', r'⟩ := S2.list e3
            rw [e1] at e1'; cases e1'
            rw [s1 _ _ hl] at hl'; cases hl'
            refine ⟨l, b, vs, zs, rfl, rfl, s1 _ _ hl, cut_same _ _ hb0, by rw [r.len, rl0.len]; exact of_decide_eq_true c1, ?_⟩
            have nA := nodup_of S2 eA'
            have r3 : RepL B.P (cut H1 (hid B A1 [])) zs ys := by
              cases r2 with
              | lst h t =>
                have hh := cut_same _ _ h
                rw [cut_same _ _ hb0] at hh
                cases hh
                exact t
            have T := S2.relist (A' := A' ++ []) e1 eA' (by rw [List.append_nil]; exact nA) (fun a ha => .inl (by rw [List.append_nil] at ha; exact ha))
              (append_A (RepOL.hide (B := B) (σ := σ) eA' r' fun a ha => .inl (by rw [List.append_nil] at ha; exact ha)) (RepL.shs (RepL.mono (cut_mono (Same.refl _) fun a z => ?_) _ _ r3)))
            · refine q _ _ _ T ?_
              have kk := k.trans (kp_list (σ := σ) (ws := vs ++ zs) (A' := A' ++ []) eA' (by rw [s1 _ _ hl]; exact nofun) fun a ha => .inl (by rw [List.append_nil] at ha; exact ha))
              exact kk
            · rcases z with z | ⟨j, _, z⟩
              · exact .inl z
              · rcases putA_mem z with ⟨ej, z⟩ | ⟨_, z⟩
                · refine .inr ⟨i, List.not_mem_nil, ?_⟩
                  rw [eA']
                  rw [List.append_nil] at z
                  exact z
                · exact .inr ⟨j, List.not_mem_nil, z⟩
      | _ => exact q.elim
end
end DL
set_option Elab.async false
set_option linter.all false
set_option maxRecDepth 100000
namespace DL
open PySem PySem.Spec PyProof.Rows L2
/-! ### a, b = x, y, stored from the right -/
def parS (i j : Nat) (fa : En → R (List D)) : En → Out := fun ρ => (fa ρ).out ρ fun ds => match ds with
  | [d, d'] => if d.flat && d'.flat then .nx ((ρ.set i (some (.sh d))).set j (some (.sh d'))) else .st
  | _ => .st
section
variable {X : Cx} {B : Bs} {W : WX} {E : List Nat} {fa : En → R (List D)} {a b : Expr} {pos px py pt : Pos} {x y : Str}
theorem s_par (i j : Nat) {kt k2 pt2} (hc : X.calm = true) (hN : X.N.Nodup) (hi : X.N[i]? = some x) (hj : X.N[j]? = some y) (hij : i ≠ j)
    (ha : PA X [a, b] (tA B W E fa)) (hx : X.env.scope.names.lookup x = some .local := by rfl) (hy : X.env.scope.names.lookup y = some .local := by rfl)
    (hw : swappedStores [.Tuple [.Name x px, .Name y py] kt pt] (.Tuple [a, b] k2 pt2) X.env = pure (some [x, y]) := by rfl)
    (hs : swapsWithSole [.Tuple [.Name x px, .Name y py] kt pt] (.Tuple [a, b] k2 pt2) pos.line X.env = pure false := by rfl) :
    PS X (.Assign [.Tuple [.Name x px, .Name y py] kt pt] (.Tuple [a, b] k2 pt2) pos) (tS B W [i, j] (parS i j fa)) :=
  (ps_par hc hN hi hj hij hx hy ha hw hs).imp fun D σ H ⟨ρ, As, S, h⟩ => tA_out S h fun ds vs H1 s1 S1 r q => by
    split at q
    · rename_i d d'
      obtain ⟨v, w, rfl, rv, rw'⟩ := r.twoE
      split at q
      · rename_i c
        obtain ⟨c1, c2⟩ := Bool.and_eq_true_iff.mp c
        refine ⟨v, w, rfl, ?_⟩
        have S2 := S1.setSh (i := i) (rv.flat c1)
        have S3 := S2.setSh (i := j) (rw'.flat c2)
        refine q _ H1 _ S3 ?_
        have k0 : Kp [i] σ H1 As (σ.set i (some v)) H1 (putA As i []) := (Kp.refl (Same.refl _) : Kp [] σ H1 As σ H1 As).set fun _ h => nomatch h
        have k1 : Kp [j] (σ.set i (some v)) H1 (putA As i []) ((σ.set i (some v)).set j (some w)) H1 (putA (putA As i []) j []) := (Kp.refl (Same.refl _) : Kp [] (σ.set i (some v)) H1 (putA As i []) (σ.set i (some v)) H1 (putA As i [])).set fun _ h => nomatch h
        exact k0.trans k1
      · exact q.elim
    · exact q.elim
end
end DL
set_option Elab.async false
set_option linter.all false
set_option maxRecDepth 100000
namespace DL
open PySem PySem.Spec PyProof.Rows L2
/-! ### zip of two lists, of two texts, of a text and a list -/
/-- one side of a zip -/
structure ZSide (P : Program) (w : World) (K : PySem.W.Frag) (it : Addr) (fp : List Addr) (st : Nat → Heap → Prop) (go : Nat → Hp → V → Prop) (stop : Nat → Hp → Prop) : Prop where
  obj : ∀ i h, st i h → ∃ o, h.get? it = some o ∧ ∀ v, o.data ≠ .cell v
  keep : ∀ i h h', st i h → (∀ o, h.get? it = some o → h'.get? it = some o) → st i h'
  item : ∀ (X : Cx) (A : Around), A.handled = none → X.prog = P → X.w = w → X.K = K → ∀ (i : Nat) (pins : List (Addr × Obj)) (s : Shared) (σ : L2.St) (H : Hp) (v : V), Inv X pins σ H s → st i s.heap → go i H v →
    ∃ n Pr St, Draws P w A it fp n Pr St ∧ i < n ∧ St i s.heap ∧ (∀ x, Pr i x → RelV v x) ∧ ∀ h', St (i + 1) h' → st (i + 1) h'
  done : ∀ (X : Cx) (A : Around), A.handled = none → X.prog = P → X.w = w → X.K = K → ∀ (i : Nat) (pins : List (Addr × Obj)) (s : Shared) (σ : L2.St) (H : Hp), Inv X pins σ H s → st i s.heap → stop i H →
    ∃ Pr St, Draws P w A it fp i Pr St ∧ St i s.heap
  inj : ∀ (X : Cx), X.prog = P → X.w = w → X.K = K → ∀ (i : Nat) (pins : List (Addr × Obj)) (s : Shared) (σ : L2.St) (H : Hp) (v v' : V), Inv X pins σ H s → go i H v → go i H v' → v' = v
def goL (K : PySem.W.Frag) (a : Addr) (i : Nat) (H : Hp) (v : V) : Prop := ∃ xs, SqL K H a xs ∧ xs[i]? = some v
def stopL (K : PySem.W.Frag) (a : Addr) (i : Nat) (H : Hp) : Prop := ∃ xs, SqL K H a xs ∧ xs.length ≤ i
def goT (x : Str) (i : Nat) (_ : Hp) (v : V) : Prop := ∃ c, x.cps[i]? = some c ∧ v = .str ⟨#[c]⟩
def stopT (x : Str) (i : Nat) (_ : Hp) : Prop := x.cps.size ≤ i
theorem side_list {P : Program} {w : World} {K : PySem.W.Frag} {it a : Addr} (hne : a ≠ it) : ZSide P w K it [it, a] (fun i h => h.IsListIter it a i) (goL K a) (stopL K a) where
  obj := fun i h st => by
    obtain ⟨o1, e1, _, d1⟩ := st
    exact ⟨o1, e1, fun v q => by rw [d1] at q; cases q⟩
  keep := fun i h h' st k => st.at fun o q => k o q
  item := by
    intro X A hA hP hw hK i pins s σ H v I st hg
    subst hP hw hK
    obtain ⟨xs, hq, hx⟩ := hg
    obtain ⟨its, rv, p, _⟩ := I.list hq
    obtain ⟨u, hu, ru⟩ := rv.get hx
    have hu' : its.toArray[i]? = some u := by simpa using hu
    refine ⟨its.toArray.size, _, _, Draws.list hA it a hne its.toArray, ?_, ⟨st, p.isList⟩, fun x hx' => ?_, fun h' z => z.1⟩
    · exact (Array.getElem?_eq_some_iff.mp hu').1
    · have : its.toArray[i]? = some x := hx'
      rw [hu'] at this
      cases this
      exact ru
  done := by
    intro X A hA hP hw hK i pins s σ H I st hg
    subst hP hw hK
    obtain ⟨xs, hq, hx⟩ := hg
    obtain ⟨its, rv, p, _⟩ := I.list hq
    have hl := rv.length
    have hn : its.toArray[i]? = none := by simp; omega
    refine ⟨fun _ _ => True, fun j h => j = i ∧ h.IsListIter it a j ∧ h.IsList a its.toArray, ?_, ⟨rfl, st, p.isList⟩⟩
    exact {
      live := fun j h z => by obtain ⟨_, ⟨o, e, _⟩, _⟩ := z; exact ⟨o, e⟩
      frame := fun j h h' z hk => ⟨z.1, z.2.1.at fun o e => hk it (by simp) o e, z.2.2.at fun o e => hk a (by simp) o e⟩
      item := fun j s Q E hj z _ => absurd z.1 (by omega)
      done := fun s Q E z hE => wpAny_nextOf_list_end hA z.2.1 z.2.2 hn hE }
  inj := by
    intro X hP hw hK i pins s σ H v v' I h h'
    subst hP hw hK
    obtain ⟨xs, hq, hx⟩ := h
    obtain ⟨xs', hq', hx'⟩ := h'
    rw [I.list_inj hq' hq, hx] at hx'
    cases hx'
    rfl
theorem side_text {P : Program} {w : World} {K : PySem.W.Frag} {it : Addr} {x : Str} {t : Tok} : ZSide P w K it [it] (fun i h => h.IsStrIter it (strIterType x) x t i) (goT x) (stopT x) where
  obj := fun i h st => by
    obtain ⟨o, e, c, d⟩ := st
    exact ⟨o, e, fun v z => by rw [d] at z; cases z⟩
  keep := fun i h h' st k => let ⟨o, ho, r⟩ := st; ⟨o, k o ho, r⟩
  item := by
    intro X A hA hP hw hK i pins s σ H v I st hg
    subst hP hw hK
    obtain ⟨c, hc, rfl⟩ := hg
    refine ⟨x.cps.size, _, _, Draws.text hA it x t, (Array.getElem?_eq_some_iff.mp hc).1, st, fun y hy => ?_, fun h' z => z⟩
    obtain ⟨c', u, hc', rfl⟩ := hy
    rw [hc] at hc'
    cases hc'
    exact ⟨u, rfl⟩
  done := by
    intro X A hA hP hw hK i pins s σ H I st hg
    subst hP hw hK
    have hn : x.cps[i]? = none := by
      have : x.cps.size ≤ i := hg
      simp; omega
    refine ⟨fun _ _ => True, fun j h => j = i ∧ h.IsStrIter it (strIterType x) x t j, ?_, ⟨rfl, st⟩⟩
    exact {
      live := fun j h z => by obtain ⟨_, o, e, _⟩ := z; exact ⟨o, e⟩
      frame := fun j h h' z hk => ⟨z.1, let ⟨o, ho, r⟩ := z.2; ⟨o, hk it (by simp) o ho, r⟩⟩
      item := fun j s Q E hj z _ => absurd z.1 (by omega)
      done := fun s Q E z hE => by
        have z2 := z.2
        unfold strIterType at z2
        cases ha : x.cps.all (· < 128) with
        | true => rw [ha, if_pos rfl] at z2; exact wpAny_nextOf_ascii_end hA z2 hn hE
        | false => rw [ha, if_neg (by simp)] at z2; exact wpAny_nextOf_wide_end hA z2 hn hE }
  inj := by
    intro X hP hw hK i pins s σ H v v' I h h'
    obtain ⟨c, hc, rfl⟩ := h
    obtain ⟨c', hc', rfl⟩ := h'
    rw [hc] at hc'
    cases hc'
    rfl
def ItD (go1 go2 : Nat → Hp → V → Prop) (stop1 stop2 : Nat → Hp → Prop) : It :=
  ⟨fun i H => ∃ x y, go1 i H x ∧ go2 i H y,
    fun i H v H' => ∃ T x y, v = .ref T ∧ H T = none ∧ H' = upd H T (.tup [x, y]) ∧ (∀ x', go1 i H x' → x' = x) ∧ ∀ y', go2 i H y' → y' = y,
    fun i H => (stop1 i H ∧ (stop2 i H ∨ ∃ y, go2 i H y)) ∨ (stop2 i H ∧ (stop1 i H ∨ ∃ x, go1 i H x))⟩
theorem turn_zipD {P : Program} {w : World} {K : PySem.W.Frag} {elts : List Expr} {kk : Nat} {tpos : Pos} {z TI TO i1 i2 : Addr} {fp1 fp2 : List Addr} {st1 st2 : Nat → Heap → Prop} {go1 go2 : Nat → Hp → V → Prop} {stop1 stop2 : Nat → Hp → Prop}
    (S : ZipSep2 z TI TO i1 i2 fp1 fp2) (Z1 : ZSide P w K i1 fp1 st1 go1 stop1) (Z2 : ZSide P w K i2 fp2 st2 go2 stop2) :
    Turn P w K (.Tuple elts kk tpos) (ItD go1 go2 stop1 stop2) [z, TI, TO, i1, i2] z (fun i h => IsZip h z TI TO .none ∧ IsTupOf2 h TI (.ref i1) (.ref i2) ∧ (∃ x y, IsTupOf2 h TO x y) ∧ st1 i h ∧ st2 i h) where
  mem := by simp
  obj := fun i h st c hc => by
    obtain ⟨hz, hTI, ⟨x, y, hTO⟩, h1, h2⟩ := st
    have e' : c = z ∨ c = TI ∨ c = TO ∨ c = i1 ∨ c = i2 := by simpa using hc
    rcases e' with q | q | q | q | q
    · rw [q]; exact ⟨_, hz, fun v q => nomatch q⟩
    · rw [q]; exact ⟨_, hTI, fun v q => nomatch q⟩
    · rw [q]; exact ⟨_, hTO, fun v q => nomatch q⟩
    · rw [q]; exact Z1.obj _ _ h1
    · rw [q]; exact Z2.obj _ _ h2
  keep := fun i h h' st k => by
    obtain ⟨hz, hTI, ⟨x, y, hTO⟩, h1, h2⟩ := st
    exact ⟨k z (by simp) _ hz, k TI (by simp) _ hTI, ⟨x, y, k TO (by simp) _ hTO⟩, Z1.keep _ _ _ h1 fun o q => k i1 (by simp) o q, Z2.keep _ _ _ h2 fun o q => k i2 (by simp) o q⟩
  item := by
    intro X hP hw hK hc i pins s σ H E I hf st hg
    subst hP hw hK
    obtain ⟨hz, hTI, ⟨x0, y0, hTO⟩, h1, h2⟩ := st
    obtain ⟨x, y, hx, hy⟩ := hg
    have hh : X.A.in1.handled = none := I.ok.hd hc
    obtain ⟨n1, P1, St1, D1, lt1, s1, r1, k1⟩ := Z1.item X X.A.in1 hh rfl rfl rfl i pins s σ H x I h1 hx
    obtain ⟨n2, P2, St2, D2, lt2, s2, r2, k2⟩ := Z2.item X X.A.in1 hh rfl rfl rfl i pins s σ H y I h2 hy
    have hzl : z < s.heap.objs.size := Heap.lt_size hz
    have l1 : i1 < s.heap.objs.size := by obtain ⟨o, e, _⟩ := Z1.obj _ _ h1; exact Heap.lt_size e
    have l2 : i2 < s.heap.objs.size := by obtain ⟨o, e, _⟩ := Z2.obj _ _ h2; exact Heap.lt_size e
    refine wpAny_pyNext_zipD2_item S D1 D2 hz hTI hTO s1 s2 lt1 lt2 fun u u2 h' tk p1 p2 z' TO' h1' h2' hT hsz hk => ?_
    refine ⟨_, rfl, wpAny_letOwnedTupleGo_zip (s := { s with heap := h', toks := tk }) z' fun h'' z'' sb => ?_⟩
    have hT2 : h''.get? s.heap.objs.size = some { cls := .type "tuple", data := .seq #[u, u2] } := (sb.2 _ (Nat.ne_of_gt hzl)).trans hT
    have new : ObjOk X.prog X.w (upd H s.heap.objs.size (.tup [x, y])) h'' s.heap.objs.size (.tup [x, y]) :=
      ⟨by show 2 ≤ sizeLine; decide, [u, u2], .cons (r1 _ p1) (.cons (r2 _ p2) .nil), ⟨_, hT2, rfl, _, rfl⟩⟩
    have I1 : Inv X pins σ (upd H s.heap.objs.size (.tup [x, y])) { s with heap := h'', toks := tk } :=
      I.turnedNew (t' := tk) (ch := [z, TI, TO, i1, i2]) (fun c o hb q => (sb.2 c (fun q' => hb (by simp [q']))).trans (hk c o (fun q' => hb (by simp [q'])) (fun q' => hb (by simp [q'])) (fun q' => hb (by simp [q'])) (fun q' => hb (by simp [q'])) q)) hf (Nat.le_refl _) new
    refine ⟨.ref s.heap.objs.size, _, I1, rfl, ⟨_, x, y, rfl, I.hok.fresh (Nat.le_refl _), rfl, fun l hl => Z1.inj X rfl rfl rfl i pins s σ H x l I hx hl, fun l hl => Z2.inj X rfl rfl rfl i pins s σ H y l I hy hl⟩, ⟨z'', ?_, ⟨u, u2, ?_⟩, ?_, ?_⟩, fun c hcm => ?_⟩
    · exact (sb.2 _ S.TIz).trans (hk _ _ S.TIz S.TITO S.TIi1 S.TIi2 hTI)
    · exact (sb.2 _ S.TOz).trans TO'
    · exact Z1.keep _ _ _ (k1 _ h1') fun o q => (sb.2 _ (Ne.symm S.zi1)).trans q
    · exact Z2.keep _ _ _ (k2 _ h2') fun o q => (sb.2 _ (Ne.symm S.zi2)).trans q
    · have hlt : c < s.heap.objs.size := by
        have e' : c = z ∨ c = TI ∨ c = TO ∨ c = i1 ∨ c = i2 := by simpa using hcm
        rcases e' with q | q | q | q | q
        · rw [q]; exact hzl
        · rw [q]; exact Heap.lt_size hTI
        · rw [q]; exact Heap.lt_size hTO
        · rw [q]; exact l1
        · rw [q]; exact l2
      rw [upd_ne (Nat.ne_of_lt hlt)]
      exact (hf c hcm).1
  done := by
    intro X hP hw hK hc i pins s σ H E I hf st hg
    subst hP hw hK
    obtain ⟨hz, hTI, ⟨x0, y0, hTO⟩, h1, h2⟩ := st
    have hh : X.A.in1.handled = none := I.ok.hd hc
    have fin : ∀ {n1 n2 : Nat} {P1 P2 : Nat → Value → Prop} {St1 St2 : Nat → Heap → Prop}, Draws X.prog X.w X.A.in1 i1 fp1 n1 P1 St1 → Draws X.prog X.w X.A.in1 i2 fp2 n2 P2 St2 → St1 i s.heap → St2 i s.heap → i ≤ n1 → i ≤ n2 → (i = n1 ∨ i = n2) →
        wpAny (model X.prog X.w) X.A (pyNext (.ref z)) (fun r s1 => r = none ∧ Inv X pins σ H s1) E s := fun D1 D2 s1 s2 a b c =>
      wpAny_pyNext_zipD2_end S D1 D2 hz hTI hTO s1 s2 a b c fun h' tk hk => ⟨rfl, I.turnedL (t' := tk) (ch := [z, TI, TO, i1, i2]) (fun c o hb q =>
        hk c o (fun q' => hb (by simp [q'])) (fun q' => hb (by simp [q'])) (fun q' => hb (by simp [q'])) (fun q' => hb (by simp [q'])) q) hf⟩
    rcases hg with ⟨a, b | ⟨y, b⟩⟩ | ⟨b, a | ⟨x, a⟩⟩
    · obtain ⟨P1, St1, D1, s1⟩ := Z1.done X X.A.in1 hh rfl rfl rfl i pins s σ H I h1 a
      obtain ⟨P2, St2, D2, s2⟩ := Z2.done X X.A.in1 hh rfl rfl rfl i pins s σ H I h2 b
      exact fin D1 D2 s1 s2 (Nat.le_refl _) (Nat.le_refl _) (.inl rfl)
    · obtain ⟨P1, St1, D1, s1⟩ := Z1.done X X.A.in1 hh rfl rfl rfl i pins s σ H I h1 a
      obtain ⟨n2, P2, St2, D2, lt2, s2, _, _⟩ := Z2.item X X.A.in1 hh rfl rfl rfl i pins s σ H y I h2 b
      exact fin D1 D2 s1 s2 (Nat.le_refl _) (Nat.le_of_lt lt2) (.inl rfl)
    · obtain ⟨P1, St1, D1, s1⟩ := Z1.done X X.A.in1 hh rfl rfl rfl i pins s σ H I h1 a
      obtain ⟨P2, St2, D2, s2⟩ := Z2.done X X.A.in1 hh rfl rfl rfl i pins s σ H I h2 b
      exact fin D1 D2 s1 s2 (Nat.le_refl _) (Nat.le_refl _) (.inl rfl)
    · obtain ⟨P2, St2, D2, s2⟩ := Z2.done X X.A.in1 hh rfl rfl rfl i pins s σ H I h2 b
      obtain ⟨n1, P1, St1, D1, lt1, s1, _, _⟩ := Z1.item X X.A.in1 hh rfl rfl rfl i pins s σ H x I h1 a
      exact fin D1 D2 s1 s2 (Nat.le_of_lt lt1) (Nat.le_refl _) (.inr rfl)
  self := fun A i s Q E st h => wpAny_pyIter_zip st.1 h
end DL
set_option Elab.async false
set_option linter.all false
set_option maxRecDepth 100000
namespace DL
open PySem PySem.Spec PyProof.Rows L2
def iZipD (K : PySem.W.Frag) (ta : TA) : TI := fun σ H R => ta σ H fun vs H1 =>
  (∃ x y, vs = [.str x, .str y] ∧ R (ItD (goT x) (goT y) (stopT x) (stopT y)) H1) ∨
  (∃ x b ys, vs = [.str x, .ref b] ∧ SqL K H1 b ys ∧ R (ItD (goT x) (goL K b) (stopT x) (stopL K b)) H1) ∨
  (∃ a b xs ys, vs = [.ref a, .ref b] ∧ SqL K H1 a xs ∧ SqL K H1 b ys ∧ R (Itz K a b) H1)
theorem pi_zipD {X : Cx} {e e2 : Expr} {ta : TA} {p pos tpos : Pos} {elts : List Expr} {kk : Nat} (hg : Gl X "zip") (hm : X.mg "zip" = none) (ha : PA X [e, e2] ta)
    (hs : starEach [e, e2] X.env = (false, eval e X.env) :: starEach [e2] X.env := by rfl) (hpl : (backTo pos (starEach [e2] X.env)).any (·.1) = false := by rfl) :
    PI X (.Tuple elts kk tpos) (.Call (.Name "zip" p) [e, e2] [] pos) (iZipD X.K ta) := by
  refine ⟨fun pins s σ H R I h => ?_⟩
  refine Call_ (ld_blt I hg hm PyProof.Rows.boot_zip (PyProof.Rows.callWith_type1 (thn (ha.run pos pins s σ H _ I h) fun us s1 ⟨vs, H1, I1, r1, q1⟩ => ?_) hs hpl))
  have fresh5 : ∀ c, c ∈ [s1.heap.objs.size + 4, s1.heap.objs.size + 2, s1.heap.objs.size + 3, s1.heap.objs.size, s1.heap.objs.size + 1] → FpOk X pins H1 c := fun c hcm => by
    have e' : c = s1.heap.objs.size + 4 ∨ c = s1.heap.objs.size + 2 ∨ c = s1.heap.objs.size + 3 ∨ c = s1.heap.objs.size ∨ c = s1.heap.objs.size + 1 := by simpa using hcm
    have hle : s1.heap.objs.size ≤ c := by
      rcases e' with z | z | z | z | z
      · rw [z]; exact Nat.le_add_right _ _
      · rw [z]; exact Nat.le_add_right _ _
      · rw [z]; exact Nat.le_add_right _ _
      · rw [z]; exact Nat.le_refl _
      · rw [z]; exact Nat.le_add_right _ _
    exact I1.fpOk hle (I1.hok.fresh hle)
  rcases q1 with ⟨x, y, ex, q⟩ | ⟨x, b, ys, ex, hqy, q⟩ | ⟨a, b, xs, ys, ex, hqx, hqy, q⟩
  · subst ex
    obtain ⟨u1, u2, rfl, ru1, ru2⟩ := r1.two
    obtain ⟨t1, rfl⟩ := ru1
    obtain ⟨t2, rfl⟩ := ru2
    refine zip_begins2 (begins_text x t1) (begins_text y t2) trivial trivial fun h' hz hTI hTO g1 g2 hsz hk => wpAny_pyIter_zip hz ?_
    have I2 : Inv X pins σ H1 { s1 with heap := h' } := I1.kept (t' := s1.toks) hk
    exact ⟨s1.heap.objs.size + 4, [s1.heap.objs.size + 4, s1.heap.objs.size + 2, s1.heap.objs.size + 3, s1.heap.objs.size, s1.heap.objs.size + 1], _, _, H1, rfl, I2, turn_zipD (zip_sep2 (fp1 := []) (fp2 := []) (fun _ h => nomatch h) (fun _ h => nomatch h)) (side_text (t := t1)) (side_text (t := t2)), ⟨hz, hTI, ⟨_, _, hTO⟩, ⟨_, g1, rfl, rfl⟩, ⟨_, g2, rfl, rfl⟩⟩, fresh5, q⟩
  · subst ex
    obtain ⟨u1, u2, rfl, ru1, ru2⟩ := r1.two
    obtain ⟨t1, rfl⟩ := ru1
    cases ru2
    obtain ⟨its2, rv2, p2, _⟩ := I1.list hqy
    refine zip_begins2 (begins_text x t1) (begins_list b its2.toArray) trivial p2.isList fun h' hz hTI hTO g1 g2 hsz hk => wpAny_pyIter_zip hz ?_
    have I2 : Inv X pins σ H1 { s1 with heap := h' } := I1.kept (t' := s1.toks) hk
    exact ⟨s1.heap.objs.size + 4, [s1.heap.objs.size + 4, s1.heap.objs.size + 2, s1.heap.objs.size + 3, s1.heap.objs.size, s1.heap.objs.size + 1], _, _, H1, rfl, I2, turn_zipD (zip_sep2 (fp1 := []) (fp2 := [b]) (fun _ h => nomatch h) (fun c h => by rw [List.mem_singleton.mp h]; exact p2.lt)) (side_text (t := t1)) (side_list (show b ≠ s1.heap.objs.size + 1 from fun z => by have : b < s1.heap.objs.size := p2.lt; rw [z] at this; exact absurd this (by show ¬ (s1.heap.objs.size + 1 : Nat) < s1.heap.objs.size; omega))), ⟨hz, hTI, ⟨_, _, hTO⟩, ⟨_, g1, rfl, rfl⟩, ⟨_, g2, rfl, rfl⟩⟩, fresh5, q⟩
  · subst ex
    obtain ⟨u1, u2, rfl, ru1, ru2⟩ := r1.two
    cases ru1
    cases ru2
    obtain ⟨its, rv, p1, _⟩ := I1.list hqx
    obtain ⟨its2, rv2, p2, _⟩ := I1.list hqy
    refine call_zip_2 p1.isList p2.isList fun h' hz hTI hTO h1 h2 hsz hk => wpAny_pyIter_zip hz ?_
    have I2 : Inv X pins σ H1 { s1 with heap := h' } := I1.kept (t' := s1.toks) hk
    exact ⟨s1.heap.objs.size + 4, [s1.heap.objs.size + 4, s1.heap.objs.size + 2, s1.heap.objs.size + 3, s1.heap.objs.size, s1.heap.objs.size + 1], _, _, H1, rfl, I2, turn_zip (PySem.W.ktu_apart s1.heap.objs.size a b p1.lt p2.lt), ⟨hz, hTI, ⟨_, _, hTO⟩, h1, h2⟩, fresh5, q⟩
/-- what a side gives, as data -/
structure SideD (P : Wd) (G : Hp) (go : Nat → Hp → V → Prop) (stop : Nat → Hp → Prop) (ds : List D) : Prop where
  go : ∀ i d, ds[i]? = some d → ∃ v, Rep P G v d ∧ ∀ H, Same G H → go i H v
  stop : ∀ i H, Same G H → ds.length ≤ i → stop i H
theorem sideD_list {P : Wd} {G : Hp} {a : Addr} {vs : List V} {ds : List D} (ha : Rd G a (.lst vs)) (r : RepL P G vs ds) : SideD P G (goL P.K a) (stopL P.K a) ds where
  go := fun i d e => by
    obtain ⟨v, e1, rv⟩ := r.getD e
    exact ⟨v, rv, fun H s => ⟨vs, .inl (Rd.same s ha), e1⟩⟩
  stop := fun i H s h => ⟨vs, .inl (Rd.same s ha), by rw [r.len]; exact h⟩
theorem sideD_text {P : Wd} {G : Hp} {x : Str} {cs : List Nat} (hx : x.cps.toList = cs) : SideD P G (goT x) (stopT x) (cs.map fun c => .str [c]) where
  go := fun i d e => by
    rw [List.getElem?_map] at e
    cases e1 : cs[i]? with
    | none => rw [e1] at e; cases e
    | some c =>
      rw [e1] at e
      cases e
      refine ⟨.str ⟨#[c]⟩, rep_of rfl, fun H s => ⟨c, ?_, rfl⟩⟩
      rw [← Array.getElem?_toList, hx, e1]
  stop := fun i H s h => by
    rw [List.length_map] at h
    show x.cps.size ≤ i
    rw [← Array.length_toList, hx]; exact h
theorem walks_zipD {P : Wd} {G : Hp} {go1 go2 : Nat → Hp → V → Prop} {stop1 stop2 : Nat → Hp → Prop} {ds es : List D} (A : SideD P G go1 stop1 ds) (B : SideD P G go2 stop2 es) :
    Walks P G G (ItD go1 go2 stop1 stop2) (List.zipWith (fun a b => D.tup [a, b]) ds es) where
  go := fun i H' s h => by
    rw [List.length_zipWith] at h
    obtain ⟨v, _, e⟩ := A.go i _ (List.getElem?_eq_getElem (show i < ds.length by omega))
    obtain ⟨w, _, e'⟩ := B.go i _ (List.getElem?_eq_getElem (show i < es.length by omega))
    exact ⟨v, w, e _ s, e' _ s⟩
  stop := fun i H' s h => by
    rw [List.length_zipWith] at h
    by_cases h1 : ds.length ≤ i
    · by_cases h2 : es.length ≤ i
      · exact .inl ⟨A.stop i _ s h1, .inl (B.stop i _ s h2)⟩
      · obtain ⟨w, _, e'⟩ := B.go i _ (List.getElem?_eq_getElem (show i < es.length by omega))
        exact .inl ⟨A.stop i _ s h1, .inr ⟨w, e' _ s⟩⟩
    · obtain ⟨v, _, e⟩ := A.go i _ (List.getElem?_eq_getElem (show i < ds.length by omega))
      exact .inr ⟨B.stop i _ s (by omega), .inr ⟨v, e _ s⟩⟩
  yld := fun i H' x H2 d s y e => by
    obtain ⟨T, u, w, rfl, hT, rfl, y1, y2⟩ := y
    rw [List.getElem?_zipWith] at e
    cases e1 : ds[i]? with
    | none => rw [e1] at e; cases e
    | some da =>
      cases e2 : es[i]? with
      | none => rw [e1, e2] at e; cases e
      | some db =>
        rw [e1, e2] at e
        cases e
        obtain ⟨v1, q1, f1⟩ := A.go i _ e1
        obtain ⟨v2, q2, f2⟩ := B.go i _ e2
        have := y1 v1 (f1 _ s)
        subst this
        have := y2 v2 (f2 _ s)
        subst this
        have gT : G T = none := by
          cases c : G T with
          | none => rfl
          | some o => rw [s T o c] at hT; cases hT
        have sg : Same G (upd G T (.tup [v1, v2])) := fun b o e => by rw [upd_ne (ne_of_none e gT)]; exact e
        refine ⟨fun b o e => by rw [upd_ne (ne_of_none e hT)]; exact e, upd G T (.tup [v1, v2]), sg, ?_, ?_, .tup (.inl (.inl (by rw [upd_same]))) (.cons (q1.up sg) (.cons (q2.up sg) .nil))⟩
        · intro c o hc
          by_cases z : c = T
          · subst z; rw [upd_same] at hc ⊢; exact hc
          · rw [upd_ne z] at hc ⊢; exact s c o hc
        · intro c o hc
          by_cases z : c = T
          · subst z; exact .inr hT
          · rw [upd_ne z] at hc; exact .inl hc
def zipV : List D → R (List D)
  | [.lst xs, .lst ys] => .ok (List.zipWith (fun a b => .tup [a, b]) xs ys)
  | [.str s, .str t] => .ok (List.zipWith (fun a b => .tup [a, b]) (s.map fun c => .str [c]) (t.map fun c => .str [c]))
  | [.str s, .lst ys] => .ok (List.zipWith (fun a b => .tup [a, b]) (s.map fun c => .str [c]) ys)
  | _ => .st
def zpV (fa : En → R (List D)) : En → R (List D) := fun ρ => (fa ρ).bind zipV
section
variable {X : Cx} {B : Bs} {W : WX} {E : List Nat} {fa : En → R (List D)} {e1 e2 : Expr} {p pos tpos : Pos} {elts : List Expr} {kk : Nat}
theorem i_zipV (hK : B.P.K = X.K) (gl : Gl X "zip") (hm : X.mg "zip" = none) (ha : PA X [e1, e2] (tA B W E fa))
    (hs : starEach [e1, e2] X.env = (false, eval e1 X.env) :: starEach [e2] X.env := by rfl) (hpl : (backTo pos (starEach [e2] X.env)).any (·.1) = false := by rfl) :
    PI X (.Tuple elts kk tpos) (.Call (.Name "zip" p) [e1, e2] [] pos) (tI B W E E (zpV fa)) :=
  (pi_zipD gl hm ha hs hpl).imp fun σ H Q ⟨ρ, As, S, q⟩ => tA_bind S q fun ds vs H1 s1 S1 r1 q1 => by
    unfold zipV at q1
    split at q1
    · obtain ⟨v, w, rfl, rv, rw'⟩ := r1.twoE
      cases rv with
      | lst h1 l1 =>
        cases rw' with
        | lst h2 l2 =>
          refine .inr (.inr ⟨_, _, _, _, rfl, .inl (Rd.same cut_same (.inl h1)), .inl (Rd.same cut_same (.inl h2)), ?_⟩)
          exact q1 (Itz X.K _ _) H1 s1 (by rw [← hK]; exact walks_zip (.inl h1) (.inl h2) l1 l2)
    · obtain ⟨v, w, rfl, rv, rw'⟩ := r1.twoE
      cases rv with
      | str x =>
        cases rw' with
        | str y => exact .inl ⟨x, y, rfl, q1 _ H1 s1 (walks_zipD (sideD_text rfl) (sideD_text rfl))⟩
    · obtain ⟨v, w, rfl, rv, rw'⟩ := r1.twoE
      cases rv with
      | str x =>
        cases rw' with
        | lst h2 l2 =>
          refine .inr (.inl ⟨x, _, _, rfl, .inl (Rd.same cut_same (.inl h2)), ?_⟩)
          exact q1 _ H1 s1 (by rw [← hK]; exact walks_zipD (sideD_text rfl) (sideD_list (.inl h2) l2))
    · exact q1.elim
end
end DL
set_option Elab.async false
set_option linter.all false
set_option maxRecDepth 100000
namespace DL
open PySem PySem.Spec PyProof.Rows L2
/-! ### {"a": x, ..}[k] -/
def dspE (ks : List (List Nat)) (fa : En → R (List D)) (g : En → R D) : En → R D := fun ρ => (fa ρ).bind fun ds => if ds.all D.flat then (g ρ).bind fun d => match d with
  | .str w => R.ofO ((ks.zip ds).lookup w)
  | _ => .st
  else .st
def noH : Hp := fun _ => none
theorem RepL.flat {P P' : Wd} {G G' : Hp} : ∀ {vs : List V} {ds : List D}, RepL P G vs ds → ds.all D.flat = true → RepL P' G' vs ds
  | _, _, .nil, _ => .nil
  | _, _, .cons h t, f => by
    rw [List.all_cons, Bool.and_eq_true] at f
    exact .cons (h.flat f.1) (RepL.flat t f.2)
structure PDs (X : Cx) (pos : Pos) (keys : List (Option Expr)) (values : List Expr) (B : Bs) (W : WX) (ks : List Str) (fa : En → R (List D)) : Prop where
  ex : ∃ trs, PPs X pos keys values trs ∧ ∀ (σ : L2.St) (H : Hp) (ρ : En) (As : Ow) (Q : List (V × V) → Hp → Prop), Sta B σ H ρ As →
    (fa ρ).go (fun ds => ds.all D.flat = true ∧ ∀ vs H', Same H H' → RepL B.P noH vs ds → Q ((ks.map V.str).zip vs) H') (Exk B W σ H) → tPairs trs σ H Q
  len : keys.length = values.length
  some : keys.all (·.isSome) = true
section
variable {X : Cx} {B : Bs} {W : WX} {E : List Nat} {fa : En → R (List D)} {f g : En → R D} {e v : Expr} {p pos p1 : Pos} {keys : List (Option Expr)} {values : List Expr} {ks : List Str}
theorem pd_nil : PDs X pos [] [] B W [] aNil where
  ex := ⟨[], pps_nil, fun σ H ρ As Q S h => h.2 [] H (Same.refl _) .nil⟩
  len := rfl
  some := rfl
theorem pd_cons {x : Str} {j} (h : PE X v (tD B W E f)) (hr : PDs X pos keys values B W ks fa) : PDs X pos (some (.Constant (.str x) j p) :: keys) (v :: values) B W (x :: ks) (aCons f fa) where
  ex := by
    obtain ⟨trs, hp, hq⟩ := hr.ex
    refine ⟨(tC (.str x), tD B W E f) :: trs, pps_cons pe_str h hp, fun σ H ρ As Q S q => ?_⟩
    show tD B W E f σ H fun y H2 => tPairs trs σ H2 fun ps H3 => Q ((V.str x, y) :: ps) H3
    unfold aCons at q
    refine ⟨ρ, As, S, ?_⟩
    cases e1 : f ρ with
    | st => rw [e1] at q; exact q.elim
    | ex c fs => rw [e1] at q; exact q
    | ok d =>
      rw [e1, R.bind_ok] at q
      intro y H1 s1 r1
      refine hq σ H1 ρ As _ (S.same s1) ?_
      cases e2 : fa ρ with
      | st => rw [e2] at q; exact q.elim
      | ex c fs => rw [e2] at q; exact Exk.same q s1
      | ok ds =>
        rw [e2, R.bind_ok] at q
        obtain ⟨q1, q2⟩ := q
        rw [List.all_cons, Bool.and_eq_true] at q1
        refine ⟨q1.2, fun vs H' s2 rl => ?_⟩
        exact q2 (y :: vs) H' (s1.trans s2) (.cons (r1.flat q1.1) rl)
  len := by rw [List.length_cons, List.length_cons, hr.len]
  some := by rw [List.all_cons, hr.some]; rfl
theorem mergeK_app : ∀ (kvs acc : List (Key × V)), (∀ kv ∈ kvs, ∀ a ∈ acc, a.1 ≠ kv.1) → kvs.Pairwise (fun a b => a.1 ≠ b.1) → mergeK acc kvs = acc ++ kvs
  | [], acc, _, _ => by unfold mergeK; simp
  | kv :: kvs, acc, h, hp => by
    have hn : (acc.any fun a => decide (a.1 = kv.1)) = false := by
      rw [List.any_eq_false]
      intro a ha
      simpa using h kv List.mem_cons_self a ha
    have e : putK acc kv.1 kv.2 = acc ++ [kv] := by unfold putK; rw [hn]; rfl
    show mergeK (putK acc kv.1 kv.2) kvs = _
    rw [List.pairwise_cons] at hp
    rw [e, mergeK_app kvs _ ?_ hp.2, List.append_assoc]; rfl
    intro kv' hk a ha
    rcases List.mem_append.mp ha with ha | ha
    · exact h kv' (List.mem_cons_of_mem _ hk) a ha
    · rw [List.mem_singleton.mp ha]; exact hp.1 kv' hk
theorem str_ext {x y : Str} (h : x.cps.toList = y.cps.toList) : x = y := by
  cases x; cases y
  congr 1
  exact Array.toList_inj.mp h
theorem look_ok {P : Wd} {z : Str} : ∀ {ks : List Str} {vs : List V} {ds : List D} {d : D}, RepL P noH vs ds → ((ks.map fun k => k.cps.toList).zip ds).lookup z.cps.toList = some d → ∃ v, valV ((ks.zip vs).map fun kv => ((Sum.inr kv.1 : Key), kv.2)) (.inr z) = some v ∧ Rep P noH v d
  | [], _, _, _, _, h => by cases h
  | k :: ks, _, [], _, _, h => by cases h
  | k :: ks, _, d0 :: ds, d, .cons (v := v) (vs := vs) r rs, h => by
    rw [List.map_cons, List.zip_cons_cons, List.lookup_cons] at h
    rw [List.zip_cons_cons, List.map_cons]
    by_cases e : z = k
    · subst e
      rw [show (z.cps.toList == z.cps.toList) = true from by simp] at h
      cases h
      exact ⟨v, valV_pos rfl, r⟩
    · have ne : (z.cps.toList == k.cps.toList) = false := by
        rw [beq_eq_false_iff_ne]
        exact fun q => e (str_ext q)
      rw [ne] at h
      obtain ⟨v', e1, r1⟩ := look_ok rs h
      exact ⟨v', by rw [valV_neg (show ¬ (Sum.inr k : Key) = .inr z from fun q => by cases q; exact e rfl), e1], r1⟩
theorem pw_zip : ∀ (ks : List Str) (vs : List V), ks.Pairwise (· ≠ ·) → ((ks.zip vs).map fun kv => ((Sum.inr kv.1 : Key), kv.2)).Pairwise fun a b => a.1 ≠ b.1
  | [], _, _ => List.Pairwise.nil
  | _ :: _, [], _ => List.Pairwise.nil
  | k :: ks, v :: vs, h => by
    rw [List.pairwise_cons] at h
    rw [List.zip_cons_cons, List.map_cons, List.pairwise_cons]
    refine ⟨fun a ha => ?_, pw_zip ks vs h.2⟩
    obtain ⟨kv, hk, rfl⟩ := List.mem_map.mp ha
    have := h.1 kv.1 (List.of_mem_zip hk).1
    intro q
    cases q
    exact this rfl
theorem flat_look {ks : List (List Nat)} {ds : List D} {w : List Nat} {d : D} (h : ds.all D.flat = true) (e : (ks.zip ds).lookup w = some d) : d.flat = true := by
  have : d ∈ ds := by
    induction ks generalizing ds with
    | nil => cases e
    | cons k ks ih =>
      cases ds with
      | nil => cases e
      | cons d0 ds =>
        rw [List.zip_cons_cons, List.lookup_cons] at e
        rw [List.all_cons, Bool.and_eq_true] at h
        split at e
        · cases e; exact List.mem_cons_self
        · exact List.mem_cons_of_mem _ (ih h.2 e)
  exact List.all_eq_true.mp h d this
theorem d_dsp (hu : X.A.units + 64 < cLine) (hd : PDs X p1 keys values B W ks fa) (h : PE X e (tD B W E g)) (hs : NoSl e := by intro ov iv; rfl) (h0 : keys ≠ [] := by simp) (h15 : keys.length ≤ 15 := by simp) (hk : ks.length ≤ 15 := by simp) (hp : ks.Pairwise (· ≠ ·) := by decide) (ks' : List (List Nat) := ks.map fun k => k.cps.toList) (hks : ks' = ks.map fun k => k.cps.toList := by rfl) :
    PE X (.Subscript (.Dict keys values p1) e pos) (tD B W [] (dspE ks' fa g)) := by
  subst hks
  obtain ⟨trs, hpp, hq⟩ := hd.ex
  refine (pe_dget (by omega) (pe_disp hpp hd.some hd.len h0 h15) h hs).imp fun σ H Q ⟨ρ, As, S, q⟩ => ?_
  intro a ha
  have sa : Same H (upd H a (.dK [])) := fun b o e => by rw [upd_ne (ne_of_none e ha)]; exact e
  refine hq σ _ ρ As _ (S.same sa) ?_
  unfold dspE at q
  cases e1 : fa ρ with
  | st => rw [e1] at q; exact q.elim
  | ex c fs => rw [e1] at q; exact Exk.same q sa
  | ok ds =>
    rw [e1, R.bind_ok] at q
    cases hfl : ds.all D.flat with
    | false => rw [hfl] at q; exact q.elim
    | true =>
      rw [hfl, if_pos rfl] at q
      refine ⟨hfl, fun vs H2 s2 rl => ⟨s2 a _ upd_same, (ks.zip vs).map fun kv => ((Sum.inr kv.1 : Key), kv.2), ?_, ?_, ?_⟩⟩
      · rw [List.map_map, List.zip_map_left]; rfl
      · rw [List.length_map, List.length_zip]; omega
      · have em : mergeK [] ((ks.zip vs).map fun kv => ((Sum.inr kv.1 : Key), kv.2)) = (ks.zip vs).map fun kv => ((Sum.inr kv.1 : Key), kv.2) := mergeK_app _ [] (fun _ _ _ h => nomatch h) (pw_zip ks vs hp)
        rw [em]
        have s3 : Same H (upd H2 a (.dK ((ks.zip vs).map fun kv => ((Sum.inr kv.1 : Key), kv.2)))) := fun b o e => by
          rw [upd_ne (ne_of_none e ha)]
          exact s2 b o (sa b o e)
        refine ⟨ρ, As, S.same s3, ?_⟩
        cases e2 : g ρ with
        | st => rw [e2] at q; exact q.elim
        | ex c fs => rw [e2] at q; exact Exk.same q s3
        | ok d =>
          rw [e2, R.bind_ok] at q
          intro y H4 s4 ry
          cases d with
          | str w =>
            cases el : ((ks.map fun k => k.cps.toList).zip ds).lookup w with
            | none => simp only at q; rw [el] at q; exact q.elim
            | some d =>
              simp only at q
              rw [el] at q
              cases ry with
              | str z =>
                obtain ⟨v, ev, rv⟩ := look_ok rl el
                have fd : d.flat = true := flat_look hfl el
                refine ⟨a, v, rfl, ?_, q v H4 (s3.trans s4) (rv.flat fd)⟩
                rw [← ev]
                exact DGet.k (k := .inr z) (s4 a _ upd_same)
          | _ => exact q.elim
end
end DL
set_option Elab.async false
set_option linter.all false
set_option maxRecDepth 100000
namespace DL
open PySem PySem.Spec PyProof.Rows L2
/-! ### shifts and bits of ints -/
def shlOk (i j : Int) : Bool := decide (0 ≤ j) && (decide (j ≤ 1000000) && decide (i.natAbs < 18446744073709551616))
theorem shlOk_pow {i j : Int} (h : shlOk i j = true) : CPow i j := by
  unfold shlOk at h
  simp only [Bool.and_eq_true, decide_eq_true_eq] at h
  exact ⟨h.1, h.2.1, h.2.2⟩
def dIC (c : Int → Int → Bool) (f : Int → Int → Int) : D → D → Option D
  | .int i, .int j => if c i j then some (.int (f i j)) else none
  | _, _ => none
theorem ad_ic {P : Wd} {C : Int → Int → Prop} {c : Int → Int → Bool} {f : Int → Int → Int} (hc : ∀ i j, c i j = true → C i j) : Ad2 P (rI C fun i j => .int (f i j)) (dIC c f) := fun p H x y a b d Q hp r1 r2 e q => by
  unfold dIC at e
  split at e
  · cases r1; cases r2
    split at e
    · rename_i h
      cases e
      exact ⟨_, _, rfl, rfl, hc _ _ h, q _ _ (Same.refl _) (.int _)⟩
    · cases e
  · cases e
theorem ad_i0 {P : Wd} {f : Int → Int → Int} : Ad2 P (rI0 fun i j => .int (f i j)) (dIC (fun _ _ => true) f) := fun p H x y a b d Q hp r1 r2 e q => by
  unfold dIC at e
  split at e
  · cases r1; cases r2
    rw [if_pos rfl] at e
    cases e
    exact ⟨_, _, rfl, rfl, q _ _ (Same.refl _) (.int _)⟩
  · cases e
theorem fl_ic {c : Int → Int → Bool} {f : Int → Int → Int} : Flat2 (dIC c f) := fun a b d e => by
  unfold dIC at e
  split at e
  · split at e
    · cases e; rfl
    · cases e
  · cases e
def dShl := dIC shlOk fun i j => i * 2 ^ j.toNat
def dShr := dIC (fun _ j => decide (0 ≤ j)) fun i j => i / 2 ^ j.toNat
def dAnd := dIC (fun _ _ => true) Builtin.bitAnd
def dOrB := dIC (fun _ _ => true) Builtin.bitOr
def dXor := dIC (fun _ _ => true) Builtin.bitXor
/-- x op= e, of a name, with ints or texts -/
def augW (i : Nat) (g : D → D → Option D) (E : List Nat) (f : En → R D) : En → Out := fun ρ => (var i ρ).out ρ fun a => (f ρ).out ρ fun b => match g a b with
  | some d => if d.flat then .nx (ρ.set i (some (.sh d))) else .st
  | none => .st
section
variable {X : Cx} {B : Bs} {W : WX} {E E1 E2 : List Nat} {f f1 f2 : En → R D} {e e1 e2 : Expr} {pos p' : Pos} {x : Str}
theorem d_shl (h1 : PE X e1 (tD B W E1 f1)) (h2 : PE X e2 (tD B W E2 f2)) : PE X (.BinOp e1 .LShift e2 pos) (tD B W [] (op2 dShl f1 f2)) := d_opF op_shl (ad_ic fun _ _ h => shlOk_pow h) fl_ic h1 h2
theorem d_shr (h1 : PE X e1 (tD B W E1 f1)) (h2 : PE X e2 (tD B W E2 f2)) : PE X (.BinOp e1 .RShift e2 pos) (tD B W [] (op2 dShr f1 f2)) := d_opF op_shr (ad_ic fun _ _ h => of_decide_eq_true h) fl_ic h1 h2
theorem d_band (h1 : PE X e1 (tD B W E1 f1)) (h2 : PE X e2 (tD B W E2 f2)) : PE X (.BinOp e1 .BitAnd e2 pos) (tD B W [] (op2 dAnd f1 f2)) := d_opF op_and ad_i0 fl_ic h1 h2
theorem d_bor (h1 : PE X e1 (tD B W E1 f1)) (h2 : PE X e2 (tD B W E2 f2)) : PE X (.BinOp e1 .BitOr e2 pos) (tD B W [] (op2 dOrB f1 f2)) := d_opF op_or ad_i0 fl_ic h1 h2
theorem d_xor (h1 : PE X e1 (tD B W E1 f1)) (h2 : PE X e2 (tD B W E2 f2)) : PE X (.BinOp e1 .BitXor e2 pos) (tD B W [] (op2 dXor f1 f2)) := d_opF op_xor ad_i0 fl_ic h1 h2
theorem s_augW (i : Nat) {op : Operator} {r : TIp} {g : D → D → Option D} (ho : PIp X op r) (hg : Ad2 B.P r g) (hN : X.N.Nodup) (hi : X.N[i]? = some x) (hx : Loc X.env.scope x) (h : PE X e (tD B W E f)) (hf : X.fn x = true ∨ X.env.scope.names.lookup x = some .local := by first | exact .inl rfl | exact .inr rfl | assumption) :
    PS X (.AugAssign (.Name x p') op e pos) (tS B W [i] (augW i g E f)) :=
  (ps_aug hN hi hx h ho hf).imp fun D σ H ⟨ρ, As, S, q⟩ => by
    unfold augW var at q
    cases ei : ρ[i]? with
    | none => rw [ei] at q; exact q.elim
    | some o =>
      cases o with
      | none => rw [ei] at q; exact q.elim
      | some od =>
        rw [ei] at q
        have q : ((f ρ).out ρ fun b => match g od.er b with
          | some d => if d.flat then Out.nx (ρ.set i (some (.sh d))) else .st
          | none => .st).go B W [i] σ H As D := q
        obtain ⟨v, ev, rv⟩ := S.pt i od ei
        refine ⟨v, ev, tD_out S q fun b u H1 s1 S1 r1 q1 => ?_⟩
        obtain ⟨v1, ev1, rv1⟩ := S1.pt i od ei
        rw [ev] at ev1
        cases ev1
        cases eg : g od.er b with
        | none => rw [eg] at q1; exact q1.elim
        | some d =>
          rw [eg] at q1
          have q1 : (if d.flat then Out.nx (ρ.set i (some (.sh d))) else .st).go B W [i] σ H1 As D := q1
          cases fd : d.flat with
          | false => rw [fd] at q1; exact q1.elim
          | true =>
            rw [fd, if_pos rfl] at q1
            refine hg (hid B As (i :: E)) H1 v u od.er b d _ S1.hth ?_ (r1.up (cut_mono (Same.refl _) (hid_mono fun j hj => List.mem_cons_of_mem _ hj))) eg fun w H2 s2 rw2 => ?_
            · refine RepO.rep (cut_mono (Same.refl _) (hid_mono fun j hj => absurd hj List.not_mem_nil)) _ _ _ rv1 fun a ha o eo => cut_of ?_ eo
              rintro (z | ⟨j, hj, z⟩)
              · exact S1.no i a ha z
              · have := S1.dj i j a ha z
                exact hj (by rw [this]; exact List.mem_cons_self)
            · exact q1 _ H2 _ ((S1.same s2).setSh (rw2.flat fd)) (((Kp.refl s2 : Kp [] σ H1 As σ H2 As).trans ((Kp.refl (Same.refl _) : Kp [] σ H2 As σ H2 As).set (i := i) (v := w) (A := []) fun _ h => nomatch h)))
theorem s_augAdd (i : Nat) (hN : X.N.Nodup) (hi : X.N[i]? = some x) (hx : Loc X.env.scope x) (h : PE X e (tD B W E f)) (hf : X.fn x = true ∨ X.env.scope.names.lookup x = some .local := by first | exact .inl rfl | exact .inr rfl | assumption) : PS X (.AugAssign (.Name x p') .Add e pos) (tS B W [i] (augW i (dIC (fun _ _ => true) (· + ·)) E f)) := s_augW i iop_add ad_i0 hN hi hx h hf
theorem s_augSub (i : Nat) (hN : X.N.Nodup) (hi : X.N[i]? = some x) (hx : Loc X.env.scope x) (h : PE X e (tD B W E f)) (hf : X.fn x = true ∨ X.env.scope.names.lookup x = some .local := by first | exact .inl rfl | exact .inr rfl | assumption) : PS X (.AugAssign (.Name x p') .Sub e pos) (tS B W [i] (augW i (dIC (fun _ _ => true) (· - ·)) E f)) := s_augW i iop_sub ad_i0 hN hi hx h hf
end
end DL
set_option Elab.async false
set_option linter.all false
set_option maxRecDepth 100000
namespace DL
open PySem PySem.Spec PyProof.Rows L2
/-! ### sorted, of ints -/
def insI (x : Int) : List Int → List Int
  | [] => [x]
  | y :: ys => if x ≤ y then x :: y :: ys else y :: insI x ys
def sortI : List Int → List Int
  | [] => []
  | x :: xs => insI x (sortI xs)
theorem insI_perm (x : Int) : ∀ ys : List Int, (insI x ys).Perm (x :: ys)
  | [] => List.Perm.refl _
  | y :: ys => by
    unfold insI
    split
    · exact List.Perm.refl _
    · exact ((insI_perm x ys).cons y).trans (List.Perm.swap x y ys)
theorem sortI_perm : ∀ xs : List Int, (sortI xs).Perm xs
  | [] => List.Perm.refl _
  | x :: xs => (insI_perm x (sortI xs)).trans ((sortI_perm xs).cons x)
theorem insI_pw (x : Int) : ∀ ys : List Int, ys.Pairwise (· ≤ ·) → (insI x ys).Pairwise (· ≤ ·)
  | [], _ => List.pairwise_singleton _ _
  | y :: ys, h => by
    rw [List.pairwise_cons] at h
    unfold insI
    split
    · rename_i c
      rw [List.pairwise_cons]
      refine ⟨fun a ha => ?_, List.pairwise_cons.mpr h⟩
      rcases List.mem_cons.mp ha with rfl | ha
      · exact c
      · exact Int.le_trans c (h.1 a ha)
    · rename_i c
      rw [List.pairwise_cons]
      refine ⟨fun a ha => ?_, insI_pw x ys h.2⟩
      rcases List.mem_cons.mp ((insI_perm x ys).mem_iff.mp ha) with rfl | ha
      · omega
      · exact h.1 a ha
theorem sortI_pw : ∀ xs : List Int, (sortI xs).Pairwise (· ≤ ·)
  | [] => List.Pairwise.nil
  | x :: xs => insI_pw x _ (sortI_pw xs)
theorem perm_sorted : ∀ {xs ys : List Int}, xs.Perm ys → xs.Pairwise (· ≤ ·) → ys.Pairwise (· ≤ ·) → xs = ys
  | [], ys, h, _, _ => h.nil_eq
  | x :: xs, [], h, _, _ => absurd h.length_eq (by simp)
  | x :: xs, y :: ys, h, h1, h2 => by
    have p1 := List.pairwise_cons.mp h1
    have p2 := List.pairwise_cons.mp h2
    have e : x = y := by
      have a := h.mem_iff.mp (List.mem_cons_self (a := x) (l := xs))
      have b := h.mem_iff.mpr (List.mem_cons_self (a := y) (l := ys))
      rcases List.mem_cons.mp a with a | a
      · exact a
      · rcases List.mem_cons.mp b with b | b
        · exact b.symm
        · exact Int.le_antisymm (p1.1 y b) (p2.1 x a)
    subst e
    rw [perm_sorted (List.Perm.cons_inv h) p1.2 p2.2]
theorem RepL.of_ints {P : Wd} {G : Hp} : ∀ ns : List Int, RepL P G (ns.map V.int) (ns.map D.int)
  | [] => .nil
  | n :: ns => .cons (.int n) (RepL.of_ints ns)
def fSorted : List D → Option OD
  | [.lst xs] => (intsOf xs).bind fun ns => if decide (ns.length < 64) then some (lstF ((sortI ns).map .int)) else none
  | _ => none
theorem ad_sorted {P : Wd} : AdFA P (rSorted P.K) fSorted := fun p H vs a d Q hp r e q => by
  unfold fSorted at e
  split at e
  · obtain ⟨v, rfl, rv⟩ := r.oneE
    obtain ⟨l, ws, rfl, hl, rl⟩ := rv.lstE
    rename_i xs
    cases ei : intsOf xs with
    | none => rw [ei] at e; cases e
    | some ns =>
      rw [ei, Option.bind_some] at e
      split at e
      · rename_i h64
        cases e
        have ex := intsOf_eq ei
        subst ex
        have ew : ws = ns.map V.int := RepL.ints rl
        subst ew
        refine ⟨l, ns, rfl, .inl (rd_cut hl), of_decide_eq_true h64, fun ns' p' hp' pw hn => ?_⟩
        have en : ns' = sortI ns := perm_sorted (hp'.trans (sortI_perm ns).symm) pw (sortI_pw ns)
        subst en
        exact new_lst hp hn (RepL.of_ints _) q
      · cases e
  · cases e
section
variable {X : Cx} {B : Bs} {W : WX} {E E1 E2 : List Nat} {f f1 f2 : En → R D} {fa : En → R (List D)} {e e1 e2 : Expr} {pos p : Pos}
theorem f_sorted (hK : B.P.K = X.K) (gl : Gl X "sorted") (hm : X.mg "sorted" = none) (ha : PA X [e] (tA B W E fa)) (he : starEach [e] X.env = (false, eval e X.env) :: starEach [] X.env := by rfl) : PE X (.Call (.Name "sorted" p) [e] [] pos) (tF B W E (opAF fSorted fa)) :=
  f_callB (by rw [hK]; exact cr_sorted) ad_sorted gl hm (by rfl) ha (by decide) (by decide) he
end
/-! ### xs.index(y), of flat values -/
def eqD : D → D → Bool
  | .non, .non => true
  | .bl a, .bl b => a == b
  | .bl a, .int b => (if a then 1 else 0) == b
  | .int a, .bl b => a == (if b then 1 else 0)
  | .int a, .int b => a == b
  | .str a, .str b => a == b
  | _, _ => false
theorem rep_flatV {P : Wd} {G : Hp} {v : V} {d : D} (r : Rep P G v d) (h : d.flat = true) : flatV v = true := by
  cases r <;> first | rfl | cases h
theorem str_beq (x y : Str) : (x == y) = (x.cps.toList == y.cps.toList) := by
  rw [Bool.eq_iff_iff]
  constructor
  · intro h; rw [eq_of_beq h]; simp
  · intro h; rw [str_ext (eq_of_beq h)]; simp
theorem eqV_D {P : Wd} {G : Hp} {v w : V} {d e : D} (r : Rep P G v d) (q : Rep P G w e) (h : d.flat = true) (k : e.flat = true) : eqV v w = eqD d e := by
  cases r <;> cases q <;> first | rfl | exact str_beq _ _ | (cases h; done) | (cases k; done)
def dIndex (xs : List D) (y : D) : Option D := if xs.all D.flat && y.flat then (xs.findIdx? fun z => eqD z y).map fun j : Nat => .int j else none
def indexE (f g : En → R D) : En → R D := fun ρ => (f ρ).bind fun a => match a with
  | .lst xs => (g ρ).bind fun y => R.ofO (dIndex xs y)
  | _ => .st
section
variable {X : Cx} {B : Bs} {W : WX} {E E1 E2 : List Nat} {f g : En → R D} {o e : Expr} {apos cpos : Pos}
theorem d_index (hK : B.P.K = X.K) (h0 : PE X o (tD B W E1 f)) (h : PE X e (tD B W E2 g))
    (hbase : attributeBase o "index" X.env (eval o X.env) = eval o X.env := by rfl)
    (hline : (apos.endLine == cpos.line) = true := by rfl) (hst : starEach [e] X.env = (false, eval e X.env) :: starEach [] X.env := by rfl)
    (hfew : ((backTo cpos (starEach [e] X.env)).all (fun x => !x.1) && (backToKw cpos (keywordEach [] X.env)).all (fun x => x.1.isSome)
      && decide ([e].length + ([] : List Keyword).length + (if ([] : List Keyword).isEmpty then 0 else 1) < 30)) = true := by rfl)
    (hplain : (backTo cpos (starEach [] X.env)).any (·.1) = false := by rfl) : PE X (.Call (.Attribute o "index" apos) [e] [] cpos) (tD B W [] (indexE f g)) :=
  (pe_bm PySem.F.plainAttrs_list PySem.F.slot_list_index PySem.F.type_list_index mt_index h0 (pa_cons h pa_nil hst) hbase hfew hline hst hplain).imp fun σ H Q ⟨ρ, As, S, q⟩ => by
    unfold indexE at q
    refine tD_bind S q fun a x H1 s1 S1 r1 q1 => ?_
    cases a with
    | lst xs =>
      obtain ⟨l, vs, rfl, hl, rl⟩ := r1.lstE
      refine ⟨.inl ⟨rfl, _, .inl (rd_cut hl)⟩, tD_bind S1 q1 fun y v H2 s2 S2 r2 q2 => ?_⟩
      show rIndex X.K (.ref l) [v] H2 Q
      unfold dIndex at q2
      cases c : xs.all D.flat && y.flat with
      | false => rw [c] at q2; exact q2.elim
      | true =>
        rw [c, if_pos rfl] at q2
        obtain ⟨c1, c2⟩ := Bool.and_eq_true_iff.mp c
        have rl' : RepL B.P noH vs xs := RepL.flat rl c1
        have ry : Rep B.P noH v y := r2.flat c2
        have fv : vs.all flatV = true := by
          rw [List.all_eq_true]
          intro z hz
          obtain ⟨i, hi, rfl⟩ := List.getElem_of_mem hz
          have hi' : i < xs.length := by rw [← rl'.len]; exact hi
          obtain ⟨z', e', rz⟩ := rl'.getD (List.getElem?_eq_getElem hi')
          rw [List.getElem?_eq_getElem hi] at e'
          cases e'
          exact rep_flatV rz (List.all_eq_true.mp c1 _ (List.getElem_mem hi'))
        cases ej : xs.findIdx? fun z => eqD z y with
        | none => rw [ej] at q2; exact q2.elim
        | some j =>
          rw [ej] at q2
          obtain ⟨hj, e1, e2⟩ := List.findIdx?_eq_some_iff_getElem.mp ej
          obtain ⟨z, ez, rz⟩ := rl'.getD (List.getElem?_eq_getElem hj)
          refine ⟨l, vs, v, j, z, rfl, rfl, .inl (Rd.same s2 (rd_cut hl)), rep_flatV ry c2, fv, ez, ?_, fun m z' hm e' => ?_, ?_⟩
          · rw [eqV_D rz ry (List.all_eq_true.mp c1 _ (List.getElem_mem hj)) c2]; exact e1
          · have hm' : m < xs.length := by omega
            obtain ⟨z2, ez2, rz2⟩ := rl'.getD (List.getElem?_eq_getElem hm')
            rw [ez2] at e'
            cases e'
            rw [eqV_D rz2 ry (List.all_eq_true.mp c1 _ (List.getElem_mem hm')) c2]
            have := e2 m hm
            simpa using this
          · exact q2 _ H2 (s1.trans s2) (.int _)
    | _ => exact q1.elim
end
end DL
set_option Elab.async false
set_option linter.all false
set_option maxRecDepth 100000
namespace DL
open PySem PySem.Spec PyProof.Rows L2
/-! ### xs.append(ys), the list ys moved into xs -/
section
variable {B : Bs} {σ : L2.St} {H H' : Hp} {ρ : En} {As : Ow}
theorem putA2_mem {i j m : Nat} {A : List Addr} {a : Addr} (h : a ∈ putA (putA As j []) i A m) : (m = i ∧ a ∈ A) ∨ (m ≠ i ∧ m ≠ j ∧ a ∈ As m) := by
  rcases putA_mem h with ⟨e, h⟩ | ⟨n, h⟩
  · exact .inl ⟨e, h⟩
  · rcases putA_mem h with ⟨e, h⟩ | ⟨n2, h⟩
    · cases h
    · exact .inr ⟨n, n2, h⟩
theorem Sta.mutJ (S : Sta B σ H ρ As) {i j : Nat} (hij : i ≠ j) {v : V} {od' : OD} {A' : List Addr} (hv : σ[i]? = some (some v)) (hk : ∀ a o, H a = some o → a ∉ As i → H' a = some o) (th : ∀ a, H a ≠ none → H' a ≠ none)
    (nA : A'.Nodup) (sub : ∀ a ∈ A', a ∈ As i ∨ a ∈ As j ∨ H a = none) (r : RepO B.P (cut H' (hid B (putA (putA As j []) i A') [])) H' v od' A') : Sta B σ H' ((ρ.set j none).set i (some od')) (putA (putA As j []) i A') where
  len := by rw [List.length_set, List.length_set]; exact S.len
  pt := fun k od e => by
    by_cases hk' : k = i
    · subst hk'
      have hi : k < (ρ.set j none).length := by
        have h := (List.getElem?_eq_some_iff.mp e).1
        rw [List.length_set] at h
        exact h
      rw [List.getElem?_set_self hi] at e
      have e := Option.some.inj (Option.some.inj e)
      subst e
      exact ⟨v, hv, by rw [putA_same]; exact r⟩
    · rw [List.getElem?_set_ne (Ne.symm hk')] at e
      obtain ⟨w, e1, r1⟩ := (S.drop j).pt k od e
      refine ⟨w, e1, ?_⟩
      have hkj : k ≠ j := fun z => by
        subst z
        rw [List.getElem?_set_self'] at e
        cases q : ρ[k]? with
        | none => rw [q] at e; cases e
        | some z => rw [q] at e; cases e
      rw [List.getElem?_set_ne (Ne.symm hkj)] at e
      obtain ⟨w', e1', r1⟩ := S.pt k od e
      rw [e1] at e1'
      cases e1'
      rw [putA_ne hk', putA_ne hkj]
      refine RepO.mono (fun a o h => ?_) _ _ _ r1 fun a ha => ?_
      · obtain ⟨h1, h2⟩ := cut_some h
        refine cut_of (fun z => ?_) (hk a o h2 fun z => h1 (.inr ⟨i, List.not_mem_nil, z⟩))
        rcases z with z | ⟨m, _, z⟩
        · exact h1 (.inl z)
        · rcases putA2_mem z with ⟨_, z⟩ | ⟨_, _, z⟩
          · rcases sub a z with z | z | z
            · exact h1 (.inr ⟨i, List.not_mem_nil, z⟩)
            · exact h1 (.inr ⟨j, List.not_mem_nil, z⟩)
            · rw [z] at h2; cases h2
          · exact h1 (.inr ⟨m, List.not_mem_nil, z⟩)
      · obtain ⟨o, eo⟩ := ne_none (S.hs k a ha)
        rw [eo, hk a o eo fun z => hk' (S.dj k i a ha z)]
  nd := fun k => by
    by_cases e : k = i
    · rw [e, putA_same]; exact nA
    · rw [putA_ne e]
      by_cases e2 : k = j
      · rw [e2, putA_same]; exact List.nodup_nil
      · rw [putA_ne e2]; exact S.nd k
  dj := fun k m a h1 h2 => by
    have new : ∀ {m a}, a ∈ A' → m ≠ j → a ∈ As m → m = i := fun {m a} h1 n h2 => by
      rcases sub a h1 with h1 | h1 | h1
      · exact S.dj m i a h2 h1
      · exact absurd (S.dj m j a h2 h1) n
      · exact absurd h1 (S.hs m a h2)
    rcases putA2_mem h1 with ⟨e1, h1⟩ | ⟨n1, n1', h1⟩ <;> rcases putA2_mem h2 with ⟨e2, h2⟩ | ⟨n2, n2', h2⟩
    · rw [e1, e2]
    · exact absurd (new h1 n2' h2) n2
    · exact absurd (new h2 n1' h1) n1
    · exact S.dj k m a h1 h2
  ow := fun k a h => by
    rcases putA2_mem h with ⟨_, h⟩ | ⟨_, _, h⟩
    · rcases sub a h with h | h | h
      · exact S.ow i a h
      · exact S.ow j a h
      · right
        cases e : B.H0 a with
        | none => rfl
        | some o => exact absurd h (S.th a (by rw [e]; exact nofun))
    · exact S.ow k a h
  no := fun k a h => by
    rcases putA2_mem h with ⟨_, h⟩ | ⟨_, _, h⟩
    · rcases sub a h with h | h | h
      · exact S.no i a h
      · exact S.no j a h
      · exact fun z => S.ob a z h
    · exact S.no k a h
  hs := fun k a h => by
    rcases putA2_mem h with ⟨_, h⟩ | ⟨_, _, h⟩
    · exact RepO.there _ _ _ r a h
    · exact th a (S.hs k a h)
  ob := fun a h => th a (S.ob a h)
  fr := fun a o h n => hk a o (S.fr a o h n) fun z => by
    rcases S.ow i a z with q | q
    · exact n q
    · rw [h] at q; cases q
  th := fun a h => th a (S.th a h)
end
def appM (i j : Nat) : En → Out := fun ρ => match ownL i ρ, ρ[j]? with
  | some xs, some (some od) => if okLen xs.length && decide (i ≠ j) then .nx ((ρ.set j none).set i (some (.lst (xs ++ [od])))) else .st
  | _, _ => .st
section
variable {X : Cx} {B : Bs} {W : WX}
theorem s_appM (i j : Nat) {x y : Str} {px py apos cpos pos : Pos} (h0 : PE X (.Name x px) (tVar i)) (h : PE X (.Name y py) (tVar j))
    (hbase : attributeBase (.Name x px) "append" X.env (eval (.Name x px) X.env) = eval (.Name x px) X.env := by rfl)
    (hline : (apos.endLine == cpos.line) = true := by rfl) (hst : starEach [.Name y py] X.env = (false, eval (.Name y py) X.env) :: starEach [] X.env := by rfl)
    (hfew : ((backTo cpos (starEach [.Name y py] X.env)).all (fun x => !x.1) && (backToKw cpos (keywordEach [] X.env)).all (fun x => x.1.isSome)
      && decide ([Expr.Name y py].length + ([] : List Keyword).length + (if ([] : List Keyword).isEmpty then 0 else 1) < 30)) = true := by rfl)
    (hplain : (backTo cpos (starEach [] X.env)).any (·.1) = false := by rfl)
    (hs : swapsWith (.Call (.Attribute (.Name x px) "append" apos) [.Name y py] [] cpos) none pos.line X.env = pure false := by rfl) : PS X (.Expr (.Call (.Attribute (.Name x px) "append" apos) [.Name y py] [] cpos) pos) (tS B W [i, j] (appM i j)) :=
  (ps_expr (pe_bm PySem.F.plainAttrs_list PySem.F.slot_list_append PySem.F.type_list_append mt_append h0 (pa_cons h pa_nil hst) hbase hfew hline hst hplain) hs).imp fun D σ H ⟨ρ, As, S, q⟩ => by
    unfold appM at q
    split at q
    · rename_i xs od eo ej
      split at q
      · rename_i c
        obtain ⟨c1, c2⟩ := Bool.and_eq_true_iff.mp c
        have hij : i ≠ j := of_decide_eq_true c2
        have eρ := ownL_eq eo
        obtain ⟨l, vs, A, e1, eA, hl, r⟩ := S.list eρ
        obtain ⟨w, ew, rw'⟩ := S.pt j od ej
        refine ⟨_, e1, .inl ⟨rfl, _, .inl (.inl hl)⟩, w, ew, ?_⟩
        show rAppend (.ref l) [w] H (fun _ H1 => D.nx σ H1)
        refine ⟨l, vs, w, rfl, rfl, hl, by rw [r.len]; exact okLen_lt c1, ?_⟩
        have hli : l ∈ As i := by rw [eA]; exact List.mem_cons_self
        have hlj : l ∉ As j := fun z => hij (S.dj i j l hli z)
        have nA := nodup_of S eA
        have hk : ∀ a o, H a = some o → a ∉ As i → upd H l (.lst (vs ++ [w])) a = some o := fun a o e n => by
          rw [upd_ne (fun z => n (by rw [z]; exact hli))]; exact e
        have th : ∀ a, H a ≠ none → upd H l (.lst (vs ++ [w])) a ≠ none := fun a n => by
          by_cases e : a = l
          · rw [e, upd_same]; exact nofun
          · rw [upd_ne e]; exact n
        have nA' : (l :: (A ++ As j)).Nodup := by
          rw [List.nodup_cons, List.nodup_append]
          obtain ⟨n1, n2⟩ := List.nodup_cons.mp nA
          refine ⟨fun z => ?_, n2, S.nd j, fun a ha b hb e => ?_⟩
          · rcases List.mem_append.mp z with z | z
            · exact n1 z
            · exact hlj z
          · subst e
            exact hij (S.dj i j a (by rw [eA]; exact List.mem_cons_of_mem _ ha) hb)
        have sub : ∀ a ∈ l :: (A ++ As j), a ∈ As i ∨ a ∈ As j ∨ H a = none := fun a ha => by
          rcases List.mem_cons.mp ha with rfl | ha
          · exact .inl hli
          · rcases List.mem_append.mp ha with ha | ha
            · exact .inl (by rw [eA]; exact List.mem_cons_of_mem _ ha)
            · exact .inr (.inl ha)
        have gm : Same (cut H (hid B As [])) (cut (upd H l (.lst (vs ++ [w]))) (hid B (putA (putA As j []) i (l :: (A ++ As j))) [])) := fun a o ha => by
          obtain ⟨n1, n2⟩ := cut_some ha
          have na : ∀ m, a ∉ As m := fun m z => n1 (.inr ⟨m, List.not_mem_nil, z⟩)
          refine cut_of (fun z => ?_) (hk a o n2 (na i))
          rcases z with z | ⟨m, _, z⟩
          · exact n1 (.inl z)
          · rcases putA2_mem z with ⟨_, z⟩ | ⟨_, _, z⟩
            · rcases sub a z with z | z | z
              · exact na i z
              · exact na j z
              · rw [z] at n2; cases n2
            · exact na m z
        have T := S.mutJ (H' := upd H l (.lst (vs ++ [w]))) (od' := .lst (xs ++ [od])) hij e1 hk th nA' sub (.lst upd_same (append_A (RepOL.mono gm _ _ _ r fun a ha => ?_) ?_))
        · refine q _ _ _ T ⟨rfl, fun _ _ => rfl, fun m a h => ?_, fun a o e n => hk a o e (n i List.mem_cons_self), th⟩
          rcases putA2_mem h with ⟨e, h⟩ | ⟨_, _, h⟩
          · rcases sub a h with h | h | h
            · exact .inl (by rw [e]; exact h)
            · exact .inr (.inr ⟨j, List.mem_cons_of_mem _ List.mem_cons_self, h⟩)
            · exact .inr (.inl h)
          · exact .inl h
        · rw [upd_ne (fun z => (List.nodup_cons.mp nA).1 (by rw [← z]; exact ha))]
        · have z := RepOL.cons (RepO.mono (H' := upd H l (.lst (vs ++ [w]))) gm _ _ _ rw' fun a ha => by rw [upd_ne (fun z => hlj (by rw [← z]; exact ha))]) RepOL.nil
          rw [List.append_nil] at z
          exact z
      · exact q.elim
    · exact q.elim
end
end DL
set_option Elab.async false
set_option linter.all false
set_option maxRecDepth 100000
namespace DL
open PySem PySem.Spec PyProof.Rows L2
/-! ### x[i][j] = e, where x holds its rows alone -/
theorem RepOL.set2 {P : Wd} {G H : Hp} : ∀ {xs : List OD} {vs : List V} {A : List Addr} (j1 : Nat) {ys : List OD}, RepOL P G H vs xs A → A.Nodup → xs[j1]? = some (.lst ys) →
    ∃ a0 us A0, vs[j1]? = some (.ref a0) ∧ H a0 = some (.lst us) ∧ RepOL P G H us ys A0 ∧ a0 ∈ A ∧ ∀ (j2 : Nat) (v : V) (d : D), Rep P G v d → ∃ A', A'.Sublist A ∧ RepOL P G (upd H a0 (.lst (us.set j2 v))) vs (xs.set j1 (.lst (ys.set j2 (.sh d)))) A'
  | [], _, _, _, _, h, _, e => by cases e
  | x :: xs, _, _, 0, ys, h, nA, e => by
    cases h with
    | @cons v vs _ _ A1 B h1 h2 =>
      have e : x = .lst ys := Option.some.inj e
      subst e
      cases h1 with
      | @lst a0 us _ A0 hu hr =>
        refine ⟨a0, us, A0, rfl, hu, hr, List.mem_append_left _ List.mem_cons_self, fun j2 v d rv => ?_⟩
        obtain ⟨n1, n2, n3⟩ := List.nodup_append.mp nA
        obtain ⟨n4, n5⟩ := List.nodup_cons.mp n1
        obtain ⟨A', s, r'⟩ := RepOL.setSh rv j2 hr
        refine ⟨(a0 :: A') ++ B, List.Sublist.append (s.cons₂ a0) (List.Sublist.refl _), .cons (.lst upd_same (RepOL.mono (Same.refl _) _ _ _ r' fun a ha => ?_)) (RepOL.mono (Same.refl _) _ _ _ h2 fun a ha => ?_)⟩
        · rw [upd_ne (fun z => n4 (by rw [← z]; exact s.subset ha))]
        · rw [upd_ne (fun z => n3 a0 List.mem_cons_self a ha z.symm)]
  | x :: xs, _, _, j1 + 1, ys, h, nA, e => by
    cases h with
    | @cons v vs _ _ A1 B h1 h2 =>
      obtain ⟨n1, n2, n3⟩ := List.nodup_append.mp nA
      obtain ⟨a0, us, A0, e1, hu, hr, ha0, q⟩ := RepOL.set2 j1 h2 n2 (by simpa using e)
      refine ⟨a0, us, A0, by simpa using e1, hu, hr, List.mem_append_right _ ha0, fun j2 v d rv => ?_⟩
      obtain ⟨A', s, r'⟩ := q j2 v d rv
      refine ⟨A1 ++ A', List.Sublist.append (List.Sublist.refl _) s, .cons (RepO.mono (Same.refl _) _ _ _ h1 fun a ha => ?_) r'⟩
      rw [upd_ne (fun z => n3 a ha a0 ha0 z)]
def subS2 (i : Nat) (f g1 g2 : En → R D) : En → Out := fun ρ => (f ρ).out ρ fun d => match ownL i ρ with
  | none => .st
  | some xs => (g1 ρ).out ρ fun k1 => match k1 with
    | .int n1 => (match ixN xs.length n1 with
      | some j1 => (match xs[j1]? with
        | some (.lst ys) => (g2 ρ).out ρ fun k2 => (match k2 with
          | .int n2 => (match ixN ys.length n2 with
            | some j2 => if d.flat then .nx (ρ.set i (some (.lst (xs.set j1 (.lst (ys.set j2 (.sh d))))))) else .st
            | none => .st)
          | _ => .st)
        | _ => .st)
      | none => .st)
    | _ => .st
section
variable {X : Cx} {B : Bs} {W : WX} {E E1 E2 : List Nat} {f g1 g2 : En → R D} {e ix1 ix2 : Expr} {pos : Pos}
theorem s_sub2 (i : Nat) {x : Str} {px p2 tpos : Pos} (h0 : PE X (.Name x px) (tVar i)) (h : PE X e (tD B W E f)) (hg1 : PE X ix1 (tD B W E1 g1)) (hg2 : PE X ix2 (tD B W E2 g2)) (hpl : PlainIx ix1)
    (ha : ∀ v, assign (.Subscript (.Subscript (.Name x px) ix1 p2) ix2 tpos) X.env v = (do
      let ov ← holding [v] (eval (.Subscript (.Name x px) ix1 p2) X.env)
      let iv ← holding [v, ov] (eval ix2 X.env)
      standAt tpos
      holding [v, ov, iv] (setItem ov iv v)
      release [v, ov, iv] []) := by intro _; rfl)
    (hs : swapsWithSole [.Subscript (.Subscript (.Name x px) ix1 p2) ix2 tpos] e pos.line X.env = pure false := by rfl) (hw : swappedStores [.Subscript (.Subscript (.Name x px) ix1 p2) ix2 tpos] e X.env = pure none := by rfl)
    (h1 : (assignEach [.Subscript (.Subscript (.Name x px) ix1 p2) ix2 tpos] X.env).map (·.2) = [assign (.Subscript (.Subscript (.Name x px) ix1 p2) ix2 tpos) X.env] := by rfl) : PS X (.Assign [.Subscript (.Subscript (.Name x px) ix1 p2) ix2 tpos] e pos) (tS B W [i] (subS2 i f g1 g2)) :=
  (ps_asg h (pg_sub (pe_ix ix_seq h0 hg1 hpl) hg2 set_list ha) hs hw h1).imp fun D σ H ⟨ρ, As, S, h⟩ => by
    refine tD_out S h fun d v H1 s1 S1 r1 q => ?_
    cases eo : ownL i ρ with
    | none => rw [eo] at q; exact q.elim
    | some xs =>
      rw [eo] at q
      have eρ := ownL_eq eo
      obtain ⟨l, vs, A, e1, eA, hl, r⟩ := S1.list eρ
      refine ⟨_, e1, tD_out S1 q fun k w H2 s2 S2 r2 q => ?_⟩
      cases r2 with
      | int n1 =>
        cases ej : ixN xs.length n1 with
        | none => simp only [ej] at q; exact q.elim
        | some j1 =>
          simp only [ej] at q
          cases ey : xs[j1]? with
          | none => rw [ey] at q; exact q.elim
          | some od =>
            rw [ey] at q
            cases od with
            | lst ys =>
              simp only at q
              obtain ⟨l2, vs2, A2, e2, eA2, hl2, rr2⟩ := S2.list eρ
              rw [e1] at e2; cases e2
              rw [eA] at eA2; cases eA2
              rw [s2 _ _ hl] at hl2; cases hl2
              have nA := nodup_of S2 eA
              obtain ⟨a0, us, A0, eu, hu, hr, ha0, qq⟩ := RepOL.set2 j1 rr2 (List.nodup_cons.mp nA).2 ey
              refine .inl ⟨l, vs, n1, .ref a0, rfl, rfl, .inl (.inl (s2 _ _ hl)), ?_, tD_out S2 q fun k2 w2 H3 s3 S3 r3 q => ?_⟩
              · unfold L2.atI
                rw [r.len, ej, Option.bind_some, eu]
              · cases r3 with
                | int n2 =>
                  cases ej2 : ixN ys.length n2 with
                  | none => simp only [ej2] at q; exact q.elim
                  | some j2 =>
                    simp only [ej2] at q
                    cases fd : d.flat with
                    | false => rw [fd] at q; exact q.elim
                    | true =>
                      rw [fd, if_pos rfl] at q
                      obtain ⟨l3, vs3, A3, e3, eA3, hl3, rr3⟩ := S3.list eρ
                      rw [e1] at e3; cases e3
                      rw [eA] at eA3; cases eA3
                      rw [s3 _ _ (s2 _ _ hl)] at hl3; cases hl3
                      obtain ⟨a3, us3, A03, eu3, hu3, hr3, ha3, qq3⟩ := RepOL.set2 j1 rr3 (List.nodup_cons.mp nA).2 ey
                      rw [eu] at eu3; cases eu3
                      rw [s3 _ _ hu] at hu3; cases hu3
                      obtain ⟨A', sl, r4⟩ := qq3 j2 v d (r1.flat fd)
                      have hli : l ∈ As i := by rw [eA]; exact List.mem_cons_self
                      have h0i : a0 ∈ As i := by rw [eA]; exact List.mem_cons_of_mem _ ha0
                      have nl : l ≠ a0 := fun z => (List.nodup_cons.mp nA).1 (by rw [z]; exact ha0)
                      have hk : ∀ a o, H3 a = some o → a ∉ As i → upd H3 a0 (.lst (us.set j2 v)) a = some o := fun a o e n => by
                        rw [upd_ne (fun z => n (by rw [z]; exact h0i))]; exact e
                      have th : ∀ a, H3 a ≠ none → upd H3 a0 (.lst (us.set j2 v)) a ≠ none := fun a n => by
                        by_cases e : a = a0
                        · rw [e, upd_same]; exact nofun
                        · rw [upd_ne e]; exact n
                      have sub : ∀ a ∈ l :: A', a ∈ As i ∨ H3 a = none := fun a ha => by
                        rcases List.mem_cons.mp ha with rfl | ha
                        · exact .inl hli
                        · exact .inl (by rw [eA]; exact List.mem_cons_of_mem _ (sl.subset ha))
                      have gm : Same (cut H3 (hid B As [])) (cut (upd H3 a0 (.lst (us.set j2 v))) (hid B (putA As i (l :: A')) [])) := fun a o ha => by
                        obtain ⟨n1, n2⟩ := cut_some ha
                        have na : ∀ m, a ∉ As m := fun m z => n1 (.inr ⟨m, List.not_mem_nil, z⟩)
                        refine cut_of (fun z => ?_) (hk a o n2 (na i))
                        rcases z with z | ⟨m, _, z⟩
                        · exact n1 (.inl z)
                        · rcases putA_mem z with ⟨_, z⟩ | ⟨_, z⟩
                          · rcases sub a z with z | z
                            · exact na i z
                            · rw [z] at n2; cases n2
                          · exact na m z
                      have T := S3.mut (H' := upd H3 a0 (.lst (us.set j2 v))) (od' := .lst (xs.set j1 (.lst (ys.set j2 (.sh d))))) (A' := l :: A') e1 hk th (List.nodup_cons.mpr ⟨fun z => (List.nodup_cons.mp nA).1 (sl.subset z), (List.nodup_cons.mp nA).2.sublist sl⟩) sub
                        (.lst (by rw [upd_ne nl]; exact s3 _ _ (s2 _ _ hl)) (RepOL.mono gm _ _ _ r4 fun a ha => rfl))
                      refine ⟨a0, us, n2, j2, rfl, rfl, s3 _ _ hu, by rw [hr3.len]; exact ej2, q _ _ _ T ?_⟩
                      refine ⟨rfl, fun _ _ => rfl, fun m a h => ?_, fun a o e n => hk a o e (n i List.mem_cons_self), th⟩
                      rcases putA_mem h with ⟨e, h⟩ | ⟨_, h⟩
                      · rcases sub a h with h | h
                        · exact .inl (by rw [e]; exact h)
                        · exact .inr (.inl h)
                      · exact .inl h
                | _ => exact q.elim
            | _ => exact q.elim
      | _ => exact q.elim
end
end DL
set_option Elab.async false
set_option linter.all false
set_option maxRecDepth 100000
namespace DL
open PySem PySem.Spec PyProof.Rows L2
/-! ### a new list of flat values shares nothing -/
def flatO : OD → Bool
  | .lst xs => xs.all fun o => match o with
    | .sh d => d.flat
    | _ => false
  | _ => false
def flE (fo : En → R OD) : En → R D := fun ρ => (fo ρ).bind fun od => if flatO od then .ok od.er else .st
theorem RepOL.flatRep {P : Wd} {G G' H : Hp} : ∀ {xs : List OD} {vs : List V} {A : List Addr}, RepOL P G H vs xs A → (xs.all fun o => match o with
    | .sh d => d.flat
    | _ => false) = true → RepL P G' vs (xs.map OD.er)
  | [], _, _, h, _ => by cases h; exact .nil
  | x :: xs, _, _, h, f => by
    rw [List.all_cons, Bool.and_eq_true] at f
    cases h with
    | cons h1 h2 =>
      cases x with
      | sh d =>
        cases h1 with
        | sh r => exact .cons (by rw [OD.er]; exact r.flat f.1) (RepOL.flatRep h2 f.2)
      | _ => cases f.1
section
variable {X : Cx} {B : Bs} {W : WX} {E : List Nat} {fo : En → R OD} {e : Expr}
theorem d_flF (h : PE X e (tF B W E fo)) : PE X e (tD B W [] (flE fo)) := h.imp fun σ H Q ⟨ρ, As, S, q⟩ => by
  refine ⟨ρ, As, S, ?_⟩
  unfold flE at q
  cases e1 : fo ρ with
  | st => rw [e1] at q; exact q.elim
  | ex c fs => rw [e1] at q; exact q
  | ok od =>
    rw [e1, R.bind_ok] at q
    cases c : flatO od with
    | false => rw [c] at q; exact q.elim
    | true =>
      rw [c] at q
      intro v A H' s nA fA r
      refine q v H' s ?_
      cases od with
      | lst xs =>
        cases r with
        | @lst a vs _ A0 h1 h2 =>
          rw [show (OD.lst xs).er = .lst (xs.map OD.er) from by simp]
          refine .lst (cut_of ?_ h1) (RepOL.flatRep h2 c)
          intro z
          have n := fA a List.mem_cons_self
          rcases z with z | ⟨j, _, z⟩
          · exact S.ob a z n
          · exact S.hs j a z n
      | _ => cases c
end
/-! ### a list that is only read from here on -/
def frzS (E : List Nat) (s : En → Out) : En → Out := fun ρ => s (frz E ρ)
section
variable {X : Cx} {B : Bs} {W : WX} {M : List Nat} {s : En → Out} {st : Stmt}
theorem s_frz (E : List Nat) (h : PS X st (tS B W M s)) : PS X st (tS B W M (frzS E s)) := h.imp fun D σ H ⟨ρ, As, S, q⟩ =>
  ⟨frz E ρ, exAs E As, S.frz, Out.go_from (M := []) (M' := M) (⟨rfl, fun _ _ => rfl, fun _ _ h => .inl (exAs_sub h), fun a o e _ => e, fun a h => h⟩ : Kp [] σ H As σ H (exAs E As)) q⟩
end
end DL
set_option Elab.async false
set_option linter.all false
set_option maxRecDepth 100000
set_option maxHeartbeats 0
namespace DLX
open PySem PySem.Spec PyProof.Rows L2 PySem.W

/-- super().__init__(e) in an own exception over ValueError -/
theorem sup_stmt {X : Cx} {pins : List (Addr × Obj)} {σ : L2.St} {H : Hp} {s : Shared} {a C f cda cc : Addr} {oc : Value} {od : Option Addr} {osl : Array (Option Value)} {fd : FuncData} {ar : Arg} {ccl : Value} {cdd : Option Addr} {vs : Array Value} {ccs : Array (Option Value)} {file : Str} {tf : Tok} {cl : Value} {cld : Option Addr} {csl : Array (Option Value)} {body : List Stmt} {p0 p1 p2 p3 p4 : Pos} {arg : Expr} {t : TE} {pl : Sem Bool} {Q : Flow → Shared → Prop}
    (I : Inv X pins σ H s) (T : OexC X.K C) (e : H a = some (exo a C none)) (hs0 : σ[0]? = some (some (.ref a))) (hN0 : X.N[0]? = some ("self" : Str)) (hvs : X.env.kindOf "self" = some .local)
    (hks : X.env.kindOf "super" = some .globalImplicit) (hkc : X.env.kindOf "__class__" = some .free) (hfu : X.env.func = some f) (lk : X.K.lookup f = some ⟨oc, od, .func fd, osl⟩) (hp : (fd.params.posonlyargs ++ fd.params.args).head? = some ar) (har : ar.arg = "self")
    (hco : X.env.code = .ref cda) (hcode : X.K.lookup cda = some ⟨ccl, cdd, .fields vs, ccs⟩) (hvs2 : vs[2]? = some (.str file tf)) (hfile : ((X.prog.main.file : Str) == file) = true) (htop : (X.prog.main.scope.names.lookup ("super" : Str)).isSome = false)
    (hcl : X.env.cells.lookup ("__class__" : Str) = some cc) (hcell : X.K.lookup cc = some ⟨cl, cld, .cell (some (.ref C)), csl⟩) (hms : X.mg "super" = none) (hany : nsIn X.K cStatics "thirdparty.any" = some none)
    (hsup : ks_superIn X.K C C "__init__" = some (some (.builtin "ValueError.__init__"))) (hVE : subIn X.K (.ref C) (.type "ValueError") = some true) (hsub : mroIn X.K C (.ref C) = some true)
    (ha : PE X arg t) (harg : tCons t tNil σ H fun vs H1 => vs.length ≤ 10 ∧ H1 = H) (hQ : ∀ s', Inv X pins σ H s' → Q .next s') (hst : starEach [arg] X.env = (false, eval arg X.env) :: starEach [] X.env := by rfl) (hsw : swapsWith (.Call (.Attribute (.Call (.Name "super" p0) [] [] p1) "__init__" p2) [arg] [] p3) none p4.line X.env = pure false := by rfl)
    (hme : eval (.Call (.Attribute (.Call (.Name "super" p0) [] [] p1) "__init__" p2) [arg] [] p3) X.env = (do
      let ov ← attributeBase (.Call (.Name "super" p0) [] [] p1) "__init__" X.env (eval (.Call (.Name "super" p0) [] [] p1) X.env)
      standAt p2.atName
      let (f, first) ← holding [ov] (getMethod ov "__init__" pl)
      callWith p3 f first (backTo p3 (starEach [arg] X.env)) []) := by rfl) :
    _root_.PySem.wpAt (model X.prog X.w) X.A (.func body X.env) (exec (.Expr (.Call (.Attribute (.Call (.Name "super" p0) [] [] p1) "__init__" p2) [arg] [] p3) p4) X.env) Q X.xe s := by
  have hk := I.ok.kind
  refine ks_wpAt_Expr_any ?_ I.quiet hsw
  refine ks_wpAt_MethodCall (pl := pl) ?_ hme
  refine ks_wpAt_super_base (env := X.env) hks hkc (by rfl) hfu (I.kIn _ _ lk) rfl hp hco (I.kIn _ _ hcode) rfl hvs2 hfile htop ?_
  refine ks_loadName_global hk hks ?_
  obtain ⟨mb, h1, h2⟩ := I.mod.blt
  refine Calls.loadGlobal_builtin (by rw [I.ok.glob]; exact I.mod.glob.keeps I.bk) hms (by rw [I.ok.blt]; exact h1.keeps I.bk) ((h2 _ (by decide)).trans (by rfl : bootBuiltins "super" = some (.type "super"))) ⟨rfl, ?_⟩
  refine wpAny_loadName_free hk hkc hcl ⟨_, I.kIn _ _ hcell, rfl⟩ ?_
  rw [har]
  obtain ⟨m, hn, hl⟩ := id I.loc
  obtain ⟨u, ru, lo⟩ := hl 0 "self" (.ref a) hN0 hs0 (.inl hvs)
  obtain rfl : u = Value.ref a := ru
  have hm : m "self" = some (.ref a) := by
    rcases lo with ⟨_, h⟩ | ⟨h, _⟩
    · exact h
    · rw [hvs] at h; rcases h with h | h <;> cases h
  refine wpAny_loadName_local hk hvs hn hm ?_
  obtain ⟨nm, q, N, bs, bm, sn, sub, ab, col, dd, k0, k1, k2, k3, k5, hC, hbm⟩ := T.cls
  obtain ⟨t1, ho⟩ := exo_at I.hok e
  have IA : InstAt s.heap a { cls := .ref C, dict := none, data := .fields #[.ref t1, .none, .none, .none, .bool false, .none] } C none := ⟨ho, rfl, rfl, trivial⟩
  have hD1 := I.kIn _ _ hC
  refine ks_wpAny_isType_cls hD1 rfl ⟨rfl, ?_⟩
  obtain ⟨hp0, g, d, tk, os⟩ := s
  refine ks_wpAny_call_super hD1 rfl ho rfl (fun c z => by cases z) (looks_mroIn I.kIn hsub) (fun h' eso k => ?_)
  have I1 : Inv X pins σ H ⟨h', g, d, tk, os⟩ := I.kept (t' := tk) k
  have ho1 := k _ _ ho
  have IA1 : InstAt h' a { cls := .ref C, dict := none, data := .fields #[.ref t1, .none, .none, .none, .bool false, .none] } C none := ⟨ho1, rfl, rfl, trivial⟩
  have hI : Looks (model X.prog X.w) h' (isInstance (.ref a) (.type "ValueError")) true := IA1.type.andThen (looks_subIn I1.kIn hVE)
  have hcC : clsIn X.K C = some { name := nm, bases := bs, mro := .ref C :: bm, ns := N, qualname := q, hasDict := true, slotNames := sn, subclasses := sub, abstract := ab, collection := col, hasDel := false } := by unfold PySem.W.clsIn; rw [hC] <;> rfl
  have hx : a ≠ C := ks_ne I1.kIn IA1 hcC
  unfold ks_superIn at hsup
  rw [hcC] at hsup
  refine kxs_getMethod kxs_ValueError eso (looks_opaque I1.kIn hany) (C := C) (l₀ := .ref C :: bm) (fun A Q E s k q => wpAny_bind ((looks_clsIn I1.kIn hcC) A _ E s k (wpAny_pure q))) rfl I1.kIn hsup hI hx (by rfl) ?_
  have k2 : ∀ b o, h'.get? b = some o → (h'.push (kxs_mw "ValueError.__init__" a)).get? b = some o := fun b o z => Heap.get?_push_of_some _ z
  have I2 : Inv X pins σ H ⟨h'.push (kxs_mw "ValueError.__init__" a), g, d, tk + 1, os⟩ := I1.kept (t' := tk + 1) k2
  have hu : (h'.push (kxs_mw "ValueError.__init__" a)).get? h'.objs.size = some (kxs_mw "ValueError.__init__" a) := Heap.get?_push_at rfl rfl
  have hHu : H h'.objs.size = none := I1.hok.fresh (Nat.le_refl _)
  have I3 : Inv X ((h'.objs.size, kxs_mw "ValueError.__init__" a) :: pins) σ H ⟨h'.push (kxs_mw "ValueError.__init__" a), g, d, tk + 1, os⟩ := I2.pins_of fun p hp => by
    rcases List.mem_cons.mp hp with rfl | hp
    · exact ⟨hu, hHu, Nat.ne_of_gt I1.lt, I1.nofs (Nat.le_refl _), fun v z => by cases z⟩
    · exact I2.pin p (List.mem_append_right _ hp)
  have hA := (pa_cons ha pa_nil hst).run p3 ((h'.objs.size, kxs_mw "ValueError.__init__" a) :: pins) _ σ H (fun vs H1 => vs.length ≤ 10 ∧ H1 = H) I3 ?_
  rw [hst] at hA ⊢
  refine kxs_callWith (i := "ValueError.__init__") (x := a) rfl (Calls.evalArgs_plain (thn hA fun us s1 hh => ?_))
  · obtain ⟨vs1, H1, I4, r4, hl4, eH⟩ := hh
    subst eH
    obtain ⟨hp4, g4, d4, tk4, os4⟩ := s1
    obtain ⟨hu4, _⟩ := I4.pin (h'.objs.size, kxs_mw "ValueError.__init__" a) (List.mem_append_right _ List.mem_cons_self)
    refine ⟨hu4, ?_⟩
    obtain ⟨t4, ho4⟩ := exo_at I4.hok e
    refine wpAny_call (codeAny_of_tree ?_)
    show wpAny _ _ (callAny (.ref h'.objs.size) ⟨us, []⟩) _ _ _
    simp only [callAny]
    refine wpAny_bind (wpAny_load hu4 ?_)
    simp only [kxs_mw, show (Value.type "method-wrapper" == Value.type "method" || Value.type "method-wrapper" == Value.type "builtin_function_or_method" || Value.type "method-wrapper" == Value.type "method-wrapper") = true by decide, if_true]
    refine KFB.if_so (by decide) ?_
    refine wpAny_bind (check_bound_init F.excBase_ValueError.toExcCallFacts (I4.kIn _ _ hC) ho4 rfl ?_)
    refine wpAny_bind (wpAny_pure (wpAny_pure ?_))
    refine ⟨plainId_quiet F.excBase_ValueError.init.plain _, codeAny_builtin F.excBase_ValueError.initEntry ?_⟩
    refine exc_init_tree (cls := .ref C) (t0 := t4) (dv := none) (c2 := .none) (c3 := .none) (b4 := .bool false) ho4 (by rw [← r4.length, sizeLine_eq]; omega) (fun h5 k5 e5 _ => ?_)
    have J := I4.write (t' := tk4) (x := a) (e := a) (o := exo a C none) (by rw [e]; exact True.intro) (.inl rfl) k5 ⟨_, e5⟩ (exo_ok e5)
    have eu : upd H1 a (exo a C none) = H1 := by
      funext b
      by_cases hb : b = a
      · rw [hb, upd_same, e]
      · rw [upd_ne hb]
    rw [eu] at J
    exact hQ _ (J.pins_of fun p hp => J.pin p (List.mem_append_right _ (List.mem_cons_of_mem _ hp)))
  · exact harg
end DLX
set_option Elab.async false
set_option linter.all false
set_option maxRecDepth 100000
set_option maxHeartbeats 0
namespace DLX
open PySem PySem.Spec PyProof.Rows L2 PySem.W

/-- where a field of an own exception comes from: a text, a parameter -/
inductive Src where
  | s (x : Str) (cs : List Nat) | p (i : Nat)
def srcT : Src → TE
  | .s x _ => tC (.str x)
  | .p i => tVar (i + 1)
def srcV (vs : List V) : Src → V
  | .s x _ => .str x
  | .p i => vs.getD i .non
def SrcOk (n : Nat) : Src → Prop
  | .s x cs => x.cps.toList = cs
  | .p i => i < n
/-- self.f = .. , one behind the other -/
inductive StOk (X : Cx) (n : Nat) : List Stmt → List (Str × Src) → Prop
  | nil : StOk X n [] []
  | cons {st : Stmt} {sts : List Stmt} {f : Str} {r : Src} {l : List (Str × Src)} : PS X st (tOst X.K f (tVar 0) (srcT r)) → SrcOk n r → StOk X n sts l → StOk X n (st :: sts) ((f, r) :: l)
def tSto (K : PySem.W.Frag) : List (Str × Src) → TS
  | [] => tNext
  | (f, r) :: l => tSeq (tOst K f (tVar 0) (srcT r)) (tSto K l)
theorem StOk.run {X : Cx} {n : Nat} {sts : List Stmt} {l : List (Str × Src)} (h : StOk X n sts l) : PSs X sts (tSto X.K l) := by
  induction h with
  | nil => exact pss_nil
  | cons h1 h2 h3 ih => exact pss_cons h1 ih
theorem StOk.ok {X : Cx} {n : Nat} {sts : List Stmt} {l : List (Str × Src)} (h : StOk X n sts l) : ∀ q ∈ l, SrcOk n q.2 := by
  induction h with
  | nil => exact fun q hq => nomatch hq
  | cons h1 h2 h3 ih => exact fun q hq => (List.mem_cons.mp hq).elim (fun e => by rw [e]; exact h2) (ih q)
theorem src_run {vs : List V} {r : Src} {σ : L2.St} {H : Hp} {Q : VK} (n : Nat) (hσ : ∀ i, i < n → σ[i + 1]? = some (some (vs.getD i .non))) (hr : SrcOk n r) (q : Q (srcV vs r) H) : srcT r σ H Q := by
  cases r with
  | s x cs => exact q
  | p i => exact ⟨_, hσ i hr, q⟩
def vfs (vs : List V) (l : List (Str × Src)) : List (Str × V) := l.map fun q => (q.1, srcV vs q.2)
theorem sto_old {K : PySem.W.Frag} {C a d : Addr} {vs : List V} {n : Nat} {σ : L2.St} {D : Ends} (T : OexC K C) (hσ0 : σ[0]? = some (some (.ref a))) (hσ : ∀ i, i < n → σ[i + 1]? = some (some (vs.getD i .non))) (hd : d ≠ a) : ∀ (l : List (Str × Src)) (fs : List (Str × V)) (H : Hp),
    (∀ q ∈ l, SrcOk n q.2 ∧ PySem.W.findIn K (.ref C) q.1 = some none) → H a = some (exo a C (some d)) → H d = some (exd d fs) → fs.length + l.length ≤ 900 →
    (∀ H3, H3 a = some (exo a C (some d)) → H3 d = some (exd d (vfs vs l.reverse ++ fs)) → (∀ b, b ≠ d → H3 b = H b) → D.nx σ H3) → tSto K l D σ H
  | [], fs, H, _, ea, ed, _, q => q H ea ed fun _ _ => rfl
  | (f, r) :: l, fs, H, hl, ea, ed, hz, q => by
    obtain ⟨h1, h2⟩ := hl _ List.mem_cons_self
    refine src_run n hσ h1 ⟨_, hσ0, a, C, rfl, T, h2, .inr ⟨d, fs, ea, ed, by rw [List.length_cons] at hz; omega, ?_⟩⟩
    refine sto_old T hσ0 hσ hd l _ _ (fun q hq => hl q (List.mem_cons_of_mem _ hq)) (by rw [upd_ne (Ne.symm hd)]; exact ea) upd_same (by rw [List.length_cons] at hz ⊢; omega) fun H3 e1 e2 e3 => ?_
    refine q H3 e1 ?_ fun b hb => (e3 b hb).trans (upd_ne hb)
    rw [e2]
    unfold vfs
    rw [List.reverse_cons, List.map_append, List.append_assoc] <;> rfl
/-- what the __init__ of such a class does to the object -/
def spE (C : Addr) (n : Nat) (l : List (Str × Src)) : Sp := fun vs H Q _ => ∃ (a : Addr) (us : List V), vs = .ref a :: us ∧ us.length = n ∧ H a = some (exo a C none) ∧
  ∀ (H2 : Hp) (d : Addr), H2 a = some (exo a C (some d)) → H2 d = some (exd d (vfs us l.reverse)) → H d = none → d ≠ a → (∀ b, b ≠ a → b ≠ d → H2 b = H b) → Q .non H2
theorem sto_new {K : PySem.W.Frag} {C a : Addr} {vs : List V} {n : Nat} {σ : L2.St} {D : Ends} {H : Hp} (T : OexC K C) (hσ0 : σ[0]? = some (some (.ref a))) (hσ : ∀ i, i < n → σ[i + 1]? = some (some (vs.getD i .non))) {l : List (Str × Src)} (h0 : l ≠ [])
    (hl : ∀ q ∈ l, SrcOk n q.2 ∧ PySem.W.findIn K (.ref C) q.1 = some none) (hz : l.length ≤ 900) (ea : H a = some (exo a C none))
    (q : ∀ (H2 : Hp) (d : Addr), H2 a = some (exo a C (some d)) → H2 d = some (exd d (vfs vs l.reverse)) → H d = none → d ≠ a → (∀ b, b ≠ a → b ≠ d → H2 b = H b) → D.nx σ H2) : tSto K l D σ H := by
  cases l with
  | nil => exact absurd rfl h0
  | cons z l =>
    obtain ⟨f, r⟩ := z
    obtain ⟨h1, h2⟩ := hl _ List.mem_cons_self
    refine src_run n hσ h1 ⟨_, hσ0, a, C, rfl, T, h2, .inl ⟨ea, fun d hd hda => ?_⟩⟩
    refine sto_old T hσ0 hσ hda l _ _ (fun q hq => hl q (List.mem_cons_of_mem _ hq)) upd_same (by rw [upd_ne hda]; exact upd_same) (by rw [List.length_cons] at hz; simp only [List.length_cons, List.length_nil]; omega) fun H3 e1 e2 e3 => ?_
    refine q H3 d e1 ?_ hd hda fun b hb1 hb2 => (e3 b hb2).trans (by rw [upd_ne hb1, upd_ne hb2])
    rw [e2]
    unfold vfs
    rw [List.reverse_cons, List.map_append] <;> rfl
/-- the __init__ keeps its promise -/
theorem exc_fn {P : Program} {w : World} {K : PySem.W.Frag} {mg : Str → Option Value} {base : Heap} {C fI cc : Addr} {F : NdefX.NF} {N ps : List Str} {ar : Arg} {oc : Value} {od : Option Addr} {osl : Array (Option Value)} {doc pm ct : Value} {ccl : Value} {cdd : Option Addr} {vs : Array Value} {ccs : Array (Option Value)} {file : Str} {tf : Tok} {cl : Value} {cld : Option Addr} {csl : Array (Option Value)} {p0 p1 p2 p3 p4 : Pos} {arg : Expr} {t : TE} {rest : List Stmt} {l : List (Str × Src)}
    (T : OexC K C) (lk : K.lookup fI = some ⟨oc, od, .func (F.fd doc pm ct), osl⟩) (hcd : codeIn K (.ref F.c) F.qual = true) (S : NdefX.NScope N (("self" : Str) :: ps) [("__class__" : Str)] F.scope) (hbd : F.body = .Expr (.Call (.Attribute (.Call (.Name "super" p0) [] [] p1) "__init__" p2) [arg] [] p3) p4 :: rest)
    (hp : (F.params.posonlyargs ++ F.params.args).head? = some ar) (har : ar.arg = "self") (hks : F.scope.names.lookup ("super" : Str) = some .globalImplicit)
    (hcode : K.lookup F.c = some ⟨ccl, cdd, .fields vs, ccs⟩) (hvs2 : vs[2]? = some (.str file tf)) (hfile : ((P.main.file : Str) == file) = true) (htop : (P.main.scope.names.lookup ("super" : Str)).isSome = false)
    (hcl : F.cl = [(("__class__" : Str), cc)]) (hcell : K.lookup cc = some ⟨cl, cld, .cell (some (.ref C)), csl⟩) (hms : mg "super" = none) (hany : nsIn K cStatics "thirdparty.any" = some none)
    (hsup : ks_superIn K C C "__init__" = some (some (.builtin "ValueError.__init__"))) (hVE : subIn K (.ref C) (.type "ValueError") = some true) (hsub : mroIn K C (.ref C) = some true)
    (h0 : l ≠ []) (hz : l.length ≤ 900) (hno : ∀ q ∈ l, PySem.W.findIn K (.ref C) q.1 = some none)
    (hb : ∀ us : List Value, us.length = ps.length + 1 → bindArgs (F.fd doc pm ct) ⟨us, []⟩ = pure ((("self" : Str) :: ps).zip us))
    (hbody : ∀ (A : Around) (outer : List Env) (s : Shared) (H : Hp) (E : XK), PE (NdefX.ncx (L2.CX P w) P w K mg base N F fI A outer s H E) arg t ∧ StOk (NdefX.ncx (L2.CX P w) P w K mg base N F fI A outer s H E) ps.length rest l ∧
      starEach [arg] (NdefX.envF F fI s.heap.objs.size) = (false, eval arg (NdefX.envF F fI s.heap.objs.size)) :: starEach [] (NdefX.envF F fI s.heap.objs.size) ∧
      swapsWith (.Call (.Attribute (.Call (.Name "super" p0) [] [] p1) "__init__" p2) [arg] [] p3) none p4.line (NdefX.envF F fI s.heap.objs.size) = pure false ∧
      ∃ pl : Sem Bool, eval (.Call (.Attribute (.Call (.Name "super" p0) [] [] p1) "__init__" p2) [arg] [] p3) (NdefX.envF F fI s.heap.objs.size) = (do
        let ov ← attributeBase (.Call (.Name "super" p0) [] [] p1) "__init__" (NdefX.envF F fI s.heap.objs.size) (eval (.Call (.Name "super" p0) [] [] p1) (NdefX.envF F fI s.heap.objs.size))
        standAt p2.atName
        let (f, first) ← holding [ov] (getMethod ov "__init__" pl)
        callWith p3 f first (backTo p3 (starEach [arg] (NdefX.envF F fI s.heap.objs.size))) []))
    (harg : ∀ (σ : L2.St) (H : Hp) (us : List V), us.length = ps.length → (∀ i, i < ps.length → σ[i + 1]? = some (some (us.getD i .non))) → tCons t tNil σ H fun vs H1 => vs.length ≤ 10 ∧ H1 = H) :
    FnOk P w K mg base (L2.CX P w) 1 fI (F.fd doc pm ct) (("self" : Str) :: ps) (spE C ps.length l) := by
  refine ⟨fun vs H Q E ⟨a, us, e, hl, _⟩ => by rw [e, List.length_cons, List.length_cons, hl], fun A outer s H args us vs Q E hr e0 hbt r hsp => ?_⟩
  obtain ⟨a, us', rfl, hl, ea, hq⟩ := hsp
  have lim : s.heap.NoLimit := e0.mod.nolimit.keeps fun b o e => (e0.bs b o e).1
  have KX : K.In s.heap := e0.mod.kin.keeps fun b o e => (e0.bs b o e).1
  have hlen : us.length = ps.length + 1 := by rw [← r.length, List.length_cons, hl]
  refine ks_codeAny_call_defAt (fd := F.fd doc pm ct) (body := F.body) (binds := (("self" : Str) :: ps).zip us) hr.depth (KX _ _ lk) rfl lim (codeRec_of KX hcd) rfl hbt S.nocell (fun ⟨n, _⟩ hy => S.par n (List.of_mem_zip hy).1) (fun h₁ hns kp => ?_) S.co S.gen S.kind
  have CA : NdefX.CellsAt F.cl [("__class__" : Str)] [none] s.heap H := by
    have hc1 : s.heap.IsCell cc (some (.ref C)) := ⟨_, KX _ _ hcell, rfl⟩
    have hb0 : H cc = none := (e0.bs cc _ (e0.mod.kin _ _ hcell)).2
    rw [hcl]
    have one : ∀ {y : Str} {c : Addr}, ([(("__class__" : Str), cc)] : List (Str × Addr)).lookup y = some c → y = "__class__" ∧ c = cc := fun {y c} e => by
      unfold List.lookup at e
      split at e
      · rename_i hy
        cases e
        exact ⟨eq_of_beq hy, rfl⟩
      · cases e
    refine ⟨rfl, fun y c e => ?_, fun x y c e1 e2 => (one e1).1.trans (one e2).1.symm, fun i y e => ?_⟩
    · obtain ⟨_, rfl⟩ := one e
      exact ⟨hb0, _, hc1⟩
    · cases i with
      | zero =>
        cases e
        exact ⟨cc, rfl, fun v z => by cases z⟩
      | succ i => cases e
  have I : Inv (NdefX.ncx (L2.CX P w) P w K mg base N F fI A outer s H E) [] (NdefX.startF N (.ref a :: us') [none]) H { s with heap := h₁, toks := s.toks + ((("self" : Str) :: ps).zip us).length } := NdefX.inv_startN S hr.hd e0 (by rw [List.length_cons, List.length_cons, hl]) r CA hns kp
  obtain ⟨hA, hS, hst, hsw, pl, hme⟩ := hbody A outer s H E
  have hs0 : (NdefX.startF N (V.ref a :: us') [none])[0]? = some (some (.ref a)) := rfl
  have hsi : ∀ i, i < ps.length → (NdefX.startF N (V.ref a :: us') [none])[i + 1]? = some (some (us'.getD i .non)) := fun i hi => by
    have hi' : i < us'.length := by omega
    show (((V.ref a :: us').map some) ++ _)[i + 1]? = _
    rw [List.getElem?_append_left (by simpa using hi'), List.map_cons, List.getElem?_cons_succ, List.getElem?_map, List.getElem?_eq_getElem hi', List.getD_eq_getElem?_getD, List.getElem?_eq_getElem hi'] <;> rfl
  have hN0 : N[0]? = some ("self" : Str) := by
    have e1 : (N.take ((("self" : Str) :: ps).length + [("__class__" : Str)].length))[0]? = some ("self" : Str) := by rw [S.pre]; rfl
    rw [List.getElem?_take_of_lt (by simp)] at e1
    exact e1
  show _root_.PySem.wpAt (model P w) (A.deeper (NdefX.envF F fI s.heap.objs.size)) (.func F.body (NdefX.envF F fI s.heap.objs.size)) (execs F.body (NdefX.envF F fI s.heap.objs.size)) _ _ _
  rw [hbd]
  refine ks_wpAt_execs_cons ?_
  rw [← hbd]
  refine ks_wpAt_mono (sup_stmt (X := NdefX.ncx (L2.CX P w) P w K mg base N F fI A outer s H E) (a := a) (C := C) (body := F.body) (Q := fun f s' => match f with
      | .next => _root_.PySem.wpAt (model P w) (A.deeper (NdefX.envF F fI s.heap.objs.size)) (.func F.body (NdefX.envF F fI s.heap.objs.size)) (execs rest (NdefX.envF F fI s.heap.objs.size)) _ _ s'
      | f => _) I T ea hs0 hN0 (S.par _ List.mem_cons_self) hks (S.frk _ List.mem_cons_self) rfl lk hp har rfl hcode hvs2 hfile htop (by show F.cl.lookup _ = _; rw [hcl]; rfl) hcell hms hany hsup hVE hsub hA (harg _ _ _ hl hsi) (fun s1 I1 => ?_) hst hsw hme) (fun f s1 q => q) fun e s1 q => q
  refine wpAt_of_wpAny (wpAny_mono (hS.run.run [] s1 _ H { nx := fun _ H' => Q .non H', rt := Q } I1 (sto_new T hs0 hsi h0 (fun q hq => ⟨hS.ok q hq, hno q hq⟩) hz ea hq)) (fun fl s' hs => ?_) fun e s' hs => hs)
  have fin : ∀ {σ' : L2.St} {H' : Hp} {v : V} {u : Value}, Inv (NdefX.ncx (L2.CX P w) P w K mg base N F fI A outer s H E) [] σ' H' s' → L2.RelV v u → Q v H' → CE outer P w H s Q u s' :=
    fun {σ' H' v u} J rv q => ⟨v, H', J.os, J.bare, J.base, J.hok, rv, q⟩
  cases fl with
  | ret u => obtain ⟨v, σ', H', J, rv, q⟩ := hs; exact fin J rv q
  | next => obtain ⟨σ', H', J, q⟩ := hs; exact fin (v := V.non) (u := Value.none) J rfl q
  | brk => obtain ⟨_, _, _, q⟩ := hs; exact False.elim q
  | cont => obtain ⟨_, _, _, q⟩ := hs; exact False.elim q
end DLX
set_option Elab.async false
set_option linter.all false
set_option maxRecDepth 100000
set_option maxHeartbeats 0
namespace DLX
open PySem PySem.Spec PyProof.Rows L2 PySem.W DL

/-- an own exception class of the text, ready to be made: n parameters, the fields l -/
structure ExC (P : Program) (w : World) (K : PySem.W.Frag) (mg : Str → Option Value) (base : Heap) (c : Str) (n : Nat) (l : List (Str × Src)) : Prop where
  ex : ∃ (C fI : Addr) (fd : FuncData) (ps : List Str), mg c = some (.ref C) ∧ OexC K C ∧ PySem.W.findIn K (.ref C) "__init__" = some (some (.ref fI)) ∧ PySem.W.typeIn K (.ref fI) = some (.type "function") ∧ Binds K fd ps [] ∧
    FnOk P w K mg base (L2.CX P w) 1 fI fd ps (spE C n l) ∧ ∀ q ∈ l, SrcOk n q.2
/-- its fields as data -/
def exF (ds : List DL.D) : List (Str × Src) → Option (List (Str × DL.D))
  | [] => some []
  | (f, .s _ cs) :: r => (exF ds r).map ((f, .str cs) :: ·)
  | (f, .p i) :: r => match ds[i]? with
    | some d => if d.flat then (exF ds r).map ((f, d) :: ·) else none
    | none => none
theorem exF_ok {Pw : Wd} {G : Hp} {vs : List V} {ds : List DL.D} (r : RepL Pw G vs ds) : ∀ (l : List (Str × Src)) (fs : List (Str × DL.D)), (∀ q ∈ l, SrcOk vs.length q.2) → exF ds l = some fs → ExF (vfs vs l) fs
  | [], fs, _, e => by cases e; exact fun f d z => nomatch z
  | (f, .s x cs) :: l, fs, h, e => by
    unfold exF at e
    cases e1 : exF ds l with
    | none => rw [e1] at e; cases e
    | some fs' =>
      rw [e1] at e
      cases e
      have ih := exF_ok r l fs' (fun q hq => h q (List.mem_cons_of_mem _ hq)) e1
      have hx : x.cps.toList = cs := h _ List.mem_cons_self
      intro g d z
      unfold List.lookup at z
      unfold vfs
      rw [List.map_cons]
      unfold List.lookup
      cases hg : (g == f) with
      | true =>
        simp only [hg] at z ⊢
        cases z
        exact ⟨_, rfl, hx⟩
      | false =>
        simp only [hg] at z ⊢
        exact ih g d z
  | (f, .p i) :: l, fs, h, e => by
    unfold exF at e
    cases e0 : ds[i]? with
    | none => rw [e0] at e; cases e
    | some di =>
      rw [e0] at e
      dsimp only at e
      split at e
      · rename_i hf
        cases e1 : exF ds l with
        | none => rw [e1] at e; cases e
        | some fs' =>
          rw [e1] at e
          cases e
          have ih := exF_ok r l fs' (fun q hq => h q (List.mem_cons_of_mem _ hq)) e1
          obtain ⟨v, ev, rv⟩ := r.getD e0
          intro g d z
          unfold List.lookup at z
          unfold vfs
          rw [List.map_cons]
          unfold List.lookup
          cases hg : (g == f) with
          | true =>
            simp only [hg] at z ⊢
            cases z
            refine ⟨_, rfl, ?_⟩
            have e2 : srcV vs (.p i) = v := by
              show vs.getD i .non = v
              rw [List.getD_eq_getElem?_getD, ev] <;> rfl
            rw [e2]
            cases rv with
            | non => trivial
            | bl b => rfl
            | int i => rfl
            | str x => rfl
            | _ => cases hf
          | false =>
            simp only [hg] at z ⊢
            exact ih g d z
      · cases e
/-- raise C(e, ..) -/
def raiseS (c : Str) (n : Nat) (l : List (Str × Src)) (fa : En → R (List DL.D)) : En → Out := fun ρ => (fa ρ).out ρ fun ds => if ds.length = n then (match exF ds l.reverse with
  | some fs => .ex c fs ρ
  | none => .st) else .st

section
variable {X : Cx} {CX : CXT} {k : Nat} {fd : FuncData} {ps : List Str} {sp : Sp} {dvs : List V} {ds : List Value} {p pos : Pos} {e : Expr} {es : List Expr} {ta : TA}
/-- C(..), C such a class, at the call itself -/
theorem exm_call {C fI : Addr} {pins : List (Addr × Obj)} {σ : L2.St} {H1 : Hp} {Q : XK} {us : List Value} {vs : List V} {s1 : Shared} (T : OexC X.K C) (iC : PySem.W.findIn X.K (.ref C) "__init__" = some (some (.ref fI))) (tI : PySem.W.typeIn X.K (.ref fI) = some (.type "function"))
    (F1 : FnOk X.prog X.w X.K X.mg X.base CX k fI fd ps sp) (hr : Room (k + 1) X.A) (hb : Binds X.K fd ps []) (hx : Passes CX X (fun _ _ _ => False)) (I1 : Inv X pins σ H1 s1) (r1 : Vals vs us) (hz : vs.length ≤ 1000)
    (q1 : ∀ a, H1 a = none → sp (.ref a :: vs) (upd H1 a (exo a C none)) (fun v H2 => v = .non ∧ ∃ (d : Addr) (fs : List (Str × V)), H2 a = some (exo a C (some d)) ∧ H2 d = some (exd d fs) ∧ H1 d = none ∧ Q (.ref C) (some d) (upd (del H2 a) d (.xd fs))) (fun _ _ _ => False)) :
    wpAny (model X.prog X.w) X.A (call (.ref C) us) (MkP X pins σ Q) X.xe s1 := by
  obtain ⟨cn, cq, cN, cbs, cbm, csn, csub, cab, ccol, cdd, x0, x1, x2, x3, x5, hC, hbm⟩ := T.cls
  obtain ⟨hp0, g0, dr0, tk0, os0⟩ := s1
  have sz0 : hp0.objs.size ≤ hp0.objs.size + 1 := Nat.le_succ _
  have n0 : H1 (hp0.objs.size + 1) = none := I1.hok.fresh sz0
  have hq0 := q1 (hp0.objs.size + 1) n0
  have kp0 : ∀ b o, hp0.get? b = some o → ((hp0.push (PySem.W.kdv_tup us)).push (PySem.HandSPX.excO C hp0.objs.size)).get? b = some o := fun b o z => Heap.get?_push_of_some _ (Heap.get?_push_of_some _ z)
  have at0 : ((hp0.push (PySem.W.kdv_tup us)).push (PySem.HandSPX.excO C hp0.objs.size)).get? (hp0.objs.size + 1) = some (PySem.HandSPX.excO C hp0.objs.size) := by heap_get
  have I2 : Inv X pins σ (upd H1 (hp0.objs.size + 1) (exo (hp0.objs.size + 1) C none)) ⟨(hp0.push (PySem.W.kdv_tup us)).push (PySem.HandSPX.excO C hp0.objs.size), g0, dr0, tk0, os0⟩ := I1.laid (t' := tk0) (a := hp0.objs.size + 1) (o := exo (hp0.objs.size + 1) C none) kp0 sz0 (exo_ok at0)
  have r2 : Vals (V.ref (hp0.objs.size + 1) :: vs) (Value.ref (hp0.objs.size + 1) :: us) := .cons rfl r1
  have hl : (Value.ref (hp0.objs.size + 1) :: us).length = ps.length := (F1.len _ _ _ _ hq0 ▸ r2.length).symm
  have hus : us.length ≤ sizeLine := by rw [← Paired.length r1, sizeLine_eq]; omega
  have hbb := hb _ (Value.ref (hp0.objs.size + 1) :: us) I2.kIn (by rw [List.append_nil]; exact hl)
  rw [List.append_nil] at hbb
  refine wpAny_call (PySem.HandSPX.call_own F.excBase_ValueError (fun Y => PySem.HandSPX.refsVE_contains Y cbm hbm) (I1.kIn _ _ hC) (PySem.W.looks_findIn I1.kIn iC) (fun self => PySem.W.bind_fn I1.kIn self tI) hus
    (codeAny_mono (F1.run _ X.stack _ _ ⟨Value.ref (hp0.objs.size + 1) :: us, []⟩ (Value.ref (hp0.objs.size + 1) :: us) _ _ (fun _ _ _ => False) (hr.make C us []) (I2.env0.make C us []) hbb r2 hq0) fun r s' hq' => ?_))
  match r, hq' with
  | .error er, hq' => exact hx pins σ _ _ er s' I2 hq'
  | .ok (.ret u), hq' =>
    obtain ⟨v, H2, os2, bare2, un2, hok2, rv, ev, d, fs, ea, ed, hd1, q2⟩ := hq'
    subst ev
    obtain ⟨h2, g2, d2, t2, os'⟩ := s'
    exact ⟨rv, mk_end (raises_own T.exC T.tyC) I1 sz0 kp0 un2 hok2 os2 bare2 ea ed hd1 q2⟩
  | .ok .next, hq' => exact False.elim hq'
  | .ok .brk, hq' => exact False.elim hq'
  | .ok .cont, hq' => exact False.elim hq'
/-- what the arguments are to give -/
def tMkE (C : Addr) (sp : Sp) (ta : TA) : L2.St → Hp → XK → Prop := fun σ H Q => ta σ H fun vs H1 => vs.length ≤ 1000 ∧ ∀ a, H1 a = none → sp (.ref a :: vs) (upd H1 a (exo a C none))
  (fun v H2 => v = .non ∧ ∃ (d : Addr) (fs : List (Str × V)), H2 a = some (exo a C (some d)) ∧ H2 d = some (exd d fs) ∧ H1 d = none ∧ Q (.ref C) (some d) (upd (del H2 a) d (.xd fs))) (fun _ _ _ => False)
theorem pmk_e {x : Str} {C fI : Addr} (T : OexC X.K C) (iC : PySem.W.findIn X.K (.ref C) "__init__" = some (some (.ref fI))) (tI : PySem.W.typeIn X.K (.ref fI) = some (.type "function"))
    (F1 : FnOk X.prog X.w X.K X.mg X.base CX k fI fd ps sp) (hr : Room (k + 1) X.A) (hb : Binds X.K fd ps []) (hx : Passes CX X (fun _ _ _ => False)) (hg : Gl X x) (hm : X.mg x = some (.ref C)) (ha : PA X (e :: es) ta)
    (hdb : (x == ("__debug__" : Str)) = false := by decide) (he : starEach (e :: es) X.env = (false, eval e X.env) :: starEach es X.env := by rfl) (hpl : (backTo pos (starEach es X.env)).any (·.1) = false := by rfl) :
    PMk X (.Call (.Name x p) (e :: es) [] pos) (tMkE C sp ta) := fun pins s σ H Q I h =>
  wpAny_Call_Name_kw (ld_glob I hg hm (PySem.W.callWith_K (h₀ := X.base) I.ok.mod.kin T.kC (thn (ha.run pos pins s σ H _ I h) fun us s1 ⟨vs, H1, I1, r1, hz, q1⟩ => ⟨I1.kIn, exm_call T iC tI F1 hr hb hx I1 r1 hz q1⟩) he hpl) hdb)
theorem pmk_e0 {x : Str} {C fI : Addr} (T : OexC X.K C) (iC : PySem.W.findIn X.K (.ref C) "__init__" = some (some (.ref fI))) (tI : PySem.W.typeIn X.K (.ref fI) = some (.type "function"))
    (F1 : FnOk X.prog X.w X.K X.mg X.base CX k fI fd ps sp) (hr : Room (k + 1) X.A) (hb : Binds X.K fd ps []) (hx : Passes CX X (fun _ _ _ => False)) (hg : Gl X x) (hm : X.mg x = some (.ref C))
    (hdb : (x == ("__debug__" : Str)) = false := by decide) : PMk X (.Call (.Name x p) [] [] pos) (tMkE C sp tNil) := fun pins s σ H Q I h =>
  wpAny_Call_Name_kw (ld_glob I hg hm (PySem.W.callWith_K0 I.kIn T.kC (exm_call (us := []) (vs := []) T iC tI F1 hr hb hx I .nil h.1 h.2)) hdb)
end
section
variable {P : Program} {w : World} {K : PySem.W.Frag} {mg : Str → Option Value} {base : Heap} {c : Str} {n : Nat} {l : List (Str × Src)}
variable {X : Cx} {B : Bs} {W : WX} {E : List Nat} {fa : En → R (List DL.D)} {e : Expr} {es : List Expr} {p pos pos' : Pos} {k' : Nat}
theorem raise_imp {C : Addr} {σ : L2.St} {H : Hp} {D : Ends} (hmC : B.P.mg c = some (.ref C)) (hs : ∀ q ∈ l, SrcOk n q.2) (hn : n ≤ 1000) (h : tS B W [] (raiseS c n l fa) D σ H) : tMkE C (spE C n l) (tA B W E fa) σ H fun cls d H' => W cls d σ H' := by
  obtain ⟨ρ, As, S, h⟩ := h
  refine tA_out S h fun ds vs H1 s1 S1 r1 q1 => ?_
  split at q1
  · rename_i hl
    cases e1 : exF ds l.reverse with
    | none => rw [e1] at q1; exact q1.elim
    | some fs =>
      rw [e1] at q1
      have hvl : vs.length = n := r1.len.trans hl
      have hs' : ∀ q ∈ l.reverse, SrcOk vs.length q.2 := fun q hq => by rw [hvl]; exact hs q (List.mem_reverse.mp hq)
      have hx := exF_ok r1 _ fs hs' e1
      have hz : vs.length ≤ 1000 := by omega
      refine ⟨hz, fun a ha => ⟨a, vs, rfl, hvl, upd_same, fun H2 d e2 e3 e4 e5 e6 => ⟨rfl, d, _, e2, e3, ?_, ?_⟩⟩⟩
      · rwa [upd_ne e5] at e4
      · have hd1 : H1 d = none := by rwa [upd_ne e5] at e4
        have sm : Same H1 (upd (del H2 a) d (.xd (vfs vs l.reverse))) := fun b o z => by
          have hba : b ≠ a := fun q => by rw [q, ha] at z; cases z
          have hbd : b ≠ d := fun q => by rw [q, hd1] at z; cases z
          rw [upd_ne hbd, del_ne hba, e6 b hba hbd, upd_ne hba]
          exact z
        exact q1 C d _ σ _ As (S1.same sm) (Kp.refl sm) hd1 hmC upd_same (fun i z => S1.hs i d z hd1) hx
  · exact q1.elim
/-- raise C(e, ..) -/
theorem s_raise {P' : Program} {w' : World} {K' : PySem.W.Frag} {mg' : Str → Option Value} {base' : Heap} (cx : ExC P' w' K' mg' base' c n l) (hr : Room k' X.A) (hk : 2 ≤ k') (hc : X.calm = true) (tk : Takes X W) (gl : Gl X c) (ha : PA X (e :: es) (tA B W E fa))
    (hn : n ≤ 1000 := by decide) (hP : X.prog = P' := by rfl) (hw : X.w = w' := by rfl) (hK : X.K = K' := by rfl) (hm : X.mg = mg' := by rfl) (hb : X.base = base' := by rfl) (hBm : B.P.mg = X.mg := by rfl) (hdb : (c == ("__debug__" : Str)) = false := by decide) (he : starEach (e :: es) X.env = (false, eval e X.env) :: starEach es X.env := by rfl) (hpl : (backTo pos (starEach es X.env)).any (·.1) = false := by rfl) :
    PS X (.Raise (some (.Call (.Name c p) (e :: es) [] pos)) none pos') (tS B W [] (raiseS c n l fa)) := by
  subst hP hw hK hm hb
  obtain ⟨C, fI, fd, ps, h1, h2, h3, h4, h5, h6, h7⟩ := cx.ex
  exact (ps_raise hc tk (pmk_e h2 h3 h4 h6 (hr.mono hk) h5 (passes_call tk fun _ _ _ _ z => z.elim) gl h1 ha hdb he hpl)).imp fun D σ H h => raise_imp (hBm ▸ h1) h7 hn h
/-- raise C() -/
theorem s_raise0 {P' : Program} {w' : World} {K' : PySem.W.Frag} {mg' : Str → Option Value} {base' : Heap} (cx : ExC P' w' K' mg' base' c 0 l) (hr : Room k' X.A) (hk : 2 ≤ k') (hc : X.calm = true) (tk : Takes X W) (gl : Gl X c)
    (hP : X.prog = P' := by rfl) (hw : X.w = w' := by rfl) (hK : X.K = K' := by rfl) (hm : X.mg = mg' := by rfl) (hb : X.base = base' := by rfl) (hBm : B.P.mg = X.mg := by rfl) (hdb : (c == ("__debug__" : Str)) = false := by decide) :
    PS X (.Raise (some (.Call (.Name c p) [] [] pos)) none pos') (tS B W [] (raiseS c 0 l aNil)) := by
  subst hP hw hK hm hb
  obtain ⟨C, fI, fd, ps, h1, h2, h3, h4, h5, h6, h7⟩ := cx.ex
  refine (ps_raise hc tk (pmk_e0 h2 h3 h4 h6 (hr.mono hk) h5 (passes_call tk fun _ _ _ _ z => z.elim) gl h1 hdb)).imp fun D σ H h => ?_
  obtain ⟨ρ, As, S, q⟩ := h
  have z := raise_imp (B := B) (W := W) (D := D) (E := []) (fa := aNil) (hBm ▸ h1) h7 (Nat.zero_le _) ⟨ρ, As, S, q⟩
  obtain ⟨ρ', As', S', z⟩ := z
  exact z [] H (Same.refl _) .nil
end
end DLX
set_option Elab.async false
set_option linter.all false
set_option maxRecDepth 100000
set_option maxHeartbeats 0
namespace DLX
open PySem PySem.Spec PyProof.Rows L2 PySem.W DL

/-- a clause: its class, the slot of its name, its suite -/
abbrev Clz := Value × Option Nat × (Addr → Value → Option Addr → TS)
def endI (D : Ends) (i : Nat) : Ends := { nx := fun τ G => D.nx (τ.set i none) G, rt := D.rt, bk := fun τ G => D.bk (τ.set i none) G, ct := fun τ G => D.ct (τ.set i none) G }
/-- what clauses wish of an exception of the body -/
def wMix (K : PySem.W.Frag) (Wo : WX) (D : Ends) : List Clz → WX
  | [] => Wo
  | (c, o, ts) :: r => fun cls d τ G => ∃ b, PySem.W.exmOne K cls c = some b ∧ (b = true → ∀ a, G a = none → (match o with
      | none => ts a cls d D τ G
      | some i => ts a cls d (endI D i) (τ.set i (some (.ref a))) G)) ∧ (b = false → wMix K Wo D r cls d τ G)
inductive ClsOk (X : Cx) : List ExceptHandler → List Clz → Prop
  | nil : ClsOk X [] []
  | one {x : Str} {c : Value} {ts : Addr → Value → Option Addr → TS} {s0 : Stmt} {sr : List Stmt} {np hp : Pos} {hds : List ExceptHandler} {l : List Clz} : Names X x c →
      (∀ (a : Addr) (oe : Obj) (cls : Value) (d : Option Addr) (pn : List (Addr × Obj)), Zc cls d oe → (∃ vs, oe.data = .fields vs) → PSs (X.suite a ((a, oe) :: pn)) (s0 :: sr) (ts a cls d)) → ClsOk X hds l →
      ClsOk X (.ExceptHandler (some (.Name x np)) none (s0 :: sr) hp :: hds) ((c, none, ts) :: l)
  | as {x n : Str} {i : Nat} {c : Value} {ts : Addr → Value → Option Addr → TS} {s0 : Stmt} {sr : List Stmt} {np hp : Pos} {hds : List ExceptHandler} {l : List Clz} : Names X x c → X.N[i]? = some n → X.env.kindOf n = some .local →
      (∀ (a : Addr) (oe : Obj) (cls : Value) (d : Option Addr) (pn : List (Addr × Obj)), Zc cls d oe → (∃ vs, oe.data = .fields vs) → PSs (X.suite a ((a, oe) :: pn)) (s0 :: sr) (ts a cls d)) → ClsOk X hds l →
      ClsOk X (.ExceptHandler (some (.Name x np)) (some n) (s0 :: sr) hp :: hds) ((c, some i, ts) :: l)
section
variable {X : Cx} {body : List Stmt} {h0 : ExceptHandler} {hds : List ExceptHandler} {l : List Clz} {pos : Pos} {tb : WX → TS} {Wo : WX}
theorem ps_try_mix (hs : X.stack = X.env :: X.outer) (hf : X.env.frame = some X.env.locals) (hN : X.N.Nodup) (tk : Takes X Wo)
    (hb : ∀ (W : WX) (pn : List (Addr × Obj)) (xe : Value → Shared → Prop), Takes (X.tr pn xe) W → PassesOwn (model X.prog X.w) X.A X.env xe → PSs (X.tr pn xe) body (tb W))
    (hh : ClsOk X (h0 :: hds) l) : PS X (.Try body (h0 :: hds) [] [] pos) (fun D τ G => tb (wMix X.K Wo D l) D τ G) := by
  refine ⟨fun pins s τ G D I h => ?_⟩
  have kk := I.ok
  have fr0 : X.A.frames = some (X.env :: X.outer) := by rw [kk.frames, hs]
  refine wpAny_Try_except ?_
  refine wpAny_mono ((hb (wMix X.K Wo D l) (X.pn ++ pins) (fun e s₁ => wpAny (model X.prog X.w) X.A (noteFrame e X.env) (fun _ s₂ => wpAny (model X.prog X.w) X.A (setFlight e none) (fun _ s₃ =>
    wpAny (model X.prog X.w) X.A (handleBy e X.env (h0 :: hds)) (SP X pins D) X.xe s₃) X.xe s₂) X.xe s₁) (fun u s' xx => ?_) PassesOwn.looking).run [] s τ G D (I.toTry _) h) (fun f s1 hsp => ?_) (fun e s1 he => he)
  · obtain ⟨a, B0, sI, pins', τ', G', cls, d, rfl, J', nb, up, sky, na, os, ag, w⟩ := xx
    have J : Inv X pins τ' G' sI := J'.ofTry kk
    have sky' : Sky B0 (X.env :: X.outer) a (Zc cls d) X.env.locals s'.heap := by rw [← hs]; exact sky
    show wpAny (model X.prog X.w) X.A (noteFrame (.ref a) X.env) _ _ _
    refine Sky.land Zc.steady fr0 hf sky' fun g3 fl3 up3 => ?_
    have J3 : Inv X pins τ' G' { s' with heap := g3 } := J.landed nb fl3.1 (up.trans up3) os ag
    obtain ⟨oe3, vs3, he3, hz3, hd3⟩ := fl3.there
    have nofr : ∀ {g : Heap} {o : Obj} {vs : Array Value}, g.FunFrames B0 (X.env :: X.outer) → g.get? a = some o → o.data = .fields vs → a ∉ frs (X.env :: X.outer) := fun {g o vs} ff e dd hm => by
      obtain ⟨_, o', e', hnf⟩ := ff.mem hm; rw [e] at e'; cases e'; exact hnf _ dd
    have nfr := nofr fl3.2.2.1 he3 hd3
    have nL : a ≠ X.env.locals := fun z => nfr (List.mem_filterMap.mpr ⟨X.env, List.mem_cons_self, by rw [hf, z]⟩)
    have nF : a ∉ X.fs := fun hm => by
      obtain ⟨e, he, q⟩ := List.mem_filterMap.mp hm; exact nfr (List.mem_filterMap.mpr ⟨e, List.mem_cons_of_mem _ he, q⟩)
    have S3 := J3.suite he3 hd3 na nL nF
    have tst : ∀ {x : Str} {c : Value} {np : Pos}, Names X x c → ∀ {Q : Value → Shared → Prop} {E : Value → Shared → Prop}, Q c { s' with heap := g3 } → wpAny (model X.prog X.w) (X.A.mark (some (.ref a))) (eval (.Name x np) X.env) Q E { s' with heap := g3 } := fun {x c np} hc {Q E} q => by
      obtain ⟨hg, hdbg, hm | ⟨hm, hv, hnn⟩⟩ := hc
      · exact ld_glob (X := X.suite a ((a, oe3) :: (X.pn ++ pins))) S3 hg hm q hdbg
      · exact ld_blt (X := X.suite a ((a, oe3) :: (X.pn ++ pins))) S3 hg hm hv q hnn hdbg
    have LT : PySem.W.Looks (model X.prog X.w) g3 (typeOf (.ref a)) cls := fun A Q E s k q => wpAny_typeOf_ref (k _ _ he3) (by rw [hz3.1]; exact q)
    have land : ∀ {t : Code} , True := fun {t} => trivial
    have go : ∀ {hds' : List ExceptHandler} {l' : List Clz}, ClsOk X hds' l' → wMix X.K Wo D l' cls d τ' G' → wpAny (model X.prog X.w) X.A (handleBy (.ref a) X.env hds') (SP X pins D) X.xe { s' with heap := g3 } := by
      intro hds' l' hk
      induction hk with
      | nil =>
        intro w
        refine wpAny_handleBy_nil ?_
        obtain ⟨k1, k2, k3, oe, vs, T, oT, ts', he, hz, hd, h1, hr⟩ := id fl3
        unfold PySem.passOn
        refine wpAny_bind (wpAny_field he hd h1 ?_)
        rw [if_neg (show ¬ ((Value.ref T == Value.none) = true) from by simp)]
        have fin : wpAny (model X.prog X.w) X.A (setFlight (.ref a) X.env.frame) (fun _ s4 => wpAny (model X.prog X.w) X.A (throw (.ref a) : Sem Flow) (SP X pins D) X.xe s4) X.xe { s' with heap := g3 } := by
          rw [hf]
          exact HandSPX.setFlight_upZ fl3 fun g4 hh4 up4 => wpAny_throw (tk _ _ ⟨a, B0, sI, pins, τ', G', cls, d, rfl, J, nb, (up.trans up3).trans up4, .inr (.inr (by rw [hs]; exact hh4)), na, os, ag, w⟩)
        first | exact wpAny_bind (wpAny_pure (wpAny_bind fin)) | exact wpAny_bind fin
      | @one x c ts s0 sr np hp hds2 l2 hc hsu r ih =>
        intro w
        obtain ⟨b, hb1, hyes, hno⟩ := w
        refine wpAny_handleBy_cons (codeAny_handlers_test ?_) (by intro q; cases q)
        refine tst hc ((PySem.W.exm_one (M := model X.prog X.w) (J3.kIn) LT hb1).here ?_)
        cases b with
        | true =>
          refine codeAny_handlers_suite (HandSPX.lands_againZ fl3 fun g4 fl4 up4 => ?_)
          have J4 : Inv X pins τ' G' { s' with heap := g4 } := J.landed nb fl4.1 ((up.trans up3).trans up4) os ag
          obtain ⟨oe4, vs4, he4, hz4, hd4⟩ := fl4.there
          refine wpAny_mono ((hsu a oe4 cls d (X.pn ++ pins) hz4 ⟨_, hd4⟩).run [] _ _ G' _ (J4.suite he4 hd4 na nL nF) (hyes rfl a na)) (fun f s6 hsp => ?_) (fun _ _ z => False.elim z)
          cases f with
          | ret u => obtain ⟨v6, τ6, G6, S6, r6, q6⟩ := hsp; exact ⟨_, _, _, S6.unsuite kk, r6, q6⟩
          | _ => obtain ⟨τ6, G6, S6, q6⟩ := hsp; exact ⟨_, _, S6.unsuite kk, q6⟩
        | false => exact ih (hno rfl)
      | @as x n i c ts s0 sr np hp hds2 l2 hc hi hln hsu r ih =>
        intro w
        obtain ⟨b, hb1, hyes, hno⟩ := w
        refine wpAny_handleBy_cons (codeAny_handlers_test ?_) (by intro q; cases q)
        refine tst hc ((PySem.W.exm_one (M := model X.prog X.w) (J3.kIn) LT hb1).here ?_)
        cases b with
        | true =>
          refine codeAny_handlers_suite_as (HandSPX.lands_againZ fl3 fun g4 fl4 up4 => ?_)
          have J4 : Inv X pins τ' G' { s' with heap := g4 } := J.landed nb fl4.1 ((up.trans up3).trans up4) os ag
          obtain ⟨oe4, vs4, he4, hz4, hd4⟩ := fl4.there
          refine store_ok (X := X.suite a ((a, oe4) :: (X.pn ++ pins))) (v := .ref a) (J4.suite he4 hd4 na nL nF) hN hi (.inl hln) rfl (fun s5 S5 => ?_) (.inr hln)
          refine wpAny_mono ((hsu a oe4 cls d (X.pn ++ pins) hz4 ⟨_, hd4⟩).run [] s5 _ G' _ S5 (hyes rfl a na)) (fun f s6 hsp => ?_) (fun _ _ z => False.elim z)
          have gone : ∀ {τ6 : L2.St} {G6 : Hp} {Q : Shared → Prop}, Inv (X.suite a ((a, oe4) :: (X.pn ++ pins))) [] τ6 G6 s6 → (∀ s7, Inv X pins (τ6.set i none) G6 s7 → Q s7) →
              wpAny (model X.prog X.w) X.A (do bindName X.env n .none; unbindBehindTheSuite X.env n hp) (fun _ s7 => Q s7) X.xe s6 := fun {τ6 G6 Q} S6 hq => gone_ok (S6.unsuite kk) hN hi hln hq
          cases f with
          | ret u => obtain ⟨v6, τ6, G6, S6, r6, q6⟩ := hsp; exact gone S6 fun s7 J7 => ⟨_, _, _, J7, r6, q6⟩
          | next => obtain ⟨τ6, G6, S6, q6⟩ := hsp; exact gone S6 fun s7 J7 => ⟨_, _, J7, q6⟩
          | brk => obtain ⟨τ6, G6, S6, q6⟩ := hsp; exact gone S6 fun s7 J7 => ⟨_, _, J7, q6⟩
          | cont => obtain ⟨τ6, G6, S6, q6⟩ := hsp; exact gone S6 fun s7 J7 => ⟨_, _, J7, q6⟩
        | false => exact ih (hno rfl)
    exact go hh w
  · cases f with
    | next => obtain ⟨τ', G', J', q⟩ := hsp; exact wpAny_execs_nil ⟨τ', G', J'.ofTry kk, q⟩
    | ret u => obtain ⟨v, τ', G', J', r, q⟩ := hsp; exact ⟨v, τ', G', J'.ofTry kk, r, q⟩
    | brk => obtain ⟨τ', G', J', q⟩ := hsp; exact ⟨τ', G', J'.ofTry kk, q⟩
    | cont => obtain ⟨τ', G', J', q⟩ := hsp; exact ⟨τ', G', J'.ofTry kk, q⟩
end
end DLX
set_option Elab.async false
set_option linter.all false
set_option maxRecDepth 100000
set_option maxHeartbeats 0
namespace DLX
open PySem PySem.Spec PyProof.Rows L2 PySem.W DL

def plainD : DL.D → Bool
  | .tup ds => ds.all DL.D.flat
  | d => d.flat
def nones (n : Nat) : En := List.replicate n none
def hdEnd (n : Nat) : Out → Out
  | .rt (.sh d) _ => if plainD d then .rt (.sh d) (nones n) else .st
  | _ => .st
def noEx : Out → Out
  | .ex _ _ _ => .st
  | o => o
/-- a clause's reading: which classes it takes; the slot of its name and its own class; its suite -/
structure HdR where
  tab : List (Str × Bool)
  nm : Option (Nat × Str)
  body : En → Out
def hdGo (c : Str) (fs : List (Str × DL.D)) (ρ : En) : List HdR → Out
  | [] => .ex c fs ρ
  | ⟨tab, nm, h⟩ :: r => match tab.lookup c with
    | some true => (match nm with
      | none => noEx (h ρ)
      | some (i, T) => if c = T then hdEnd ρ.length (h ((nones ρ.length).set i (some (.sh (.exn c fs))))) else .st)
    | some false => hdGo c fs ρ r
    | none => .st
def tryS (b : En → Out) (l : List HdR) : En → Out := fun ρ => match b ρ with
  | .ex c fs ρ' => hdGo c fs ρ' l
  | o => o
def hotB (B : Bs) (a C dx : Addr) : Bs := ⟨⟨B.P.K, B.P.mg, some (a, .ref C, some dx)⟩, B.O, B.A0, B.H0⟩
def W0 : WX := fun _ _ _ _ => False
/-- the clause's class takes exactly these -/
def TabOk (K : PySem.W.Frag) (mg : Str → Option Value) (tab : List (Str × Bool)) (cv : Value) : Prop := ∀ c b C, tab.lookup c = some b → mg c = some (.ref C) → PySem.W.exmOne K (.ref C) cv = some b
inductive HdOk (X : Cx) (B : Bs) (M : List Nat) : List ExceptHandler → List HdR → Prop
  | nil : HdOk X B M [] []
  | one {x : Str} {D : Addr} {tab : List (Str × Bool)} {h : En → Out} {M0 : List Nat} {s0 : Stmt} {sr : List Stmt} {np hp : Pos} {hds : List ExceptHandler} {l : List HdR} : Gl X x → (x == ("__debug__" : Str)) = false → X.mg x = some (.ref D) → TabOk X.K X.mg tab (.ref D) → (∀ i ∈ M0, i ∈ M) →
      (∀ (a : Addr) (oe : Obj) (cls : Value) (d : Option Addr) (pn : List (Addr × Obj)), Zc cls d oe → (∃ vs, oe.data = .fields vs) → PSs (X.suite a ((a, oe) :: pn)) (s0 :: sr) (tS B W0 M0 h)) → HdOk X B M hds l →
      HdOk X B M (.ExceptHandler (some (.Name x np)) none (s0 :: sr) hp :: hds) (⟨tab, none, h⟩ :: l)
  | as {x n : Str} {i : Nat} {D : Addr} {tab : List (Str × Bool)} {h : En → Out} {M0 : List Nat} {s0 : Stmt} {sr : List Stmt} {np hp : Pos} {hds : List ExceptHandler} {l : List HdR} : Gl X x → (x == ("__debug__" : Str)) = false → X.mg x = some (.ref D) → TabOk X.K X.mg tab (.ref D) → (∀ j ∈ M0, j ∈ M) → i ∈ M → X.N[i]? = some n → X.env.kindOf n = some .local →
      (∀ (a : Addr) (oe : Obj) (C dx : Addr) (pn : List (Addr × Obj)), X.mg x = some (.ref C) → Zc (.ref C) (some dx) oe → (∃ vs, oe.data = .fields vs) → PSs (X.suite a ((a, oe) :: pn)) (s0 :: sr) (tS (hotB B a C dx) W0 M0 h)) → HdOk X B M hds l →
      HdOk X B M (.ExceptHandler (some (.Name x np)) (some n) (s0 :: sr) hp :: hds) (⟨tab, some (i, x), h⟩ :: l)

theorem RepL.flats {P P' : Wd} {G G' : Hp} : ∀ (ds : List DL.D) (vs : List V), RepL P G vs ds → ds.all DL.D.flat = true → RepL P' G' vs ds
  | [], _, h, _ => by cases h; exact .nil
  | d :: ds, _, h, f => by
    cases h with
    | cons r1 r2 =>
      rw [List.all_cons, Bool.and_eq_true] at f
      exact .cons (Rep.flat r1 f.1) (RepL.flats ds _ r2 f.2)
theorem Rep.plain {P P' : Wd} {G G' : Hp} {v : V} {d : DL.D} (hK : P'.K = P.K) (s : Same G G') (h : Rep P G v d) (f : plainD d = true) : Rep P' G' v d := by
  cases h with
  | tup h1 h2 => exact .tup (by rw [hK]; exact SqT.same s h1) (RepL.flats _ _ h2 f)
  | non => exact .non
  | bl b => exact .bl b
  | int i => exact .int i
  | str x => exact .str x
  | _ => cases f
section
variable {B : Bs} {W : WX} {M : List Nat} {X : Cx}
theorem sta_nones {σ : L2.St} {H : Hp} {ρ : En} {As : Ow} (S : Sta B σ H ρ As) {n : Nat} (hn : σ.length = n) : Sta B σ H (nones n) (fun _ => []) where
  len := by unfold nones; rw [List.length_replicate, hn]
  pt := fun i od e => by
    unfold nones at e
    rw [List.getElem?_replicate] at e
    split at e <;> cases e
  nd := fun _ => List.nodup_nil
  dj := fun _ _ _ h => nomatch h
  ow := fun _ _ h => nomatch h
  no := fun _ _ h => nomatch h
  hs := fun _ _ h => nomatch h
  ob := S.ob
  fr := S.fr
  th := S.th
theorem sta_hot {σ : L2.St} {H : Hp} {ρ : En} {As : Ow} (S : Sta B σ H ρ As) {a C dx : Addr} {c : Str} {fs : List (Str × DL.D)} {xs : List (Str × V)} (i : Nat) (hm : B.P.mg c = some (.ref C)) (hd : H dx = some (.xd xs)) (nO : ¬ B.O dx) (xf : ExF xs fs) :
    Sta (hotB B a C dx) (σ.set i (some (.ref a))) H ((nones ρ.length).set i (some (.sh (.exn c fs)))) (fun _ => []) where
  len := by unfold nones; rw [List.length_set, List.length_set, List.length_replicate, S.len]
  pt := fun j od e => by
    by_cases hj : j = i
    · subst hj
      unfold nones at e
      have hl : j < ρ.length := by
        have := (List.getElem?_eq_some_iff.mp e).1
        rw [List.length_set, List.length_replicate] at this
        exact this
      rw [List.getElem?_set_self (by rw [List.length_replicate]; exact hl)] at e
      cases e
      refine ⟨_, List.getElem?_set_self (by rw [S.len]; exact hl), .sh (.exn rfl hm (cut_of ?_ hd) xf)⟩
      rintro (z | ⟨_, _, z⟩)
      · exact nO z
      · cases z
    · rw [List.getElem?_set_ne (Ne.symm hj)] at e
      unfold nones at e
      rw [List.getElem?_replicate] at e
      split at e <;> cases e
  nd := fun _ => List.nodup_nil
  dj := fun _ _ _ h => nomatch h
  ow := fun _ _ h => nomatch h
  no := fun _ _ h => nomatch h
  hs := fun _ _ h => nomatch h
  ob := S.ob
  fr := S.fr
  th := S.th
theorem kp_set {σ : L2.St} {H : Hp} {As : Ow} {i : Nat} {v : Option V} (hi : i ∈ M) : Kp M σ H As (σ.set i v) H (fun _ => []) where
  k0 := List.length_set
  k1 := fun j hj => List.getElem?_set_ne (fun e => hj (by rw [← e]; exact hi))
  k2 := fun _ _ h => nomatch h
  k3 := fun a o e _ => e
  k4 := fun a h => h
theorem kp_none {σ : L2.St} {H : Hp} {As : Ow} : Kp M σ H As σ H (fun _ => []) where
  k0 := rfl
  k1 := fun j hj => rfl
  k2 := fun _ _ h => nomatch h
  k3 := fun a o e _ => e
  k4 := fun a h => h
theorem Kp.two {σ σ1 σ2 : L2.St} {H H1 H2 : Hp} {As A1 A2 : Ow} (a : Kp M σ H As σ1 H1 A1) (b : Kp M σ1 H1 A1 σ2 H2 A2) : Kp M σ H As σ2 H2 A2 := (a.trans b).mono fun i hi => (List.mem_append.mp hi).elim id id
theorem HdOk.cls {hds : List ExceptHandler} {l : List HdR} (h : HdOk X B M hds l) (hmg : B.P.mg = X.mg) (hKB : B.P.K = X.K) : ∃ l' : List Clz, ClsOk X hds l' ∧
    ∀ (D : Ends) (σ τ : L2.St) (H G : Hp) (As A1 : Ow) (ρ : En) (c : Str) (C dx : Addr) (xs : List (Str × V)) (fs : List (Str × DL.D)), Sta B τ G ρ A1 → Kp M σ H As τ G A1 → H dx = none → B.P.mg c = some (.ref C) → G dx = some (.xd xs) → (∀ i, dx ∉ A1 i) → ¬ B.O dx → ExF xs fs →
      (hdGo c fs ρ l).go B W M σ H As D → wMix X.K W D l' (.ref C) (some dx) τ G := by
  induction h with
  | nil => exact ⟨[], .nil, fun D σ τ H G As A1 ρ c C dx xs fs S k nd mc hd na nO xf q => q C dx xs τ G A1 S k nd mc hd na xf⟩
  | @one x Da tab h M0 s0 sr np hp hds l g1 g2 g3 g4 g5 g6 g7 ih =>
    obtain ⟨l', hl', ih⟩ := ih
    refine ⟨(.ref Da, none, fun a cls d => tS B W0 M0 h) :: l', .one ⟨g1, g2, .inl g3⟩ g6 hl', fun D σ τ H G As A1 ρ c C dx xs fs S k nd mc hd na nO xf q => ?_⟩
    unfold hdGo at q
    cases e : tab.lookup c with
    | none => rw [e] at q; exact q.elim
    | some b =>
      rw [e] at q
      refine ⟨b, g4 c b C e (hmg ▸ mc), fun hb a na' => ?_, fun hb => ?_⟩
      · subst hb
        dsimp only at q ⊢
        refine ⟨ρ, A1, S, ?_⟩
        revert q
        cases h ρ with
        | nx ρ' => exact fun q σ' H' As' S' k' => q σ' H' As' S' (Kp.two k (k'.mono g5))
        | bk ρ' => exact fun q σ' H' As' S' k' => q σ' H' As' S' (Kp.two k (k'.mono g5))
        | ct ρ' => exact fun q σ' H' As' S' k' => q σ' H' As' S' (Kp.two k (k'.mono g5))
        | rt od ρ' => exact fun q v A σ' H' As' S' k' => q v A σ' H' As' S' (Kp.two k (k'.mono g5))
        | ex c fs ρ' => exact fun q => q.elim
        | st => exact fun q => q.elim
      · subst hb
        exact ih D σ τ H G As A1 ρ c C dx xs fs S k nd mc hd na nO xf q
  | @as x n i Da tab h M0 s0 sr np hp hds l g1 g2 g3 g4 g5 gi gN gk g6 g7 ih =>
    obtain ⟨l', hl', ih⟩ := ih
    refine ⟨(.ref Da, some i, fun a cls d => fun D τ G => ∃ C dx, cls = .ref C ∧ d = some dx ∧ X.mg x = some (.ref C) ∧ tS (hotB B a C dx) W0 M0 h D τ G) :: l', .as ⟨g1, g2, .inl g3⟩ gN gk (fun a oe cls d pn hz hf => ⟨fun pins s σ H D I ⟨C, dx, e1, e2, hm, q⟩ => ?_⟩) hl', fun D σ τ H G As A1 ρ c C dx xs fs S k nd mc hd na nO xf q => ?_⟩
    · subst e1 e2
      exact (g6 a oe C dx pn hm hz hf).run pins s σ H D I q
    unfold hdGo at q
    cases e : tab.lookup c with
    | none => rw [e] at q; exact q.elim
    | some b =>
      rw [e] at q
      refine ⟨b, g4 c b C e (hmg ▸ mc), fun hb a na' => ?_, fun hb => ?_⟩
      · subst hb
        dsimp only at q ⊢
        split at q
        · rename_i hc
          subst hc
          refine ⟨C, dx, rfl, rfl, hmg ▸ mc, _, _, sta_hot S i mc hd nO xf, ?_⟩
          revert q
          cases h ((nones ρ.length).set i (some (.sh (.exn c fs)))) with
          | rt od ρ' =>
            cases od with
            | sh d =>
              intro q v A σ' H' As' S' k' nA fA dA ro
              unfold hdEnd at q
              dsimp only at q
              by_cases hp : plainD d = true
              · rw [if_pos hp] at q
                cases ro with
                | sh r =>
                  have hn : σ'.length = ρ.length := by rw [k'.k0, List.length_set, S.len]
                  have S2 : Sta B σ' H' (nones ρ.length) (fun _ => []) := { sta_nones (B := hotB B a C dx) S' hn with pt := fun i od e => by unfold nones at e; rw [List.getElem?_replicate] at e; split at e <;> cases e }
                  refine q v [] σ' H' _ S2 (Kp.two k (Kp.two (kp_set gi) (Kp.two (k'.mono g5) kp_none))) List.nodup_nil (fun _ z => nomatch z) (fun _ z => nomatch z) (.sh (Rep.plain (P := (hotB B a C dx).P) rfl (cut_mono (Same.refl _) fun a z => ?_) r hp))
                  rcases z with (z | ⟨_, _, z⟩) | z
                  · exact .inl (.inl z)
                  · cases z
                  · cases z
              · rw [if_neg hp] at q
                exact q.elim
            | _ => exact fun q => q.elim
          | _ => exact fun q => q.elim
        · exact q.elim
      · subst hb
        exact ih D σ τ H G As A1 ρ c C dx xs fs S k nd mc hd na nO xf q
/-- try: .. except C as e: .. -/
theorem s_try {body : List Stmt} {h0 : ExceptHandler} {hds : List ExceptHandler} {l : List HdR} {pos : Pos} {b : En → Out} {Mb : List Nat} (Mh : List Nat) (hN : X.N.Nodup) (tk : Takes X W)
    (hb : ∀ (W' : WX) (pn : List (Addr × Obj)) (xe : Value → Shared → Prop), Takes (X.tr pn xe) W' → PassesOwn (model X.prog X.w) X.A X.env xe → PSs (X.tr pn xe) body (tS B W' Mb b))
    (hh : HdOk X B (Mb ++ Mh) (h0 :: hds) l) (hs : X.stack = X.env :: X.outer := by rfl) (hf : X.env.frame = some X.env.locals := by rfl) (hmg : B.P.mg = X.mg := by rfl) (hKB : B.P.K = X.K := by rfl) : PS X (.Try body (h0 :: hds) [] [] pos) (tS B W (Mb ++ Mh) (tryS b l)) := by
  obtain ⟨l', hl', hw⟩ := hh.cls (W := W) hmg hKB
  refine (ps_try_mix hs hf hN tk hb hl').imp fun D σ H ⟨ρ, As, S, q⟩ => ⟨ρ, As, S, ?_⟩
  have hl : ∀ i ∈ Mb, i ∈ Mb ++ Mh := fun i hi => List.mem_append_left _ hi
  unfold tryS at q
  cases e : b ρ with
  | nx ρ' => rw [e] at q; exact fun σ' H' As' S' k' => q σ' H' As' S' (k'.mono hl)
  | rt d ρ' => rw [e] at q; exact fun v A σ' H' As' S' k' => q v A σ' H' As' S' (k'.mono hl)
  | bk ρ' => rw [e] at q; exact fun σ' H' As' S' k' => q σ' H' As' S' (k'.mono hl)
  | ct ρ' => rw [e] at q; exact fun σ' H' As' S' k' => q σ' H' As' S' (k'.mono hl)
  | st => rw [e] at q; exact q
  | ex c fs ρ' =>
    rw [e] at q
    intro C dx xs σ' H' As' S' k' nd mc hd na xf
    exact hw D σ σ' H H' As As' ρ' c C dx xs fs S' (k'.mono hl) nd mc hd na (fun z => absurd nd (S.ob dx z)) xf q
end
/-! ### e.f -/
def fldE (n : Str) (i : Nat) : En → R DL.D := fun ρ => match ρ[i]? with
  | some (some (.sh (.exn _ fs))) => .ofO (fs.lookup n)
  | _ => .st
theorem rep_flatV {P : Wd} {G : Hp} {v : V} {d : DL.D} (h : FlatV v d) : Rep P G v d := by
  cases v <;> cases d <;> first | exact .non | (cases h; exact .bl _) | (cases h; exact .int _) | (cases h; exact .str _) | exact h.elim
theorem d_xf {X : Cx} {B : Bs} {W : WX} {a C dx : Addr} {oe : Obj} {pn : List (Addr × Obj)} {i : Nat} {x n : Str} {p pos : Pos} (T : XfC X.K C) (hno : PySem.W.findIn X.K (.ref C) n = some none) (hz : Zc (.ref C) (some dx) oe) (hf : ∃ vs, oe.data = .fields vs)
    (he : PE (X.suite a ((a, oe) :: pn)) (.Name x p) (tVar i)) (hb : attributeBase (.Name x p) n X.env (eval (.Name x p) X.env) = eval (.Name x p) X.env := by rfl) : PE (X.suite a ((a, oe) :: pn)) (.Attribute (.Name x p) n pos) (tD (hotB B a C dx) W [] (fldE n i)) :=
  (pe_xf T hno hz hf he hb).imp fun σ H Q ⟨ρ, As, S, q⟩ => by
    unfold fldE at q
    split at q
    · rename_i c fs e
      obtain ⟨v, e1, r⟩ := S.pt i _ e
      generalize As i = A0 at r
      cases r with
      | sh r =>
        cases r with
        | exn h1 h2 h3 h4 =>
          cases h1
          cases e2 : fs.lookup n with
          | none => rw [e2] at q; exact q.elim
          | some d =>
            rw [e2] at q
            obtain ⟨u, e3, fv⟩ := h4 n d e2
            exact ⟨_, e1, rfl, rfl, dx, _, u, rfl, (cut_some h3).2, e3, q u H (Same.refl _) (rep_flatV fv)⟩
    · exact q.elim
end DLX
set_option Elab.async false
set_option linter.all false
set_option maxRecDepth 100000
set_option maxHeartbeats 0
namespace DLX
open PySem PySem.Spec PyProof.Rows L2 PySem.W DL He

/-! ### an exception class of the text, read off the heap -/
structure ExD where
  c : Str
  qual : Str
  params : Arguments
  body : List Stmt
  scope : Scope
  flds : List Str
abbrev FnI : Type := Option (Str × Str × Arguments × FuncBody × Scope × Addr × Addr)
def iniW (K : PySem.W.Frag) (c : Str) : FnI := match K.lookup (ma K (ga K c) "__init__") with
  | some ⟨_, _, .func fd, _⟩ => some (fd.name, fd.qualname, fd.params, fd.body, fd.scope, fd.globals, fd.builtins)
  | _ => none
def ExD.val (d : ExD) : FnI := some ("__init__", d.qual, d.params, .stmts d.body, d.scope, mainGlobals, builtinsNs)
def clsB (K : PySem.W.Frag) (C : Addr) : Bool := match K.lookup C with
  | some ⟨.type "type", _, .cls cd, sl⟩ => (match cd.mro, sl.toList with
    | .ref C' :: bm, [_, _, _, _, some (.builtin n), _] => C' == C && n == "ValueError.__new__" && !cd.hasDel && cd.hasDict && PySem.HandSPX.refsVE bm
    | _, _ => false)
  | _ => false
theorem clsB_ok {K : PySem.W.Frag} {C : Addr} (q : clsB K C = true) : ∃ nm q N bs bm sn sub ab col dd k0 k1 k2 k3 k5, K.lookup C = some (excClassObj nm q C N bs bm true sn sub ab col dd k0 k1 k2 k3 k5 "ValueError.__new__") ∧ PySem.HandSPX.refsVE bm = true := by
  unfold clsB at q
  split at q
  · rename_i dd cd sl ho
    split at q
    · rename_i C' bm k0 k1 k2 k3 n k5 hm hs
      simp only [Bool.and_eq_true, beq_iff_eq, Bool.not_eq_true'] at q
      obtain ⟨⟨⟨⟨rfl, rfl⟩, hdel⟩, hdct⟩, ht⟩ := q
      obtain ⟨nm, bs, mro, ns, qn, hd, sn, sub, ab, col, del⟩ := cd
      dsimp only at hm hdel hdct
      subst hm hdel hdct
      obtain ⟨l⟩ := sl
      simp only at hs
      subst hs
      exact ⟨nm, qn, ns, bs, bm, sn, sub, ab, col, dd, k0, k1, k2, k3, k5, ho, ht⟩
    · cases q
  · cases q
def iniB (file : Str) (K : PySem.W.Frag) (C fI : Addr) : Bool := match K.lookup fI with
  | some ⟨_, _, .func ⟨_, n2, _, _, _, _, n7, .none, .none, _, _, none, .ref cda, _, _⟩, _⟩ => (match n7 with
    | [(x, cc)] => decide (x = "__class__") && (match K.lookup cc with
      | some ⟨_, _, .cell (some (.ref D)), _⟩ => D == C
      | _ => false)
    | _ => false) && (codeIn K (.ref cda) n2 && (match K.lookup cda with
      | some ⟨_, _, Data.fields vs, _⟩ => (match (vs[2]? : Option Value) with
        | some (Value.str f _) => f == file
        | _ => false)
      | _ => false))
  | _ => false
theorem iniB_ok {file : Str} {K : PySem.W.Frag} {C fI : Addr} (q : iniB file K C fI = true) : ∃ (oc : Value) (od : Option Addr) (osl : Array (Option Value)) (nm qual : Str) (ps : Arguments) (bd : FuncBody) (sc : Scope) (gl : Addr) (cc cda : Addr) (doc pm ct : Value) (bl : Addr) (cl : Value) (cld : Option Addr) (csl : Array (Option Value)) (ccl : Value) (cdd : Option Addr) (vs : Array Value) (ccs : Array (Option Value)) (tf : Tok),
    K.lookup fI = some ⟨oc, od, .func ⟨nm, qual, ps, bd, sc, gl, [("__class__", cc)], .none, .none, doc, pm, none, .ref cda, ct, bl⟩, osl⟩ ∧ K.lookup cc = some ⟨cl, cld, .cell (some (.ref C)), csl⟩ ∧ codeIn K (.ref cda) qual = true ∧ K.lookup cda = some ⟨ccl, cdd, .fields vs, ccs⟩ ∧ vs[2]? = some (.str file tf) := by
  unfold iniB at q
  split at q
  · rename_i oc od nm qual ps bd sc gl n7 doc pm cda ct bl osl e1
    rw [Bool.and_eq_true, Bool.and_eq_true] at q
    obtain ⟨q1, q2, q3⟩ := q
    split at q1
    · rename_i x cc
      rw [Bool.and_eq_true] at q1
      obtain ⟨qx, q1⟩ := q1
      have qx := of_decide_eq_true qx
      subst qx
      split at q1
      · rename_i cl cld D csl e2
        have := beq_iff_eq.mp q1
        subst this
        split at q3
        · rename_i ccl cdd vs ccs e3
          split at q3
          · rename_i f tf e4
            have := beq_iff_eq.mp q3
            subst this
            exact ⟨oc, od, osl, nm, qual, ps, bd, sc, gl, cc, cda, doc, pm, ct, bl, cl, cld, csl, ccl, cdd, vs, ccs, tf, e1, e2, q2, e3, e4⟩
          · cases q3
        · cases q3
      · cases q1
    · cases q1
  · cases q
structure IsC (K : PySem.W.Frag) (D : Addr) : Prop where
  hcl : (clsIn K D).isSome = true
  hg : findIn K (.ref D) "__getattribute__" = some (some (.builtin "BaseException.__getattribute__"))
  hk : findIn K (.ref D) "__getattr__" = some none
  hs : subIn K (.ref D) (.type "BaseException") = some true
  ha : findIn K (.ref D) "__class__" = some (some (.builtin "object.__class__"))
  hn : specialIn K (.builtin "object.__class__") "__get__" = some (some (.builtin "getset_descriptor.__get__"))
  ht : takesIn K (.builtin "object.__class__") = some true
  hm : mroIn K D (.type "object") = some true
def isB (K : PySem.W.Frag) (D : Addr) : Bool := (clsIn K D).isSome && (decide (findIn K (.ref D) "__getattribute__" = some (some (.builtin "BaseException.__getattribute__"))) && (decide (findIn K (.ref D) "__getattr__" = some none) && (decide (subIn K (.ref D) (.type "BaseException") = some true) && (decide (findIn K (.ref D) "__class__" = some (some (.builtin "object.__class__"))) &&
  (decide (specialIn K (.builtin "object.__class__") "__get__" = some (some (.builtin "getset_descriptor.__get__"))) && (decide (takesIn K (.builtin "object.__class__") = some true) && decide (mroIn K D (.type "object") = some true)))))))
theorem isB_ok {K : PySem.W.Frag} {D : Addr} (h : isB K D = true) : IsC K D := by
  unfold isB at h
  simp only [Bool.and_eq_true, decide_eq_true_eq] at h
  obtain ⟨h1, h2, h3, h4, h5, h6, h7, h8⟩ := h
  exact ⟨h1, h2, h3, h4, h5, h6, h7, h8⟩
def ExD.ok (file : Str) (K : PySem.W.Frag) (d : ExD) : Bool :=
  clsB K (ga K d.c) && (isB K (ga K d.c) && (eqO (findIn K (.ref (ga K d.c)) "__setattr__") (some (some (.builtin "object.__setattr__"))) && (decide (subIn K (.ref (ga K d.c)) (.type "BaseException") = some true) && (decide (typeIn K (.ref (ga K d.c)) = some (.type "type")) && (keepIn K (.ref (ga K d.c)) &&
  (eqO (findIn K (.ref (ga K d.c)) "__init__") (some (some (.ref (ma K (ga K d.c) "__init__")))) && (decide (typeIn K (.ref (ma K (ga K d.c) "__init__")) = some (.type "function")) && (iniB file K (ga K d.c) (ma K (ga K d.c) "__init__") &&
  (eqO (ks_superIn K (ga K d.c) (ga K d.c) "__init__") (some (some (.builtin "ValueError.__init__"))) && (decide (subIn K (.ref (ga K d.c)) (.type "ValueError") = some true) && (decide (mroIn K (ga K d.c) (.ref (ga K d.c)) = some true) &&
  (xfB K (ga K d.c) && (d.flds.all (fun f => eqO (findIn K (.ref (ga K d.c)) f) (some none)) && eqO (nsIn K mainGlobals d.c) (some (some (.ref (ga K d.c)))))))))))))))))
/-- what the head says of an exception class -/
structure ExH (P : Program) (K : PySem.W.Frag) (mg : Str → Option Value) (d : ExD) : Prop where
  mgc : mg d.c = some (.ref (ga K d.c))
  oc : OexC K (ga K d.c)
  iC : findIn K (.ref (ga K d.c)) "__init__" = some (some (.ref (ma K (ga K d.c) "__init__")))
  tI : typeIn K (.ref (ma K (ga K d.c) "__init__")) = some (.type "function")
  ini : ∃ (oc : Value) (od : Option Addr) (osl : Array (Option Value)) (cc cda : Addr) (doc pm ct : Value) (cl : Value) (cld : Option Addr) (csl : Array (Option Value)) (ccl : Value) (cdd : Option Addr) (vs : Array Value) (ccs : Array (Option Value)) (file : Str) (tf : Tok),
    K.lookup (ma K (ga K d.c) "__init__") = some ⟨oc, od, .func ((NdefX.NF.mk "__init__" d.qual d.params d.body d.scope [("__class__", cc)] cda).fd doc pm ct), osl⟩ ∧ K.lookup cc = some ⟨cl, cld, .cell (some (.ref (ga K d.c))), csl⟩ ∧ codeIn K (.ref cda) d.qual = true ∧ K.lookup cda = some ⟨ccl, cdd, .fields vs, ccs⟩ ∧ vs[2]? = some (.str file tf) ∧ ((P.main.file : Str) == file) = true
  sup : ks_superIn K (ga K d.c) (ga K d.c) "__init__" = some (some (.builtin "ValueError.__init__"))
  ve : subIn K (.ref (ga K d.c)) (.type "ValueError") = some true
  sub : mroIn K (ga K d.c) (.ref (ga K d.c)) = some true
  xf : XfC K (ga K d.c)
  no : ∀ f ∈ d.flds, findIn K (.ref (ga K d.c)) f = some none
  isc : IsC K (ga K d.c)
theorem ExD.head {P : Program} {K : PySem.W.Frag} {mg : Str → Option Value} {h : Heap} {d : ExD} (X : K.In h) (G : h.Ns mainGlobals mg) (q : d.ok P.main.file K = true) (e : iniW K d.c = d.val) : ExH P K mg d := by
  unfold ExD.ok at q
  simp only [Bool.and_eq_true] at q
  obtain ⟨q1, q0, q2, q3, q4, q5, q6, q7, q8, q9, q10, q11, q12, q13, q14⟩ := q
  refine ⟨PySem.W.mg_of X G (eqO_ok q14), ⟨clsB_ok q1, eqO_ok q2, of_decide_eq_true q3, of_decide_eq_true q4, q5⟩, eqO_ok q6, of_decide_eq_true q7, ?_, eqO_ok q9, of_decide_eq_true q10, of_decide_eq_true q11, xfB_ok q12, fun f hf => eqO_ok (List.all_eq_true.mp q13 f hf), isB_ok q0⟩
  obtain ⟨oc, od, osl, nm, qual, ps, bd, sc, gl, cc, cda, doc, pm, ct, bl, cl, cld, csl, ccl, cdd, vs, ccs, tf, e1, e2, e3, e4, e5⟩ := iniB_ok q8
  unfold iniW at e
  rw [e1] at e
  have e : (some (nm, qual, ps, bd, sc, gl, bl) : FnI) = some (("__init__" : Str), d.qual, d.params, FuncBody.stmts d.body, d.scope, mainGlobals, builtinsNs) := e
  simp only [Option.some.injEq, Prod.mk.injEq] at e
  obtain ⟨h1, h2, h3, h4, h5, h6, h7⟩ := e
  subst h1 h2 h3 h4 h5 h6 h7
  exact ⟨oc, od, osl, cc, cda, doc, pm, ct, cl, cld, csl, ccl, cdd, vs, ccs, _, tf, e1, e2, e3, e4, e5, beq_self_eq_true _⟩
/-! ### clauses -/
def tabB (K : PySem.W.Frag) (t : Str × List (Str × Bool)) : Bool := t.2.all fun q => decide (exmOne K (.ref (ga K q.1)) (.ref (ga K t.1)) = some q.2) && eqO (nsIn K mainGlobals q.1) (some (some (.ref (ga K q.1))))
theorem tab_ok {K : PySem.W.Frag} {mg : Str → Option Value} {h : Heap} {x : Str} {tab : List (Str × Bool)} (X : K.In h) (G : h.Ns mainGlobals mg) (q : tabB K (x, tab) = true) : TabOk K mg tab (.ref (ga K x)) := fun c b C e hm => by
  have hmem := PySem.mem_of_lookup e
  have q := List.all_eq_true.mp (show (tab.all _) = true from q) _ hmem
  rw [Bool.and_eq_true] at q
  have h1 := PySem.W.mg_of X G (eqO_ok q.2)
  rw [hm] at h1
  cases h1
  exact of_decide_eq_true q.1
/-! ### the Hook -/
abbrev AlX : Type := Bool × List FnW × List FnI
def obX (fa : List Fa) (fn : List DefD) (file : Str) (ex : List ExD) (tb : List (Str × List (Str × Bool))) (K : PySem.W.Frag) : AlX :=
  ((fa.all fun f => f.ok K) && ((fn.all fun d => d.ok K) && ((ex.all fun d => d.ok file K) && ((tb.all fun t => tabB K t) && eqO (nsIn K cStatics "thirdparty.any") (some none)))), fn.map fun d => fnW K d.at_, ex.map fun d => iniW K d.c)
def vaX (fn : List DefD) (ex : List ExD) : AlX := (true, fn.map DefD.val, ex.map ExD.val)
def SaysX (fa : List Fa) (fn : List DefD) (file : Str) (ex : List ExD) (tb : List (Str × List (Str × Bool))) (K : PySem.W.Frag) : Prop := obX fa fn file ex tb K = vaX fn ex
def obXG (n : Nat) (fa : List Fa) (fn : List DefD) (file : Str) (ex : List ExD) (tb : List (Str × List (Str × Bool))) (g : Addr → Option Obj) : AlX := obX fa fn file ex tb (frG g (asD g n ++ [cStatics]))
def hookX (n : Nat) (fa : List Fa) (fn : List DefD) (file : Str) (ex : List ExD) (tb : List (Str × List (Str × Bool))) : PySem.W.Hook where
  α := AlX
  obs := fun s => obXG n fa fn file ex tb s.heap.get?
  val := fun _ => vaX fn ex
  says := fun _ h => ∃ K : PySem.W.Frag, K.In h ∧ SaysX fa fn file ex tb K
  of := fun _ _ e => ⟨_, frG_in, e⟩
  keeps := fun _ _ _ ⟨K, hK, c⟩ k => ⟨K, PySem.W.Frag.In.keeps hK k, c⟩
theorem obXG_eq {n : Nat} {fa : List Fa} {fn : List DefD} {file : Str} {ex : List ExD} {tb : List (Str × List (Str × Bool))} {g : Addr → Option Obj} {s : Shared} (h : ∀ a, g a = s.heap.get? a) : obXG n fa fn file ex tb g = (hookX n fa fn file ex tb).obs s := by
  rw [show g = s.heap.get? from funext h] <;> rfl
section
variable {fa : List Fa} {fn : List DefD} {file : Str} {ex : List ExD} {tb : List (Str × List (Str × Bool))} {K : PySem.W.Frag}
theorem SaysX.parts (c : SaysX fa fn file ex tb K) : (fa.all fun f => f.ok K) = true ∧ (fn.all fun d => d.ok K) = true ∧ (ex.all fun d => d.ok file K) = true ∧ (tb.all fun t => tabB K t) = true ∧ nsIn K cStatics "thirdparty.any" = some none := by
  have c1 := congrArg (fun z : AlX => z.1) c
  have c1 : ((fa.all fun f => f.ok K) && ((fn.all fun d => d.ok K) && ((ex.all fun d => d.ok file K) && ((tb.all fun t => tabB K t) && eqO (nsIn K cStatics "thirdparty.any") (some none))))) = true := c1
  simp only [Bool.and_eq_true] at c1
  exact ⟨c1.1, c1.2.1, c1.2.2.1, c1.2.2.2.1, eqO_ok c1.2.2.2.2⟩
theorem SaysX.fact (c : SaysX fa fn file ex tb K) (i : Nat) {f : Fa} (h : fa[i]? = some f := by rfl) : f.ok K = true := List.all_eq_true.mp c.parts.1 f (List.mem_of_getElem? h)
theorem SaysX.def_ (c : SaysX fa fn file ex tb K) (i : Nat) {d : DefD} (h : fn[i]? = some d := by rfl) : ∃ fd, FunD K d.name d.qual d.params d.body d.scope (d.dvs K) (d.kws K) (fAd K d.at_) fd := by
  have e : fn.map (fun d => fnW K d.at_) = fn.map DefD.val := congrArg (fun z : AlX => z.2.1) c
  have e2 : (fn.map fun d => fnW K d.at_)[i]? = (fn.map DefD.val)[i]? := by rw [e]
  rw [List.getElem?_map, List.getElem?_map, h] at e2
  exact DefD.funD (Option.some.inj e2) (List.all_eq_true.mp c.parts.2.1 d (List.mem_of_getElem? h))
theorem SaysX.exc {P : Program} {mg : Str → Option Value} {hp : Heap} (c : SaysX fa fn P.main.file ex tb K) (X : K.In hp) (G : hp.Ns mainGlobals mg) (i : Nat) {d : ExD} (h : ex[i]? = some d := by rfl) : ExH P K mg d := by
  have e : ex.map (fun d => iniW K d.c) = ex.map ExD.val := congrArg (fun z : AlX => z.2.2) c
  have e2 : (ex.map fun d => iniW K d.c)[i]? = (ex.map ExD.val)[i]? := by rw [e]
  rw [List.getElem?_map, List.getElem?_map, h] at e2
  exact ExD.head X G (List.all_eq_true.mp c.parts.2.2.1 d (List.mem_of_getElem? h)) (Option.some.inj e2)
theorem SaysX.tab {mg : Str → Option Value} {hp : Heap} (c : SaysX fa fn file ex tb K) (X : K.In hp) (G : hp.Ns mainGlobals mg) (i : Nat) {x : Str} {t : List (Str × Bool)} (h : tb[i]? = some (x, t) := by rfl) : TabOk K mg t (.ref (ga K x)) :=
  tab_ok X G (List.all_eq_true.mp c.parts.2.2.2.1 _ (List.mem_of_getElem? h))
end
/-! ### an exception class, ready -/
theorem ExH.exc {P : Program} {w : World} {K : PySem.W.Frag} {mg : Str → Option Value} {base : Heap} {d : ExD} {N ps : List Str} {ar : Arg} {p0 p1 p2 p3 p4 : Pos} {arg : Expr} {t : TE} {rest : List Stmt} {l : List (Str × Src)}
    (h : ExH P K mg d) (S : NdefX.NScope N (("self" : Str) :: ps) [("__class__" : Str)] d.scope) (hbd : d.body = .Expr (.Call (.Attribute (.Call (.Name "super" p0) [] [] p1) "__init__" p2) [arg] [] p3) p4 :: rest)
    (hp : (d.params.posonlyargs ++ d.params.args).head? = some ar) (har : ar.arg = "self") (hks : d.scope.names.lookup ("super" : Str) = some .globalImplicit) (htop : (P.main.scope.names.lookup ("super" : Str)).isSome = false) (hms : mg "super" = none) (hany : nsIn K cStatics "thirdparty.any" = some none)
    (h0 : l ≠ []) (hz : l.length ≤ 900) (hfl : ∀ q ∈ l, q.1 ∈ d.flds) (hso : ∀ q ∈ l, SrcOk ps.length q.2)
    (hb : ∀ (cc cda : Addr) (doc pm ct : Value) (us : List Value), us.length = ps.length + 1 → bindArgs ((NdefX.NF.mk "__init__" d.qual d.params d.body d.scope [("__class__", cc)] cda).fd doc pm ct) ⟨us, []⟩ = pure ((("self" : Str) :: ps).zip us))
    (hbody : ∀ (cc cda fI : Addr) (A : Around) (outer : List Env) (s : Shared) (H : Hp) (E : XK), PE (NdefX.ncx (L2.CX P w) P w K mg base N (NdefX.NF.mk "__init__" d.qual d.params d.body d.scope [("__class__", cc)] cda) fI A outer s H E) arg t ∧
      StOk (NdefX.ncx (L2.CX P w) P w K mg base N (NdefX.NF.mk "__init__" d.qual d.params d.body d.scope [("__class__", cc)] cda) fI A outer s H E) ps.length rest l ∧
      starEach [arg] (NdefX.envF (NdefX.NF.mk "__init__" d.qual d.params d.body d.scope [("__class__", cc)] cda) fI s.heap.objs.size) = (false, eval arg (NdefX.envF (NdefX.NF.mk "__init__" d.qual d.params d.body d.scope [("__class__", cc)] cda) fI s.heap.objs.size)) :: starEach [] (NdefX.envF (NdefX.NF.mk "__init__" d.qual d.params d.body d.scope [("__class__", cc)] cda) fI s.heap.objs.size) ∧
      swapsWith (.Call (.Attribute (.Call (.Name "super" p0) [] [] p1) "__init__" p2) [arg] [] p3) none p4.line (NdefX.envF (NdefX.NF.mk "__init__" d.qual d.params d.body d.scope [("__class__", cc)] cda) fI s.heap.objs.size) = pure false ∧
      ∃ pl : Sem Bool, eval (.Call (.Attribute (.Call (.Name "super" p0) [] [] p1) "__init__" p2) [arg] [] p3) (NdefX.envF (NdefX.NF.mk "__init__" d.qual d.params d.body d.scope [("__class__", cc)] cda) fI s.heap.objs.size) = (do
        let ov ← attributeBase (.Call (.Name "super" p0) [] [] p1) "__init__" (NdefX.envF (NdefX.NF.mk "__init__" d.qual d.params d.body d.scope [("__class__", cc)] cda) fI s.heap.objs.size) (eval (.Call (.Name "super" p0) [] [] p1) (NdefX.envF (NdefX.NF.mk "__init__" d.qual d.params d.body d.scope [("__class__", cc)] cda) fI s.heap.objs.size))
        standAt p2.atName
        let (f, first) ← holding [ov] (getMethod ov "__init__" pl)
        callWith p3 f first (backTo p3 (starEach [arg] (NdefX.envF (NdefX.NF.mk "__init__" d.qual d.params d.body d.scope [("__class__", cc)] cda) fI s.heap.objs.size))) []))
    (harg : ∀ (σ : L2.St) (H : Hp) (us : List V), us.length = ps.length → (∀ i, i < ps.length → σ[i + 1]? = some (some (us.getD i .non))) → tCons t tNil σ H fun vs H1 => vs.length ≤ 10 ∧ H1 = H) :
    ExC P w K mg base d.c ps.length l := by
  obtain ⟨oc, od, osl, cc, cda, doc, pm, ct, cl, cld, csl, ccl, cdd, vs, ccs, file, tf, e1, e2, e3, e4, e5, e6⟩ := h.ini
  refine ⟨_, _, _, _, h.mgc, h.oc, h.iC, h.tI, Binds.all (ps := ("self" : Str) :: ps) (fun us hl => hb cc cda doc pm ct us (by rw [hl, List.length_cons])), ?_, hso⟩
  exact exc_fn (F := NdefX.NF.mk "__init__" d.qual d.params d.body d.scope [("__class__", cc)] cda) h.oc e1 e3 S hbd hp har hks e4 e5 e6 htop rfl e2 hms hany h.sup h.ve h.sub h0 hz (fun q hq => h.no _ (hfl q hq)) (hb cc cda doc pm ct) (hbody cc cda _) harg
end DLX
set_option Elab.async false
set_option linter.all false
set_option maxRecDepth 100000
set_option maxHeartbeats 0
namespace DLX
open PySem PySem.Spec PyProof.Rows L2 PySem.W DL
/-! ### isinstance(e, T), e the exception in hand -/
def rIsX (K : PySem.W.Frag) (D a dx : Addr) : List V → Hp → VK → Prop := fun xs H Q => ∃ (c : V) (cv : Value) (b : Bool) (fs : List (Str × V)), xs = [.ref a, c] ∧ (∀ u, RelV c u → u = cv) ∧ kitOne K (.ref D) cv = some b ∧ H dx = some (.xd fs) ∧ Q (.bl b) H
theorem call_isX {X : Cx} {a D dx : Addr} {oe : Obj} {pn : List (Addr × Obj)} (C : IsC X.K D) (hz : Zc (.ref D) (some dx) oe) (hf : ∃ vs, oe.data = .fields vs) : CallR (X.suite a ((a, oe) :: pn)) (.builtin "isinstance") (rIsX X.K D a dx) := by
  intro pins s σ H xs us Q I r h
  obtain ⟨c, cv, b, fs, rfl, hcv, e, ed, q⟩ := h
  cases r with
  | cons rx rr =>
    cases rr with
    | cons rt rr =>
      cases rr
      cases rx
      have ec := hcv _ rt
      subst ec
      obtain ⟨at0, _⟩ := I.pin (a, oe) (List.mem_append.mpr (.inl List.mem_cons_self))
      obtain ⟨vs, hv⟩ := hf
      have hx : ObjOk X.prog X.w H s.heap dx (.xd fs) := I.hok dx _ ed
      obtain ⟨mA, hns, hr⟩ := hx
      obtain ⟨od, ho, _⟩ := lookIn_ns hns
      have J : InstAt s.heap a oe D (some od) := ⟨at0, hz.1, by unfold notCls; rw [hv] <;> rfl, by rw [hz.2]; exact ho⟩
      exact kia_one (kitx_exc C.hcl C.hg C.hk C.hs C.ha C.hn C.ht C.hm) I.kIn J e (fun z => nomatch z) fun tk => ⟨.bl b, H, I.kept (t' := tk) fun _ _ z => z, rfl, q⟩
def isTE (i : Nat) : En → R DL.D := fun ρ => match ρ[i]? with
  | some (some (.sh (.exn _ _))) => .ok (.bl true)
  | _ => .st
theorem d_isx {X : Cx} {B : Bs} {W : WX} {a C dx : Addr} {oe : Obj} {pn : List (Addr × Obj)} {i : Nat} {x : Str} {p p3 pos : Pos} {eT : Expr} {v : V} {cv : Value} (T : IsC X.K C) (hk : kitOne X.K (.ref C) cv = some true) (hcv : ∀ u, RelV v u → u = cv) (hz : Zc (.ref C) (some dx) oe) (hf : ∃ vs, oe.data = .fields vs)
    (he : PE (X.suite a ((a, oe) :: pn)) (.Name x p) (tVar i)) (hT : PE (X.suite a ((a, oe) :: pn)) eT (tC v)) (hg : Gl (X.suite a ((a, oe) :: pn)) "isinstance") (hm : X.mg "isinstance" = none)
    (h1 : starEach [.Name x p, eT] X.env = (false, eval (.Name x p) X.env) :: starEach [eT] X.env := by rfl) (h2 : starEach [eT] X.env = (false, eval eT X.env) :: starEach [] X.env := by rfl) (hpl : (backTo pos (starEach [eT] X.env)).any (·.1) = false := by rfl) :
    PE (X.suite a ((a, oe) :: pn)) (.Call (.Name "isinstance" p3) [.Name x p, eT] [] pos) (tD (hotB B a C dx) W [] (isTE i)) :=
  (pe_callB (call_isX T hz hf) hg hm (by rfl) (pa_cons he (pa_cons hT pa_nil h2) h1) (by decide) (by decide) h1 hpl).imp fun σ H Q ⟨ρ, As, S, q⟩ => by
    unfold isTE at q
    split at q
    · rename_i c fs e
      obtain ⟨w, e1, r⟩ := S.pt i _ e
      generalize As i = A0 at r
      cases r with
      | sh r =>
        cases r with
        | exn h1 h2 h3 h4 =>
          cases h1
          exact ⟨_, e1, v, cv, true, _, rfl, hcv, hk, (cut_some h3).2, q _ H (Same.refl _) (.bl true)⟩
    · exact q.elim
theorem kit_exm {K : PySem.W.Frag} {t c : Value} (h : exmOne K t c = some true) : kitOne K t c = some true := by
  unfold exmOne at h
  unfold kitOne
  split
  · rfl
  · split at h
    · exact h
    · cases h
theorem kit_ve {K : PySem.W.Frag} {C : Addr} (h : subIn K (.ref C) (.type "ValueError") = some true) : kitOne K (.ref C) (.type "ValueError") = some true := by
  unfold kitOne
  rw [if_neg (by simp)]
  unfold kitCls
  show (if kitMeta "ValueError" = true then subIn K (.ref C) (.type "ValueError") else none) = some true
  rw [if_pos (by decide +kernel), h]
end DLX
set_option Elab.async false
set_option linter.all false
set_option maxRecDepth 100000
namespace DLC
open PySem L2 DL
/-! ## plain: a loop up to its first exit -/
theorem loop_first {α : Type} {fg : List Nat} {bnd : D → En → Option En} {body : En → Out} (c : α → D) (q : α → Bool) (o : α → Out) (ρ0 : En) : ∀ xs : List α,
    (∀ x ∈ xs, ∃ ρ1, bnd (c x) ρ0 = some ρ1 ∧ ((q x = false ∧ ∃ ρ2, body ρ1 = .nx ρ2 ∧ fgt fg ρ2 = ρ0) ∨ (q x = true ∧ body ρ1 = o x ∧ ((∃ d ρ, o x = .rt d ρ) ∨ ∃ c fs ρ, o x = .ex c fs ρ)))) →
    loopS fg bnd body (xs.map c) ρ0 = match xs.find? q with
      | none => .nx ρ0
      | some x => o x
  | [], h => rfl
  | x :: xs, h => by
    obtain ⟨ρ1, e1, h1⟩ := h x List.mem_cons_self
    rw [List.map_cons, loopS, e1]
    simp only
    rcases h1 with ⟨hq, ρ2, e2, e3⟩ | ⟨hq, e2, e3⟩
    · rw [e2]
      simp only
      rw [e3, loop_first c q o ρ0 xs fun y hy => h y (List.mem_cons_of_mem _ hy), List.find?_cons_of_neg (by simp [hq])]
    · rw [e2, List.find?_cons_of_pos hq]
      rcases e3 with ⟨d, ρ, e⟩ | ⟨c, fs, ρ, e⟩ <;> simp only [e]
theorem rngL_map (n : Nat) : rngL 0 n = (List.range n).map (fun k : Nat => D.int k) := by
  unfold rngL
  apply List.map_congr_left
  intro k hk
  rw [Int.zero_add]
/-- the answer d, wherever the slots stand -/
def Rt (od : OD) (o : Out) : Prop := ∃ ρ, o = .rt od ρ
theorem rt_seq {s t : En → Out} {ρ ρ' : En} {od : OD} (h : s ρ = .nx ρ') (h2 : Rt od (t ρ')) : Rt od (seqS s t ρ) := by rw [Rt, seqS_nx h]; exact h2
theorem mOf_Rt {n N : Nat} {body : En → Out} {ds : List D} {ρ0 : En} {od : OD} (hn : ds.length = n) (h0 : ds.map (fun d => some (OD.sh d)) ++ List.replicate (N - n) none = ρ0) (h : Rt od (body ρ0)) : mOf n N body ds = .ok od := by
  obtain ⟨ρ, h⟩ := h
  exact mOf_rt hn h0 h
theorem mOf_ex {n N : Nat} {body : En → Out} {ds : List D} {ρ0 ρ : En} {c : Str} {fs : List (Str × D)} (hn : ds.length = n) (h0 : ds.map (fun d => some (OD.sh d)) ++ List.replicate (N - n) none = ρ0) (h : body ρ0 = .ex c fs ρ) : mOf n N body ds = .ex c fs := by
  unfold mOf
  rw [if_pos hn, h0, h]
theorem mOf_nx {n N : Nat} {body : En → Out} {ds : List D} {ρ0 ρ : En} (hn : ds.length = n) (h0 : ds.map (fun d => some (OD.sh d)) ++ List.replicate (N - n) none = ρ0) (h : body ρ0 = .nx ρ) : mOf n N body ds = .ok (.sh .non) := by
  unfold mOf
  rw [if_pos hn, h0, h]
theorem seqS_ex {s t : En → Out} {ρ ρ' : En} {c : Str} {fs : List (Str × D)} (h : s ρ = .ex c fs ρ') : seqS s t ρ = .ex c fs ρ' := by unfold seqS; rw [h]; rfl
theorem exprS_ex {f : En → R D} {ρ : En} {c : Str} {fs : List (Str × D)} (h : f ρ = .ex c fs) : exprS f ρ = .ex c fs ρ := by unfold exprS; rw [h]; rfl
theorem erE_ex {f : En → R OD} {ρ : En} {c : Str} {fs : List (Str × D)} (h : f ρ = .ex c fs) : erE f ρ = .ex c fs := by unfold erE; rw [h]; rfl
theorem len_dS' (C : List (List Nat)) {f : En → R D} {ρ : En} (h : f ρ = .ok (dS C)) : opA dLen (aCons f aNil) ρ = .ok (.int C.length) := opA_ok h (dLen_lst' _ _ (by simp))
theorem get_dS' {C : List (List Nat)} {k : Nat} (h : k < C.length) : L2.atI (C.map D.str) (k : Int) = some (.str C[k]) := by
  rw [atI_nat _ k (by simpa using h)]; simp
theorem ix_dS {C : List (List Nat)} {k : Nat} (h : k < C.length) {f g : En → R D} {ρ : En} (hf : f ρ = .ok (dS C)) (hg : g ρ = .ok (.int k)) : op2 dIx f g ρ = .ok (.str C[k]) := op2_ok hf hg (get_dS' h)
/-! ### which row of a cloth is none -/
def badS (c : Nat) : Bool := !(c == 35 || c == 46)
def rowBad (W : List (List Nat)) (r : List Nat) : Bool := decide (r.length < 1) || (decide (60 < r.length) || (decide (r.length ≠ (W.headD []).length) || r.any badS))
def dueN (W : List (List Nat)) : Option Nat := if W.length = 0 then some 0 else if 60 < W.length then some 60 else (List.range W.length).find? fun k => rowBad W (W.getD k [])
theorem dNotIn_sign (c : Nat) : op2 dNotIn (con (.str [c])) (tupE (aCons (con (.str [35])) (aCons (con (.str [46])) aNil))) [] = .ok (.bl (badS c)) := by
  by_cases h1 : c = 35
  · subst h1; rfl
  · by_cases h2 : c = 46
    · subst h2; rfl
    · have e1 : ¬ (35 = c) := fun z => h1 z.symm
      have e2 : ¬ (46 = c) := fun z => h2 z.symm
      have : badS c = true := by unfold badS; simp [h1, h2]
      rw [this]
      simp [mOf, seqS, exprS, setS, setF, retS, retF, retV, retN, nxS, ifS, op1, op2, op2F, aNil, aCons, opA, opAF, erE, callE, tst, andT, orT, notT, andV, orV, notV, asB, var, con, sliceE, sliceF, pI, pN, asI, ifE, lstE, tupE, strOp, asS, frzIf, frzO, frz, frz1, D.flat, OD.fl_sh, List.replicate, fgt, fgt1, bName, dInt, dAbs, okSz, okLen, dNotIn, D.dt, e1, e2]
end DLC
set_option Elab.async false
set_option linter.all false
set_option maxRecDepth 100000
namespace DLC
open PySem L2 DL
/-! ## cloths by their crossings -/
def row (e : Nat) (g : Nat → Nat) : List Nat := (List.range e).map g
def mk (p e : Nat) (f : Nat → Nat → Nat) : List (List Nat) := (List.range p).map fun i => row e (f i)
def Gd (p e : Nat) (f : Nat → Nat → Nat) : Prop := ∀ i j, i < p → j < e → f i j = 35 ∨ f i j = 46
def fl (c : Nat) : Nat := if c = 35 then 46 else 35
theorem fl_gd (c : Nat) : fl c = 35 ∨ fl c = 46 := by unfold fl; split <;> simp
theorem fl_fl {c : Nat} (h : c = 35 ∨ c = 46) : fl (fl c) = c := by rcases h with rfl | rfl <;> rfl
theorem chB_fl {c : Nat} (h : c = 35 ∨ c = 46) : chB (c == 46) = fl c := by rcases h with rfl | rfl <;> rfl
@[simp] theorem row_len (e : Nat) (g : Nat → Nat) : (row e g).length = e := by simp [row]
@[simp] theorem mk_len (p e : Nat) (f : Nat → Nat → Nat) : (mk p e f).length = p := by simp [mk]
theorem row_get {e : Nat} {g : Nat → Nat} {j : Nat} (h : j < (row e g).length) : (row e g)[j] = g j := by simp [row]
theorem row_getD {e : Nat} {g : Nat → Nat} {j : Nat} (h : j < e) : (row e g).getD j 0 = g j := by simp [row, List.getD, h]
theorem mk_get {p e : Nat} {f : Nat → Nat → Nat} {i : Nat} (h : i < (mk p e f).length) : (mk p e f)[i] = row e (f i) := by simp [mk]
theorem row_congr {e : Nat} {g h : Nat → Nat} (H : ∀ j, j < e → g j = h j) : row e g = row e h := List.map_congr_left fun j hj => H j (List.mem_range.mp hj)
theorem mk_congr {p e : Nat} {f g : Nat → Nat → Nat} (H : ∀ i j, i < p → j < e → f i j = g i j) : mk p e f = mk p e g := List.map_congr_left fun i hi => row_congr fun j hj => H i j (List.mem_range.mp hi) hj
theorem row_ext {e : Nat} {g : Nat → Nat} {r : List Nat} (hl : r.length = e) (h : ∀ j (hj : j < r.length), r[j] = g j) : r = row e g := by
  apply List.ext_getElem (by simp [hl])
  intro j h1 h2
  rw [h j h1, row_get]
theorem mk_ext {p e : Nat} {f : Nat → Nat → Nat} {C : List (List Nat)} (hl : C.length = p) (h : ∀ i (hi : i < C.length), C[i] = row e (f i)) : C = mk p e f := by
  apply List.ext_getElem (by simp [hl])
  intro i h1 h2
  rw [h i h1, mk_get]
theorem mk_of {p e : Nat} {C : List (List Nat)} (hC : Cl p e C) : ∃ f, C = mk p e f ∧ Gd p e f := by
  refine ⟨fun i j => (C.getD i []).getD j 0, ?_, fun i j hi hj => ?_⟩
  · refine mk_ext hC.len fun i hi => row_ext (hC.row _ (List.getElem_mem hi)) fun j hj => ?_
    simp [List.getD, List.getElem?_eq_getElem hi, List.getElem?_eq_getElem hj]
  · have h1 : i < C.length := by rw [hC.len]; exact hi
    have h2 : j < C[i].length := by rw [hC.row _ (List.getElem_mem h1)]; exact hj
    have e1 : (C.getD i []).getD j 0 = C[i][j] := by simp [List.getD, List.getElem?_eq_getElem h1, List.getElem?_eq_getElem h2]
    simp only
    rw [e1]
    exact hC.chr _ (List.getElem_mem h1) _ (List.getElem_mem h2)
theorem Cl_mk {p e : Nat} {f : Nat → Nat → Nat} (h : Gd p e f) : Cl p e (mk p e f) where
  len := mk_len _ _ _
  row := fun r hr => by
    obtain ⟨i, _, rfl⟩ := List.mem_map.mp hr
    exact row_len _ _
  chr := fun r hr c hc => by
    obtain ⟨i, hi, rfl⟩ := List.mem_map.mp hr
    obtain ⟨j, hj, rfl⟩ := List.mem_map.mp hc
    exact h i j (List.mem_range.mp hi) (List.mem_range.mp hj)
theorem mk_map {p e e' : Nat} {f g : Nat → Nat → Nat} {h : List Nat → List Nat} (H : ∀ i, i < p → h (row e (f i)) = row e' (g i)) : (mk p e f).map h = mk p e' g := by
  unfold mk
  rw [List.map_map]
  exact List.map_congr_left fun i hi => H i (List.mem_range.mp hi)
theorem row_map {e : Nat} {g : Nat → Nat} (h : Nat → Nat) : (row e g).map h = row e fun j => h (g j) := by unfold row; rw [List.map_map]; rfl
theorem row_rev (e : Nat) (g : Nat → Nat) : (row e g).reverse = row e fun j => g (e - 1 - j) := by
  refine row_ext (by simp) fun j hj => ?_
  rw [List.getElem_reverse, row_get]
  simp
theorem mk_rev (p e : Nat) (f : Nat → Nat → Nat) : (mk p e f).reverse = mk p e fun i j => f (p - 1 - i) j := by
  refine mk_ext (by simp) fun i hi => ?_
  rw [List.getElem_reverse, mk_get]
  simp
theorem row_take {e : Nat} {g : Nat → Nat} {k : Nat} (h : k ≤ e) : (row e g).take k = row k g := by
  refine row_ext (by simp; omega) fun j hj => ?_
  rw [List.getElem_take, row_get]
theorem row_drop {e : Nat} {g : Nat → Nat} {k : Nat} : (row e g).drop k = row (e - k) fun j => g (k + j) := by
  refine row_ext (by simp) fun j hj => ?_
  rw [List.getElem_drop, row_get]
theorem row_app {a b : Nat} {g h : Nat → Nat} : row a g ++ row b h = row (a + b) fun j => if j < a then g j else h (j - a) := by
  refine row_ext (by simp) fun j hj => ?_
  by_cases h1 : j < a
  · rw [List.getElem_append_left (by simpa using h1), row_get, if_pos h1]
  · rw [List.getElem_append_right (by simpa using h1), row_get, if_neg h1]
    simp
theorem mk_take {p e : Nat} {f : Nat → Nat → Nat} {k : Nat} (h : k ≤ p) : (mk p e f).take k = mk k e f := by
  refine mk_ext (by simp; omega) fun j hj => ?_
  rw [List.getElem_take, mk_get]
theorem mk_drop {p e : Nat} {f : Nat → Nat → Nat} {k : Nat} : (mk p e f).drop k = mk (p - k) e fun i => f (k + i) := by
  refine mk_ext (by simp) fun j hj => ?_
  rw [List.getElem_drop, mk_get]
theorem mk_app {a b e : Nat} {g h : Nat → Nat → Nat} : mk a e g ++ mk b e h = mk (a + b) e fun i => if i < a then g i else h (i - a) := by
  refine mk_ext (by simp) fun j hj => ?_
  by_cases h1 : j < a
  · rw [List.getElem_append_left (by simpa using h1), mk_get, if_pos h1]
  · rw [List.getElem_append_right (by simpa using h1), mk_get, if_neg h1]
    simp
theorem row_rot {e b : Nat} {g : Nat → Nat} (hb : b < e) : (row e g).drop b ++ (row e g).take b = row e fun j => g ((j + b) % e) := by
  rw [row_drop, row_take (by omega), row_app]
  rw [show e - b + b = e by omega]
  refine row_congr fun j hj => ?_
  by_cases h1 : j < e - b
  · rw [if_pos h1, Nat.mod_eq_of_lt (by omega), Nat.add_comm]
  · rw [if_neg h1]
    congr 1
    rw [show j + b = (j - (e - b)) + e by omega, Nat.add_mod_right, Nat.mod_eq_of_lt (by omega)]
theorem mk_rot {p e a : Nat} {f : Nat → Nat → Nat} (ha : a < p) : (mk p e f).drop a ++ (mk p e f).take a = mk p e fun i j => f ((i + a) % p) j := by
  rw [mk_drop, mk_take (by omega), mk_app]
  rw [show p - a + a = p by omega]
  refine mk_congr fun i j hi hj => ?_
  by_cases h1 : i < p - a
  · rw [if_pos h1, Nat.mod_eq_of_lt (by omega), Nat.add_comm]
  · rw [if_neg h1]
    congr 1
    rw [show i + a = (i - (p - a)) + p by omega, Nat.add_mod_right, Nat.mod_eq_of_lt (by omega)]
theorem row_rep {e : Nat} {g : Nat → Nat} (he : 0 < e) : ∀ n : Nat, (List.replicate n (row e g)).flatten = row (n * e) fun j => g (j % e)
  | 0 => by simp [row]
  | n + 1 => by
    rw [List.replicate_succ, List.flatten_cons, row_rep he n, row_app, show e + n * e = (n + 1) * e by rw [Nat.add_mul, Nat.one_mul, Nat.add_comm]]
    refine row_congr fun j hj => ?_
    by_cases h1 : j < e
    · rw [if_pos h1, Nat.mod_eq_of_lt h1]
    · rw [if_neg h1, ← Nat.mod_eq_sub_mod (by omega)]
/-! ## loops that append rows -/
theorem oS_get {ρ : En} {i : Nat} {S : List (List Nat)} (h : ρ[i]? = some (some (oS S))) : ownL i ρ = some (S.map fun r => .sh (.str r)) := by unfold ownL; rw [h]; rfl
theorem app_oS {i : Nat} {E : List Nat} {f : En → R D} {ρ : En} {S : List (List Nat)} {r : List Nat} (hf : f ρ = .ok (.str r)) (ho : ρ[i]? = some (some (oS S))) (hl : S.length < 16777215) : appS i E f ρ = .nx (ρ.set i (some (oS (S ++ [r])))) := by
  unfold appS
  rw [oS_get ho]
  simp only
  rw [hf, R.out_ok, if_pos (by unfold okLen keeps; simp [D.flat]; omega), frzIf_flat rfl]
  unfold oS
  rw [List.map_append]; rfl
theorem loop_app {fg : List Nat} {bnd : D → En → Option En} {body : En → Out} {α : Type} (E : List α → En) (g : Nat → α) (n : Nat)
    (h : ∀ k S, k < n → S.length = k → ∃ ρ1, bnd (.int k) (E S) = some ρ1 ∧ ∃ ρ2, body ρ1 = .nx ρ2 ∧ fgt fg ρ2 = E (S ++ [g k])) : loopS fg bnd body (rngL 0 n) (E []) = .nx (E ((List.range n).map g)) := by
  obtain ⟨ρ', e1, S, rfl, hS⟩ := loop_inv (fg := fg) (bnd := bnd) (body := body) (rngL 0 n) (fun k ρ => ∃ S, ρ = E S ∧ S = (List.range k).map g) (E []) ⟨[], rfl, rfl⟩ fun k d ρ hd hρ => by
    obtain ⟨S, rfl, hS⟩ := hρ
    obtain ⟨hk, rfl⟩ := rngL_get hd
    obtain ⟨ρ1, b1, ρ2, b2, b3⟩ := h k S hk (by rw [hS]; simp)
    rw [Int.zero_add, b1, bk_some, b2, lk_nx, b3]
    exact ⟨_, rfl, by rw [List.range_succ, List.map_append, hS]; rfl⟩
  rw [rngL_len] at hS
  rw [e1, hS]
end DLC
set_option Elab.async false
set_option linter.all false
set_option maxRecDepth 100000
namespace DL
open PySem PySem.Spec PyProof.Rows L2
/-! ## [e for a in xs if .. for b in ys if ..], the items flat -/
def lc2L (bnd : D → En → Option En) (t : En → R Bool) (it1 : En → R (List D)) (vs1 : List Nat) (bnd1 : D → En → Option En) (t1 : En → R Bool) (f : En → R D) (ρ : En) : List D → R (List D)
  | [] => .ok []
  | d :: ds => match bnd d ρ with
    | none => .st
    | some ρ1 => (t ρ1).nox.bind fun b => if b then (it1 ρ1).nox.bind fun ds1 =>
        if ds1.all D.flat then (lcL bnd1 t1 f (fgt vs1 ρ1) ds1).bind fun xs => (lc2L bnd t it1 vs1 bnd1 t1 f ρ ds).bind fun ys => .ok (xs ++ ys) else .st
      else lc2L bnd t it1 vs1 bnd1 t1 f ρ ds
def lc2E (Ee vs : List Nat) (bnd : D → En → Option En) (it : En → R (List D)) (t : En → R Bool) (it1 : En → R (List D)) (vs1 : List Nat) (bnd1 : D → En → Option En) (t1 : En → R Bool) (f : En → R D) : En → R OD := fun ρ => (it ρ).bind fun ds =>
  if (ds.all D.flat || allSh Ee ρ) then (lc2L bnd t it1 vs1 bnd1 t1 f (fgt vs ρ) ds).bind fun ys => if ys.all D.flat && okLen ys.length then .ok (.lst (ys.map .sh)) else .st else .st
theorem lcL_noex {bnd : D → En → Option En} {tt : En → R Bool} {f : En → R D} {ρ : En} : ∀ {ds c fs}, lcL bnd tt f ρ ds ≠ .ex c fs := by
  intro ds
  induction ds with
  | nil => exact fun z => nomatch z
  | cons d ds ih =>
    intro c fs z
    rw [lcL] at z
    cases eb : bnd d ρ with
    | none => rw [eb] at z; cases z
    | some ρ1 =>
      rw [eb] at z
      simp only at z
      cases et : tt ρ1 with
      | ex c fs => rw [et] at z; cases z
      | st => rw [et] at z; cases z
      | ok b =>
        rw [et, R.nox_ok, R.bind_ok] at z
        cases b with
        | false => simp only [Bool.false_eq_true, if_false] at z; exact ih z
        | true =>
          simp only [if_true] at z
          cases ef : f ρ1 with
          | ex c fs => rw [ef] at z; cases z
          | st => rw [ef] at z; cases z
          | ok y =>
            rw [ef, R.nox_ok, R.bind_ok] at z
            cases er : lcL bnd tt f ρ ds with
            | ex c fs => exact ih er
            | st => rw [er] at z; cases z
            | ok ys => rw [er] at z; cases z
theorem lc2L_noex {bnd : D → En → Option En} {t : En → R Bool} {it1 : En → R (List D)} {vs1 : List Nat} {bnd1 : D → En → Option En} {t1 : En → R Bool} {f : En → R D} {ρ : En} : ∀ {ds c fs}, lc2L bnd t it1 vs1 bnd1 t1 f ρ ds ≠ .ex c fs := by
  intro ds
  induction ds with
  | nil => exact fun z => nomatch z
  | cons d ds ih =>
    intro c fs z
    rw [lc2L] at z
    cases eb : bnd d ρ with
    | none => rw [eb] at z; cases z
    | some ρ1 =>
      rw [eb] at z
      simp only at z
      cases et : t ρ1 with
      | ex c fs => rw [et] at z; cases z
      | st => rw [et] at z; cases z
      | ok b =>
        rw [et, R.nox_ok, R.bind_ok] at z
        cases b with
        | false => simp only [Bool.false_eq_true, if_false] at z; exact ih z
        | true =>
          simp only [if_true] at z
          cases ei : it1 ρ1 with
          | ex c fs => rw [ei] at z; cases z
          | st => rw [ei] at z; cases z
          | ok ds1 =>
            rw [ei, R.nox_ok, R.bind_ok] at z
            split at z
            · cases el : lcL bnd1 t1 f (fgt vs1 ρ1) ds1 with
              | ex c fs => exact lcL_noex el
              | st => rw [el] at z; cases z
              | ok xs =>
                rw [el, R.bind_ok] at z
                cases er : lc2L bnd t it1 vs1 bnd1 t1 f ρ ds with
                | ex c fs => exact ih er
                | st => rw [er] at z; cases z
                | ok ys => rw [er] at z; cases z
            · cases z
section
variable {B : Bs} {σ : L2.St} {H H' : Hp} {ρ : En} {As : Ow} {E vs : List Nat}
theorem Sta.poke (S : Sta B σ H ρ As) {Dl : Addr} (hD : B.O Dl) (n0 : B.H0 Dl = none) (k : ∀ a o, a ≠ Dl → H a = some o → H' a = some o) (t : H' Dl ≠ none) : Sta B σ H' ρ As where
  len := S.len
  pt := fun i od e => by
    obtain ⟨v, e1, r⟩ := S.pt i od e
    refine ⟨v, e1, RepO.mono (fun a o h => ?_) _ _ _ r fun a ha => ?_⟩
    · obtain ⟨h1, h2⟩ := cut_some h
      exact cut_of h1 (k a o (fun z => h1 (.inl (by rw [z]; exact hD))) h2)
    · obtain ⟨o, eo⟩ := ne_none (S.hs i a ha)
      rw [eo, k a o (fun z => S.no i a ha (by rw [z]; exact hD)) eo]
  nd := S.nd
  dj := S.dj
  ow := S.ow
  no := S.no
  hs := fun i a h => by
    obtain ⟨o, eo⟩ := ne_none (S.hs i a h)
    rw [k a o (fun z => S.no i a h (by rw [z]; exact hD)) eo]; exact nofun
  ob := fun a h => by
    by_cases z : a = Dl
    · rw [z]; exact t
    · obtain ⟨o, eo⟩ := ne_none (S.ob a h)
      rw [k a o z eo]; exact nofun
  fr := fun a o e h => k a o (fun z => by rw [z, n0] at e; cases e) (S.fr a o e h)
  th := fun a h => by
    by_cases z : a = Dl
    · rw [z]; exact t
    · obtain ⟨o, eo⟩ := ne_none (S.th a h)
      rw [k a o z eo]; exact nofun
end
theorem flat_all {P : Wd} {G G' : Hp} {vs : List V} {ds : List D} (h : RepL P G vs ds) (f : ∀ d ∈ ds, d.flat = true) : RepL P G' vs ds := by
  induction ds generalizing vs with
  | nil => cases h; exact .nil
  | cons d ds ih =>
    cases h with
    | cons h1 h2 => exact .cons (h1.flat (f d List.mem_cons_self)) (ih h2 fun x hx => f x (List.mem_cons_of_mem _ hx))
section
variable {X : Cx} {B : Bs} {W : WX} {E Ee E1 Ee1 E2 vs vs1 Mg Mg1 : List Nat} {elt tg iter tg1 iter1 : Expr} {ifs ifs1 : List Expr} {scope : Scope} {own : List (Str × Nat)} {pos : Pos} {it it1 : En → R (List D)} {bnd bnd1 : D → En → Option En} {tt tt1 : En → R Bool} {f : En → R D}
theorem lc2_imp (hm : ∀ i ∈ Mg, i ∈ vs) (hm1 : ∀ i ∈ Mg1, i ∈ vs1) {σ : L2.St} {H : Hp} {Q : VK} (h : tF B W [] (lc2E Ee vs bnd it tt it1 vs1 bnd1 tt1 f) σ H Q) :
    tLc2 (tI B W E Ee it) (fun v σ H Q => ∃ O, tG (B.wo O) Mg bnd v σ H Q) (fun σ H Q => ∃ O, tT (B.wo O) W0 tt σ H Q) (fun σ H Q => ∃ O, tI (B.wo O) W0 E1 Ee1 it1 σ H Q) (fun v σ H Q => ∃ O, tG (B.wo O) Mg1 bnd1 v σ H Q) (fun σ H Q => ∃ O, tT (B.wo O) W0 tt1 σ H Q) (fun σ H Q => ∃ O, tD (B.wo O) W0 E2 f σ H Q) vs vs1 σ H Q := by
  obtain ⟨ρ, As, S, h⟩ := h
  refine ⟨ρ, As, S, ?_⟩
  unfold lc2E at h
  cases e : it ρ with
  | st => rw [e] at h; exact h
  | ex c fs => rw [e] at h; exact h
  | ok ds =>
    rw [e, R.bind_ok] at h
    intro J H1 s1 wk Dl hDl
    have S1 := S.same s1
    cases c1 : (ds.all D.flat || allSh Ee ρ) with
    | false => rw [c1] at h; exact h.elim
    | true =>
      rw [c1] at h
      simp only [if_true] at h
      have hv : (∀ d ∈ ds, d.flat = true) ∨ ∀ a, hid B As [] a → hid B As Ee a := by
        rcases Bool.or_eq_true_iff.mp c1 with c1 | c1
        · exact .inl (List.all_eq_true.mp c1)
        · exact .inr (allSh_hid S1 c1)
      have SB := S1.blk vs
      have n0 : B.H0 Dl = none := by
        cases q : B.H0 Dl with
        | none => rfl
        | some o => exact absurd hDl (S1.th Dl (by rw [q]; exact nofun))
      cases el : lc2L bnd tt it1 vs1 bnd1 tt1 f (fgt vs ρ) ds with
      | ex c fs => exact absurd el lc2L_noex
      | st => rw [el] at h; exact h.elim
      | ok ys =>
        rw [el, R.bind_ok] at h
        cases cy : (ys.all D.flat && okLen ys.length) with
        | false => rw [cy] at h; exact h.elim
        | true =>
        rw [cy] at h
        simp only [if_true] at h
        obtain ⟨cy1, cy2⟩ := Bool.and_eq_true_iff.mp cy
        have fy : ∀ y ∈ ys, y.flat = true := List.all_eq_true.mp cy1
        have ly := okLen_lt cy2
        refine ⟨fun i m Ht => m = ds.length - i ∧ i ≤ ds.length ∧ Same H1 Ht ∧ ∃ acc done left, Ht Dl = some (.lst acc) ∧ lc2L bnd tt it1 vs1 bnd1 tt1 f (fgt vs ρ) (ds.drop i) = .ok left ∧ ys = done ++ left ∧ ∀ G, RepL B.P G acc done,
          ⟨ds.length, rfl, Nat.zero_le _, fun a o ha => by rw [upd_ne (ne_of_none ha hDl)]; exact ha, [], [], ys, upd_same, el, rfl, fun _ => .nil⟩, ?_⟩
        rintro i m Ht ⟨rfl, hle, sH, acc, done, left, hacc, hleft, hys, racc⟩
        have sG : Same (cut H1 (hid B As E)) Ht := fun a o ha => sH a o (cut_some ha).2
        by_cases hlt : i < ds.length
        · refine .inr ⟨wk.go i Ht sG hlt, fun H' => i + 1 ≤ ds.length ∧ Same H1 H' ∧ ∃ acc done left, H' Dl = some (.lst acc) ∧ lc2L bnd tt it1 vs1 bnd1 tt1 f (fgt vs ρ) (ds.drop (i + 1)) = .ok left ∧ ys = done ++ left ∧ ∀ G, RepL B.P G acc done, fun H' h' => ⟨ds.length - (i + 1), by omega, rfl, h'⟩, fun x H2 y => ?_⟩
          have ed : ds[i]? = some ds[i] := List.getElem?_eq_getElem hlt
          obtain ⟨s2, G', g1, g2, g3, r⟩ := wk.yld i Ht x H2 ds[i] sG y ed
          rw [List.drop_eq_getElem_cons hlt, lc2L] at hleft
          have SB2 := (SB.hide1 hDl sH (by rw [hacc]; exact nofun)).same s2
          refine ⟨fun a => blO B As vs a ∨ a = Dl, fgt vs ρ, exAs vs As, ds[i], SB2, ?_, ?_⟩
          · rcases hv with hv | hv
            · exact r.flat (hv _ (List.getElem_mem hlt))
            · refine r.up fun a o ha => cut_of (fun z => ?_) (g2 a o ha)
              have z' : hid B As [] a ∨ a = Dl := by
                rcases z with (z | z) | z
                · exact .inl ((hid_blk (E := []) a).mp (.inl z))
                · exact .inr z
                · exact .inl ((hid_blk (E := []) a).mp (.inr z))
              rcases g3 a o ha with q | q
              · obtain ⟨q1, q2⟩ := cut_some q
                rcases z' with z' | z'
                · exact q1 (hv a z')
                · rw [z', hDl] at q2; cases q2
              · rcases z' with z' | z'
                · exact (S1.same sH).hth a z' q
                · rw [z', hacc] at q; cases q
          · cases eb : bnd ds[i] (fgt vs ρ) with
            | none => rw [eb] at hleft; cases hleft
            | some ρ1 =>
              rw [eb] at hleft
              simp only at hleft
              intro σ2 A2 S2 k2 eA2
              refine ⟨wipe_eq k2.k0 fun j hj => k2.k1 j fun z => hj (hm j z), fun a => blO B As vs a ∨ a = Dl, ρ1, A2, S2, ?_⟩
              cases et : tt ρ1 with
              | ex c fs => rw [et] at hleft; cases hleft
              | st => rw [et] at hleft; cases hleft
              | ok b =>
                rw [et, R.nox_ok, R.bind_ok] at hleft
                intro H3 s3
                have acc3 : H3 Dl = some (.lst acc) := s3 _ _ (s2 _ _ hacc)
                cases b with
                | false =>
                  simp only [Bool.false_eq_true, if_false] at hleft ⊢
                  exact ⟨hlt, (sH.trans s2).trans s3, acc, done, left, acc3, hleft, hys, racc⟩
                | true =>
                  simp only [if_true] at hleft ⊢
                  have S3 := S2.same s3
                  refine ⟨fun a => blO B As vs a ∨ a = Dl, ρ1, A2, S3, ?_⟩
                  cases ei : it1 ρ1 with
                  | ex c fs => rw [ei] at hleft; cases hleft
                  | st => rw [ei] at hleft; cases hleft
                  | ok ds1 =>
                    rw [ei, R.nox_ok, R.bind_ok] at hleft
                    cases cf : ds1.all D.flat with
                    | false => rw [cf] at hleft; cases hleft
                    | true =>
                    rw [cf] at hleft
                    simp only [if_true] at hleft
                    have fd := List.all_eq_true.mp cf
                    cases ex1 : lcL bnd1 tt1 f (fgt vs1 ρ1) ds1 with
                    | ex c fs => exact absurd ex1 lcL_noex
                    | st => rw [ex1] at hleft; cases hleft
                    | ok xs =>
                    rw [ex1, R.bind_ok] at hleft
                    cases er : lc2L bnd tt it1 vs1 bnd1 tt1 f (fgt vs ρ) (ds.drop (i + 1)) with
                    | ex c fs => rw [er] at hleft; cases hleft
                    | st => rw [er] at hleft; cases hleft
                    | ok left' =>
                    rw [er, R.bind_ok] at hleft
                    have hl := R.ok.inj hleft
                    subst hl
                    intro J1 H4 s4 wk1
                    have S4 := S3.same s4
                    have s14 : Same H1 H4 := ((sH.trans s2).trans s3).trans s4
                    have acc4 : H4 Dl = some (.lst acc) := s4 _ _ acc3
                    refine ⟨fun j k Hu => k = ds1.length - j ∧ j ≤ ds1.length ∧ (∀ a o, a ≠ Dl → H4 a = some o → Hu a = some o) ∧ ∃ acc dn xl, Hu Dl = some (.lst acc) ∧ lcL bnd1 tt1 f (fgt vs1 ρ1) (ds1.drop j) = .ok xl ∧ ys = dn ++ (xl ++ left') ∧ ∀ G, RepL B.P G acc dn,
                      ⟨ds1.length, rfl, Nat.zero_le _, fun a o _ ha => ha, acc, done, xs, acc4, ex1, hys, racc⟩, ?_⟩
                    rintro j k Hu ⟨rfl, hj, kH, acc, dn, xl, hacc, hxl, hys, racc⟩
                    have sG1 : Same (cut H4 (hid (B.wo fun a => blO B As vs a ∨ a = Dl) A2 E1)) Hu := fun a o ha => by
                      obtain ⟨z1, z2⟩ := cut_some ha
                      exact kH a o (fun z => z1 (.inl (.inr z))) z2
                    by_cases hjt : j < ds1.length
                    · refine .inr ⟨wk1.go j Hu sG1 hjt, fun H' => j + 1 ≤ ds1.length ∧ (∀ a o, a ≠ Dl → H4 a = some o → H' a = some o) ∧ ∃ acc dn xl, H' Dl = some (.lst acc) ∧ lcL bnd1 tt1 f (fgt vs1 ρ1) (ds1.drop (j + 1)) = .ok xl ∧ ys = dn ++ (xl ++ left') ∧ ∀ G, RepL B.P G acc dn, fun H' h' => ⟨ds1.length - (j + 1), by omega, rfl, h'⟩, fun x H5 y => ?_⟩
                      have ed1 : ds1[j]? = some ds1[j] := List.getElem?_eq_getElem hjt
                      obtain ⟨s5, _, _, _, _, r1⟩ := wk1.yld j Hu x H5 ds1[j] sG1 y ed1
                      rw [List.drop_eq_getElem_cons hjt, lcL] at hxl
                      have S5 := ((S4.poke (H' := Hu) (Dl := Dl) (.inr rfl) n0 kH (by rw [hacc]; exact nofun)).same s5).blk vs1
                      refine ⟨_, fgt vs1 ρ1, exAs vs1 A2, ds1[j], S5, r1.flat (fd _ (List.getElem_mem hjt)), ?_⟩
                      cases eb1 : bnd1 ds1[j] (fgt vs1 ρ1) with
                      | none => rw [eb1] at hxl; cases hxl
                      | some ρ2 =>
                        rw [eb1] at hxl
                        simp only at hxl
                        intro σ3 A3 S6 k6 eA3
                        refine ⟨wipe_eq k6.k0 fun j hj => k6.k1 j fun z => hj (hm1 j z), _, ρ2, A3, S6, ?_⟩
                        cases et1 : tt1 ρ2 with
                        | ex c fs => rw [et1] at hxl; cases hxl
                        | st => rw [et1] at hxl; cases hxl
                        | ok b1 =>
                          rw [et1, R.nox_ok, R.bind_ok] at hxl
                          intro H6 s6
                          have acc6 : H6 Dl = some (.lst acc) := s6 _ _ (s5 _ _ hacc)
                          cases b1 with
                          | false =>
                            simp only [Bool.false_eq_true, if_false] at hxl ⊢
                            exact ⟨hjt, fun a o n ha => s6 _ _ (s5 _ _ (kH a o n ha)), acc, dn, xl, acc6, hxl, hys, racc⟩
                          | true =>
                            simp only [if_true] at hxl ⊢
                            refine ⟨_, ρ2, A3, S6.same s6, ?_⟩
                            cases ef : f ρ2 with
                            | ex c fs => rw [ef] at hxl; cases hxl
                            | st => rw [ef] at hxl; cases hxl
                            | ok y =>
                              rw [ef, R.nox_ok, R.bind_ok] at hxl
                              cases er1 : lcL bnd1 tt1 f (fgt vs1 ρ1) (ds1.drop (j + 1)) with
                              | ex c fs => rw [er1] at hxl; cases hxl
                              | st => rw [er1] at hxl; cases hxl
                              | ok xl' =>
                                rw [er1, R.bind_ok] at hxl
                                have hl := R.ok.inj hxl
                                subst hl
                                intro yv H7 s7 r7
                                have acc7 : H7 Dl = some (.lst acc) := s7 _ _ acc6
                                have yf : y.flat = true := fy y (by rw [hys]; simp)
                                have ra : acc.length < sizeLine := by
                                  rw [(racc H7).len]
                                  refine Nat.lt_trans ?_ ly
                                  rw [hys]; simp
                                refine ⟨acc, acc7, ra, hjt, fun a o n ha => ?_, acc ++ [yv], dn ++ [y], xl', upd_same, rfl, by rw [hys]; simp, fun G => RepL.append (racc G) (.cons (r7.flat yf) .nil)⟩
                                rw [upd_ne n]
                                exact s7 _ _ (s6 _ _ (s5 _ _ (kH a o n ha)))
                    · have e2 : j = ds1.length := by omega
                      subst e2
                      rw [List.drop_length, lcL] at hxl
                      have hl := R.ok.inj hxl
                      subst hl
                      refine .inl ⟨wk1.stop _ Hu sG1 (Nat.le_refl _), hlt, fun a o ha => kH a o (ne_of_none ha hDl) (s14 a o ha), acc, dn, left', hacc, rfl, hys, racc⟩
        · have e2 : i = ds.length := by omega
          subst e2
          rw [List.drop_length, lc2L] at hleft
          have hl := R.ok.inj hleft
          subst hl
          rw [List.append_nil] at hys
          subst hys
          refine .inl ⟨wk.stop _ Ht sG (Nat.le_refl _), h (.ref Dl) [Dl] Ht (s1.trans sH) (List.nodup_cons.mpr ⟨List.not_mem_nil, List.nodup_nil⟩) (fun a ha => ?_) ?_⟩
          · rw [List.mem_singleton.mp ha]
            exact s1.free hDl
          · exact .lst hacc (RepOL.sh (racc _))
theorem _root_.L2.PI.ex {ι : Type} {t : ι → TI} (h : ∀ o, PI X tg iter (t o)) : PI X tg iter (fun σ H Q => ∃ o, t o σ H Q) := ⟨fun p s σ H Q I ⟨o, q⟩ => (h o).run p s σ H Q I q⟩
theorem f_lc2 {Mg Mg1 : List Nat} (hc : X.calm = true) (hN : X.N.Nodup) (hi : PI X tg iter (tI B W E Ee it)) (ok : BlkOk X.N X.env.scope scope own) (hv : ∀ i ∈ vs1, i ∈ own.map (·.2))
    (hm : ∀ i ∈ Mg, i ∈ own.map (·.2)) (hm1 : ∀ i ∈ Mg1, i ∈ vs1) (hg : ∀ (s : Shared) (H : Hp) (C : Addr) (cl : List (Str × Addr)) (fp : List Addr) (O : Addr → Prop), PG (X.blk s H scope (compEnvC scope cl C X.env) fp) tg (tG (B.wo O) Mg bnd))
    (ht : ∀ (s : Shared) (H : Hp) (C : Addr) (cl : List (Str × Addr)) (fp : List Addr) (O : Addr → Prop), PTs (X.blk s H scope (compEnvC scope cl C X.env) fp) ifs (tT (B.wo O) W0 tt))
    (hi1 : ∀ (s : Shared) (H : Hp) (C : Addr) (cl : List (Str × Addr)) (fp : List Addr) (O : Addr → Prop), PI (X.blk s H scope (compEnvC scope cl C X.env) fp) tg1 iter1 (tI (B.wo O) W0 E1 Ee1 it1))
    (hg1 : ∀ (s : Shared) (H : Hp) (C : Addr) (cl : List (Str × Addr)) (fp : List Addr) (O : Addr → Prop), PG (X.blk s H scope (compEnvC scope cl C X.env) fp) tg1 (tG (B.wo O) Mg1 bnd1))
    (ht1 : ∀ (s : Shared) (H : Hp) (C : Addr) (cl : List (Str × Addr)) (fp : List Addr) (O : Addr → Prop), PTs (X.blk s H scope (compEnvC scope cl C X.env) fp) ifs1 (tT (B.wo O) W0 tt1))
    (he : ∀ (s : Shared) (H : Hp) (C : Addr) (cl : List (Str × Addr)) (fp : List Addr) (O : Addr → Prop), PE (X.blk s H scope (compEnvC scope cl C X.env) fp) elt (tD (B.wo O) W0 E2 f)) (hs : ∀ x, foldedSetIterable iter X.env x = pure x := by intro _; rfl) (hs1 : ∀ env x, foldedSetIterable iter1 env x = pure x := by intro _ _; rfl) :
    PE X (.ListComp elt [⟨tg, iter, ifs, 0⟩, ⟨tg1, iter1, ifs1, 0⟩] scope pos) (tF B W [] (lc2E Ee (own.map (·.2)) bnd it tt it1 vs1 bnd1 tt1 f)) :=
  (pe_lc2 hc hN hi ok hv (fun s H C cl fp => .ex (hg s H C cl fp)) (fun s H C cl fp => .ex (ht s H C cl fp)) (fun s H C cl fp => .ex (hi1 s H C cl fp)) (fun s H C cl fp => .ex (hg1 s H C cl fp)) (fun s H C cl fp => .ex (ht1 s H C cl fp)) (fun s H C cl fp => .ex (he s H C cl fp)) hs hs1).imp fun σ H Q q => lc2_imp hm hm1 q
/-- name = [.. for .. for ..] -/
theorem s_setLc2 (i : Nat) {Mg Mg1 : List Nat} {x : Str} {p p' : Pos} (hN : X.N.Nodup) (hy : X.N[i]? = some x) (hyl : X.env.scope.names.lookup x = some .local)
    (hsw : swapsWith (.ListComp elt [⟨tg, iter, ifs, 0⟩, ⟨tg1, iter1, ifs1, 0⟩] scope pos) (some (.Name x p')) p.line X.env = pure true) (hc : X.calm = true) (hi : PI X tg iter (tI B W E Ee it)) (ok : BlkOk X.N X.env.scope scope own) (hv : ∀ i ∈ vs1, i ∈ own.map (·.2))
    (hm : ∀ i ∈ Mg, i ∈ own.map (·.2)) (hm1 : ∀ i ∈ Mg1, i ∈ vs1) (hg : ∀ (s : Shared) (H : Hp) (C : Addr) (cl : List (Str × Addr)) (fp : List Addr) (O : Addr → Prop), PG (X.blk s H scope (compEnvC scope cl C X.env) fp) tg (tG (B.wo O) Mg bnd))
    (ht : ∀ (s : Shared) (H : Hp) (C : Addr) (cl : List (Str × Addr)) (fp : List Addr) (O : Addr → Prop), PTs (X.blk s H scope (compEnvC scope cl C X.env) fp) ifs (tT (B.wo O) W0 tt))
    (hi1 : ∀ (s : Shared) (H : Hp) (C : Addr) (cl : List (Str × Addr)) (fp : List Addr) (O : Addr → Prop), PI (X.blk s H scope (compEnvC scope cl C X.env) fp) tg1 iter1 (tI (B.wo O) W0 E1 Ee1 it1))
    (hg1 : ∀ (s : Shared) (H : Hp) (C : Addr) (cl : List (Str × Addr)) (fp : List Addr) (O : Addr → Prop), PG (X.blk s H scope (compEnvC scope cl C X.env) fp) tg1 (tG (B.wo O) Mg1 bnd1))
    (ht1 : ∀ (s : Shared) (H : Hp) (C : Addr) (cl : List (Str × Addr)) (fp : List Addr) (O : Addr → Prop), PTs (X.blk s H scope (compEnvC scope cl C X.env) fp) ifs1 (tT (B.wo O) W0 tt1))
    (he : ∀ (s : Shared) (H : Hp) (C : Addr) (cl : List (Str × Addr)) (fp : List Addr) (O : Addr → Prop), PE (X.blk s H scope (compEnvC scope cl C X.env) fp) elt (tD (B.wo O) W0 E2 f)) (hs : ∀ x, foldedSetIterable iter X.env x = pure x := by intro _; rfl) (hs1 : ∀ env x, foldedSetIterable iter1 env x = pure x := by intro _ _; rfl) :
    PS X (.Assign [.Name x p'] (.ListComp elt [⟨tg, iter, ifs, 0⟩, ⟨tg1, iter1, ifs1, 0⟩] scope pos) p) (tS B W [i] (setF i [] (lc2E Ee (own.map (·.2)) bnd it tt it1 vs1 bnd1 tt1 f))) :=
  (ps_setLc2 hc hN hy hyl hsw hi ok hv (fun s H C cl fp => .ex (hg s H C cl fp)) (fun s H C cl fp => .ex (ht s H C cl fp)) (fun s H C cl fp => .ex (hi1 s H C cl fp)) (fun s H C cl fp => .ex (hg1 s H C cl fp)) (fun s H C cl fp => .ex (ht1 s H C cl fp)) (fun s H C cl fp => .ex (he s H C cl fp)) hs hs1).imp fun D σ H q => lc2_imp hm hm1 (imp_setF i q)
end
end DL
set_option Elab.async false
set_option linter.all false
set_option maxRecDepth 100000
namespace DL
open PySem PySem.Spec PyProof.Rows L2
/-! ## objects that do not change once they are made -/
/-- what an __init__ promises -/
def spI (P : Wd) (C : Addr) (n : Nat) (m : List D → R D) : Sp := fun vs H Q E => ∃ a dx vs', vs = .ref a :: vs' ∧ vs'.length = n ∧ H a = some (.ins C dx []) ∧ ∃ (O : Addr → Prop) (ds : List D), ¬ O a ∧ (∀ b, O b → H b ≠ none) ∧ RepL P (cut H (fun b => O b ∨ b = a)) vs' ds ∧
  (m ds).go (fun d => ∀ H', (∀ b o, b ≠ a → H b = some o → H' b = some o) → Rep P (cut H' O) (.ref a) d → Q .non H')
    (fun c fs => ∀ Cx dx vfs H', (∀ b o, b ≠ a → H b = some o → H' b = some o) → H dx = none → P.mg c = some (.ref Cx) → H' dx = some (.xd vfs) → ExF vfs fs → E (.ref Cx) (some dx) H')
/-- a class of the text, ready to be called -/
structure ObjC (P : Program) (w : World) (K : PySem.W.Frag) (mg : Str → Option Value) (base : Heap) (x : Str) (k n : Nat) (m : List D → R D) : Prop where
  ex : ∃ (C f : Addr) (fd : FuncData) (ps : List Str), mg x = some (.ref C) ∧ Mk K C f ∧ L2.Binds K fd ps [] ∧ FnOk P w K mg base (L2.CX P w) k f fd ps (spI ⟨K, mg, none⟩ C n m)
/-- a method of a class, the object as its first argument -/
structure MethC (P : Program) (w : World) (K : PySem.W.Frag) (mg : Str → Option Value) (base : Heap) (c m : Str) (k n : Nat) (mm : List D → R OD) : Prop where
  ex : ∃ (C f : Addr) (fd : FuncData) (ps : List Str), mg c = some (.ref C) ∧ Cls K C ∧ Meth K C m f ∧ L2.Binds K fd ps [] ∧ FnOk P w K mg base (L2.CX P w) k f fd ps (spD ⟨K, mg, none⟩ n mm)
section
variable {X : Cx} {CX : CXT} {k : Nat} {C f : Addr} {fd : FuncData} {ps : List Str} {sp : Sp} {E : L2.St → XK} {x m : Str} {p pos apos : Pos} {e o : Expr} {es : List Expr} {ta : TE} {t : TA}
theorem run_makeS {pins : List (Addr × Obj)} {σ : L2.St} {H : Hp} {s : Shared} {Q : VK} {us : List Value} {vs : List V} (M : Mk X.K C f) (F : FnOk X.prog X.w X.K X.mg X.base CX k f fd ps sp) (hr : Room (k + 1) X.A) (hb : L2.Binds X.K fd ps [])
    (hx : PassesAt CX X σ (E σ)) (I : Inv X pins σ H s) (r : Vals vs us)
    (h : ∀ x dx, H x = none → H dx = none → dx ≠ x → sp (.ref x :: vs) (upd (upd H dx (.own x)) x (.ins C dx [])) (fun v H2 => v = .non ∧ Q (.ref x) H2) (E σ)) :
    wpAny (model X.prog X.w) X.A (call (.ref C) us) (EP X pins σ Q) X.xe s := by
  have hq := h (s.heap.objs.size + 1) s.heap.objs.size (I.hok.fresh (Nat.le_succ _)) (I.hok.fresh (Nat.le_refl _)) (Nat.ne_of_lt (Nat.lt_succ_self _))
  have I2 := Inv.made (C := C) I
  have r2 : Vals (V.ref (s.heap.objs.size + 1) :: vs) (Value.ref (s.heap.objs.size + 1) :: us) := .cons rfl r
  have hl : (Value.ref (s.heap.objs.size + 1) :: us).length = ps.length := by
    have e := r2.length
    rw [F.len _ _ _ _ hq] at e
    exact e.symm
  have b := hb _ (Value.ref (s.heap.objs.size + 1) :: us) I2.kIn (by rw [List.append_nil]; exact hl)
  rw [List.append_nil] at b
  refine wpAny_call (make_map (f := f) I.kIn M.makes M.init (beq_iff_eq.mp M.fn) (codeAny_mono (F.run _ X.stack _ _ ⟨Value.ref (s.heap.objs.size + 1) :: us, []⟩ (Value.ref (s.heap.objs.size + 1) :: us) _ _ (E σ) (hr.make C us [])
    (I2.env0.make C us []) b r2 hq) fun r s' hq' => ?_))
  cases r with
  | error e => exact hx pins _ _ e s' I2 hq'
  | ok fl =>
    cases fl with
    | ret u =>
      obtain ⟨v, H', I3, rv, ev, q3⟩ := I2.after hq'
      subst ev
      exact ⟨rv, ⟨V.ref (s.heap.objs.size + 1), H', I3, rfl, q3⟩⟩
    | next => exact False.elim hq'
    | brk => exact False.elim hq'
    | cont => exact False.elim hq'
def tMakeS (C : Addr) (sp : Sp) (E : L2.St → XK) (t : TA) : TE := fun σ H Q => t σ H fun vs H1 => ∀ x dx, H1 x = none → H1 dx = none → dx ≠ x →
  sp (.ref x :: vs) (upd (upd H1 dx (.own x)) x (.ins C dx [])) (fun v H2 => v = .non ∧ Q (.ref x) H2) (E σ)
theorem pe_makeS (M : Mk X.K C f) (F : FnOk X.prog X.w X.K X.mg X.base CX k f fd ps sp) (hr : Room (k + 1) X.A) (hg : Gl X x) (hm : X.mg x = some (.ref C)) (hb : L2.Binds X.K fd ps []) (hx : ∀ σ, PassesAt CX X σ (E σ))
    (ha : PA X (e :: es) t) (hdb : (x == ("__debug__" : Str)) = false := by decide) (he : starEach (e :: es) X.env = (false, eval e X.env) :: starEach es X.env := by rfl) (hpl : (backTo pos (starEach es X.env)).any (·.1) = false := by rfl) :
    PE X (.Call (.Name x p) (e :: es) [] pos) (tMakeS C sp E t) := by
  refine ⟨fun pins s σ H Q I h => ?_⟩
  refine wpAny_Call_Name_kw (ld_glob I hg hm ?_ hdb)
  refine PySem.W.callWith_K (h₀ := X.base) I.ok.mod.kin M.kp (thn (ha.run pos pins s σ H _ I h) fun us s1 ⟨vs, H1, I1, r, q⟩ => ⟨I1.kIn, ?_⟩) he hpl
  exact run_makeS M F hr hb (hx σ) I1 r q
def tMethSS (C : Addr) (m : Str) (sp : Sp) (E : L2.St → XK) (ta : TE) (t : TA) : TE := fun σ H Q => ta σ H fun x H1 => ∃ a dx fs, x = .ref a ∧ H1 a = some (.ins C dx fs) ∧ fs.lookup m = none ∧
  t σ H1 fun vs H2 => sp (x :: vs) H2 Q (E σ)
theorem pe_methSS {pl : Sem Bool} (he : PE X o ta) (c : Cls X.K C) (hm : Meth X.K C m f) (F : FnOk X.prog X.w X.K X.mg X.base CX k f fd ps sp) (hr : Room k X.A) (hb : L2.Binds X.K fd ps []) (hx : ∀ σ, PassesAt CX X σ (E σ)) (ha : PA X (e :: es) t)
    (hst : starEach (e :: es) X.env = (false, eval e X.env) :: starEach es X.env := by rfl) (hpl : (backTo pos (starEach es X.env)).any (·.1) = false := by rfl)
    (ht : eval (.Call (.Attribute o m apos) (e :: es) [] pos) X.env = (do
      let ov ← eval o X.env
      standAt apos.atName
      let (f, first) ← holding [ov] (getMethod ov m pl)
      callWith pos f first (backTo pos (starEach (e :: es) X.env)) (backToKw pos (keywordEach [] X.env))) := by rfl) :
    PE X (.Call (.Attribute o m apos) (e :: es) [] pos) (tMethSS C m sp E ta t) := by
  refine ⟨fun pins s σ H Q I h => ?_⟩
  refine PySem.W.methodCall_KW (pl := pl) (thn (he.run pins s σ H _ I h) fun u s1 ⟨x, H1, I1, rx, a, dx, fs, ex, ea, l, q⟩ => ?_) ht
  subst ex
  obtain rfl : u = Value.ref a := rx
  refine getmeth_ok I1 ea c hm l ?_
  refine PySem.W.callWith_K (first := [.ref a]) (h₀ := X.base) I.ok.mod.kin hm.kp (thn (ha.run pos pins s1 σ H1 _ I1 q) fun us s2 ⟨vs, H2, I2, r, q2⟩ => ⟨I2.kIn, ?_⟩) hst hpl
  exact run_fnS (us := .ref a :: us) (vs := .ref a :: vs) F hr hb (hx σ) I2 (.cons rfl r) q2
theorem pe_methSS0 {pl : Sem Bool} (he : PE X o ta) (c : Cls X.K C) (hm : Meth X.K C m f) (F : FnOk X.prog X.w X.K X.mg X.base CX k f fd ps sp) (hr : Room k X.A) (hb : L2.Binds X.K fd ps []) (hx : ∀ σ, PassesAt CX X σ (E σ))
    (ht : eval (.Call (.Attribute o m apos) [] [] pos) X.env = (do
      let ov ← eval o X.env
      standAt apos.atName
      let (f, first) ← holding [ov] (getMethod ov m pl)
      callWith pos f first (backTo pos (starEach [] X.env)) (backToKw pos (keywordEach [] X.env))) := by rfl) :
    PE X (.Call (.Attribute o m apos) [] [] pos) (tMethSS C m sp E ta tNil) := by
  refine ⟨fun pins s σ H Q I h => ?_⟩
  refine PySem.W.methodCall_KW (pl := pl) (thn (he.run pins s σ H _ I h) fun u s1 ⟨x, H1, I1, rx, a, dx, fs, ex, ea, l, q⟩ => ?_) ht
  subst ex
  obtain rfl : u = Value.ref a := rx
  refine getmeth_ok I1 ea c hm l ?_
  exact PySem.W.callWith_K0 (first := [.ref a]) I1.kIn hm.kp (run_fnS (us := [.ref a]) (vs := [.ref a]) F hr hb (hx σ) I1 (.cons rfl .nil) q)
end
theorem RepF.look {P : Wd} {G : Hp} {f : Str} {d : D} : ∀ {ds : List (Str × D)} {vs : List (Str × V)}, RepF P G vs ds → ds.lookup f = some d → ∃ v, vs.lookup f = some v ∧ Rep P G v d
  | [], vs, h, e => by cases e
  | (g, d') :: ds, vs, h, e => by
    cases h with
    | cons h1 h2 =>
      rw [List.lookup_cons] at e ⊢
      cases c : (f == g) with
      | true => rw [c] at e; cases e; exact ⟨_, rfl, h1⟩
      | false => rw [c] at e; exact RepF.look h2 e
theorem RepF.lookN {P : Wd} {G : Hp} {f : Str} : ∀ {ds : List (Str × D)} {vs : List (Str × V)}, RepF P G vs ds → ds.lookup f = none → vs.lookup f = none
  | [], vs, h, e => by cases h; rfl
  | (g, d') :: ds, vs, h, e => by
    cases h with
    | cons h1 h2 =>
      rw [List.lookup_cons] at e ⊢
      cases c : (f == g) with
      | true => rw [c] at e; cases e
      | false => rw [c] at e; exact RepF.lookN h2 e
theorem RepF.up {P : Wd} {G G' : Hp} {vs : List (Str × V)} {ds : List (Str × D)} (h : RepF P G vs ds) (s : Same G G') : RepF P G' vs ds := RepF.mono s ds vs h
theorem RepF.snoc {P : Wd} {G : Hp} {f : Str} {v : V} {d : D} (hv : Rep P G v d) : ∀ {ds : List (Str × D)} {vs : List (Str × V)}, RepF P G vs ds → ds.any (fun q => q.1 == f) = false → RepF P G (putF f v vs) (ds ++ [(f, d)]) ∧ vs.length = ds.length
  | [], vs, h, e => by cases h; exact ⟨.cons hv .nil, rfl⟩
  | (g, d') :: ds, vs, h, e => by
    cases h with
    | cons h1 h2 =>
      rw [List.any_cons, Bool.or_eq_false_iff] at e
      obtain ⟨r1, r2⟩ := RepF.snoc hv h2 e.2
      refine ⟨?_, by rw [List.length_cons, List.length_cons, r2]⟩
      unfold putF
      rw [if_neg (by intro z; have := e.1; rw [z] at this; simp at this)]
      exact .cons h1 r1
theorem Rep.objE {P : Wd} {G : Hp} {v : V} {c : Str} {ds : List (Str × D)} (h : Rep P G v (.obj c ds)) : ∃ a C dx vs, v = .ref a ∧ P.mg c = some (.ref C) ∧ G a = some (.ins C dx vs) ∧ RepF P G vs ds := by
  cases h with
  | obj h0 h1 h2 => exact ⟨_, _, _, _, rfl, h0, h1, h2⟩
/-! ## C(e, ..), o.f, o.m(e, ..) -/
def newE (m : List D → R D) (fa : En → R (List D)) : En → R D := fun ρ => (fa ρ).bind m
def fldO (cs : List Str) (f : Str) : D → Option D
  | .obj c fs => if cs.contains c then fs.lookup f else none
  | _ => none
def isOb (c m : Str) : D → Bool
  | .obj c' fs => decide (c' = c) && (fs.lookup m).isNone
  | _ => false
def methE (c m : Str) (mm : List D → R OD) (g : En → R D) (fa : En → R (List D)) : En → R OD := fun ρ => (g ρ).bind fun a => if isOb c m a then (fa ρ).bind fun as => mm (a :: as) else .st
theorem Rep.isOb {P : Wd} {G : Hp} {v : V} {d : D} {c m : Str} {C : Addr} (r : Rep P G v d) (h : isOb c m d = true) (mg : P.mg c = some (.ref C)) : ∃ a dx vs, v = .ref a ∧ G a = some (.ins C dx vs) ∧ vs.lookup m = none := by
  unfold DL.isOb at h
  split at h
  · rename_i c' fs
    obtain ⟨a, C', dx, vs, rfl, mc, ga, rf⟩ := r.objE
    obtain ⟨h1, h2⟩ := Bool.and_eq_true_iff.mp h
    have h1 := of_decide_eq_true h1
    subst h1
    have e := Option.some.inj (mc.symm.trans mg)
    cases e
    exact ⟨a, dx, vs, rfl, ga, rf.lookN (Option.isNone_iff_eq_none.mp h2)⟩
  · cases h
section
variable {X : Cx} {B : Bs} {W : WX} {E E1 E2 M : List Nat} {f g : En → R D} {fa : En → R (List D)} {e o : Expr} {es : List Expr} {pos p apos : Pos} {x m : Str}
theorem d_new {k n : Nat} {md : List D → R D} {P' : Program} {w' : World} {K' : PySem.W.Frag} {mg' : Str → Option Value} {base' : Heap} {k' : Nat} (c : ObjC P' w' K' mg' base' x k n md) (hr : Room k' X.A) (hk : k + 1 ≤ k') (tk : Takes X W) (gl : Gl X x)
    (ha : PA X (e :: es) (tA B W E fa)) (hl : ∀ ρ ds, fa ρ = .ok ds → ds.length = n) (hP : X.prog = P' := by rfl) (hw : X.w = w' := by rfl) (hK : X.K = K' := by rfl) (hm : X.mg = mg' := by rfl) (hb : X.base = base' := by rfl) (hBK : B.P = ⟨X.K, X.mg, none⟩ := by rfl)
    (hdb : (x == ("__debug__" : Str)) = false := by decide) (he : starEach (e :: es) X.env = (false, eval e X.env) :: starEach es X.env := by rfl) (hpl : (backTo pos (starEach es X.env)).any (·.1) = false := by rfl) :
    PE X (.Call (.Name x p) (e :: es) [] pos) (tD B W E (newE md fa)) := by
  subst hP hw hK hm hb
  obtain ⟨C, f, fd, ps, mgC, hM, hB, F⟩ := c.ex
  rw [← hBK] at F
  refine (pe_makeS (E := WE W) hM F (hr.mono hk) gl mgC hB (fun σ => passAt tk σ) ha hdb he hpl).imp fun σ H Q ⟨ρ, As, S, q⟩ => ?_
  have hl := hl ρ
  unfold newE at q
  refine ⟨ρ, As, S, ?_⟩
  cases ef : fa ρ with
  | st => rw [ef] at q; exact q
  | ex c fs => rw [ef] at q; exact q
  | ok ds =>
    rw [ef, R.bind_ok] at q
    intro vs H1 s1 r1 a dx ha hdx hne
    have S1 := S.same s1
    have na : ∀ b o, H1 b = some o → b ≠ a ∧ b ≠ dx := fun b o hb => ⟨fun z => (by rw [z, ha] at hb; cases hb), fun z => (by rw [z, hdx] at hb; cases hb)⟩
    have ks : ∀ b o, H1 b = some o → (upd (upd H1 dx (.own a)) a (.ins C dx [])) b = some o := fun b o hb => by rw [upd_ne (na b o hb).1, upd_ne (na b o hb).2]; exact hb
    refine ⟨a, dx, vs, rfl, by rw [r1.len]; exact hl ds ef, upd_same, hid B As E, ds, fun z => S1.hth a z ha, fun b z => ?_, r1.up fun b o z => ?_, ?_⟩
    · obtain ⟨o, eo⟩ := ne_none (S1.hth b z)
      rw [ks b o eo]; exact nofun
    · obtain ⟨z1, z2⟩ := cut_some z
      exact cut_of (fun w => w.elim z1 fun w => (na b o z2).1 w) (ks b o z2)
    · cases em : md ds with
      | st => rw [em] at q; exact q
      | ok d =>
        rw [em] at q
        exact fun H' k r => ⟨rfl, q (.ref a) H' (s1.trans fun b o hb => k b o (na b o hb).1 (ks b o hb)) r⟩
      | ex c fs =>
        rw [em] at q
        refine fun Cx d vfs H' k nd mc hd xf => q Cx d vfs H' (s1.trans fun b o hb => k b o (na b o hb).1 (ks b o hb)) (s1.free ?_) mc hd xf
        cases z : H1 d with
        | none => rfl
        | some o => rw [ks d o z] at nd; cases nd
theorem d_fld {f : Str} (cs : List Str) (hcl : ∀ c ∈ cs, ∀ C, X.mg c = some (.ref C) → Cls X.K C ∧ NoAttr X.K C f) (h : PE X e (tD B W E g)) (hP : B.P.mg = X.mg := by rfl) (hb : attributeBase e f X.env (eval e X.env) = eval e X.env := by rfl) :
    PE X (.Attribute e f pos) (tD B W E (op1 (fldO cs f) g)) := (pe_fld h hb).imp fun σ H Q ⟨ρ, As, S, q⟩ => tD_bind S q fun d v H1 s1 S1 r q1 => by
  unfold fldO at q1
  split at q1
  · rename_i c fs
    obtain ⟨a, C, dx, vs, rfl, mc, ga, rf⟩ := r.objE
    split at q1
    · rename_i hc
      obtain ⟨k1, k2⟩ := hcl c (List.contains_iff_mem.mp hc) C (by rw [← hP]; exact mc)
      cases el : fs.lookup f with
      | none => rw [el] at q1; exact q1.elim
      | some d =>
        rw [el] at q1
        obtain ⟨v, lv, rv⟩ := rf.look el
        exact ⟨a, C, dx, vs, v, rfl, (cut_some ga).2, k1, k2, lv, q1 v H1 s1 rv⟩
    · exact q1.elim
  · exact q1.elim
theorem f_meth {k k' n : Nat} {c : Str} {mm : List D → R OD} {P' : Program} {w' : World} {K' : PySem.W.Frag} {mg' : Str → Option Value} {base' : Heap} (mc : MethC P' w' K' mg' base' c m k (n + 1) mm) (hr : Room k' X.A) (hk : k ≤ k') (tk : Takes X W)
    (ho : PE X o (tD B W E1 g)) (ha : PA X (e :: es) (tA B W E2 fa)) (hl : ∀ ρ ds, fa ρ = .ok ds → ds.length = n) (hP : X.prog = P' := by rfl) (hw : X.w = w' := by rfl) (hK : X.K = K' := by rfl) (hm : X.mg = mg' := by rfl) (hb : X.base = base' := by rfl) (hBK : B.P = ⟨X.K, X.mg, none⟩ := by rfl)
    {pl : Sem Bool} (hst : starEach (e :: es) X.env = (false, eval e X.env) :: starEach es X.env := by rfl) (hpl : (backTo pos (starEach es X.env)).any (·.1) = false := by rfl)
    (ht : eval (.Call (.Attribute o m apos) (e :: es) [] pos) X.env = (do
      let ov ← eval o X.env
      standAt apos.atName
      let (f, first) ← holding [ov] (getMethod ov m pl)
      callWith pos f first (backTo pos (starEach (e :: es) X.env)) (backToKw pos (keywordEach [] X.env))) := by rfl) :
    PE X (.Call (.Attribute o m apos) (e :: es) [] pos) (tF B W (E1 ++ E2) (methE c m mm g fa)) := by
  subst hP hw hK hm hb
  obtain ⟨C, f, fd, ps, mgC, hC, hM, hB, F⟩ := mc.ex
  have mgB : B.P.mg c = some (.ref C) := by rw [hBK]; exact mgC
  rw [← hBK] at F
  refine (pe_methSS (E := WE W) ho hC hM F (hr.mono hk) hB (fun σ => passAt tk σ) ha hst hpl ht).imp fun σ H Q ⟨ρ, As, S, q⟩ => ?_
  refine tD_bind S q fun d v H1 s1 S1 r1 q1 => ?_
  have hl := hl ρ
  cases ei : isOb c m d with
  | false => rw [ei] at q1; exact q1.elim
  | true =>
    rw [ei] at q1
    simp only [if_true] at q1
    obtain ⟨a, dx, fs, rfl, ga, lk⟩ := r1.isOb ei mgB
    refine ⟨a, dx, fs, rfl, (cut_some ga).2, lk, ρ, As, S1, ?_⟩
    cases ef : fa ρ with
    | st => rw [ef] at q1; exact q1
    | ex c fs => rw [ef] at q1; exact q1
    | ok ds =>
      rw [ef, R.bind_ok] at q1
      intro vs H2 s2 r2
      have S2 := S1.same s2
      refine ⟨by rw [List.length_cons, r2.len, hl ds ef], hid B As (E1 ++ E2), d :: ds, S2.hth, .cons (r1.up (cut_mono s2 (hid_mono fun i hi => List.mem_append_left _ hi))) (r2.up (cut_mono (Same.refl _) (hid_mono fun i hi => List.mem_append_right _ hi))), ?_⟩
      cases em : mm (d :: ds) with
      | st => rw [em] at q1; exact q1
      | ok od =>
        rw [em] at q1
        exact fun v A H' s nA fA ro => q1 v A H' ((s1.trans s2).trans s) nA (fun a ha => (s1.trans s2).free (fA a ha)) ro
      | ex c fs =>
        rw [em] at q1
        exact fun C dx vfs H' s nd mc hd xf => q1 C dx vfs H' (s2.trans s) (s2.free nd) mc hd xf
theorem f_meth0 {k k' : Nat} {c : Str} {mm : List D → R OD} {P' : Program} {w' : World} {K' : PySem.W.Frag} {mg' : Str → Option Value} {base' : Heap} (mc : MethC P' w' K' mg' base' c m k 1 mm) (hr : Room k' X.A) (hk : k ≤ k') (tk : Takes X W)
    (ho : PE X o (tD B W E1 g)) (hP : X.prog = P' := by rfl) (hw : X.w = w' := by rfl) (hK : X.K = K' := by rfl) (hm : X.mg = mg' := by rfl) (hb : X.base = base' := by rfl) (hBK : B.P = ⟨X.K, X.mg, none⟩ := by rfl)
    {pl : Sem Bool}
    (ht : eval (.Call (.Attribute o m apos) [] [] pos) X.env = (do
      let ov ← eval o X.env
      standAt apos.atName
      let (f, first) ← holding [ov] (getMethod ov m pl)
      callWith pos f first (backTo pos (starEach [] X.env)) (backToKw pos (keywordEach [] X.env))) := by rfl) :
    PE X (.Call (.Attribute o m apos) [] [] pos) (tF B W E1 (methE c m mm g aNil)) := by
  subst hP hw hK hm hb
  obtain ⟨C, f, fd, ps, mgC, hC, hM, hB, F⟩ := mc.ex
  have mgB : B.P.mg c = some (.ref C) := by rw [hBK]; exact mgC
  rw [← hBK] at F
  refine (pe_methSS0 (E := WE W) ho hC hM F (hr.mono hk) hB (fun σ => passAt tk σ) ht).imp fun σ H Q ⟨ρ, As, S, q⟩ => ?_
  refine tD_bind S q fun d v H1 s1 S1 r1 q1 => ?_
  cases ei : isOb c m d with
  | false => rw [ei] at q1; exact q1.elim
  | true =>
    rw [ei] at q1
    simp only [if_true] at q1
    obtain ⟨a, dx, fs, rfl, ga, lk⟩ := r1.isOb ei mgB
    refine ⟨a, dx, fs, rfl, (cut_some ga).2, lk, ?_⟩
    unfold aNil at q1
    rw [R.bind_ok] at q1
    refine ⟨rfl, hid B As E1, [d], S1.hth, .cons r1 .nil, ?_⟩
    cases em : mm [d] with
    | st => rw [em] at q1; exact q1
    | ok od =>
      rw [em] at q1
      exact fun v A H' s nA fA ro => q1 v A H' (s1.trans s) nA (fun a ha => s1.free (fA a ha)) ro
    | ex c fs =>
      rw [em] at q1
      exact fun C dx vfs H' s nd mc hd xf => q1 C dx vfs H' s nd mc hd xf
end
section
variable {P : Program} {w : World} {K : PySem.W.Frag} {mg : Str → Option Value} {base : Heap}
theorem meth_ok {x qual c : Str} {params : Arguments} {sts : List Stmt} {scope : Scope} {C f : Addr} {fd : FuncData} {N ps : List Str} {k n : Nat} {M : List Nat} {body : En → Out} (F : FunD K x qual params sts scope [] [] f fd) (hg : mg c = some (.ref C)) (hC : Cls K C) (hM : Meth K C x f) (S : FnScope N ps scope) (hn : ps.length = n) (hb : L2.Binds K fd ps [])
    (hbody : ∀ (cdv : Value) (A : Around) (outer : List Env) (s : Shared) (H : Hp) (E : XK) (O : Addr → Prop), Room k (A.deeper (envOfC qual scope s.heap.objs.size f cdv)) →
      PSs (cxOf (L2.CX P w) P w K mg base N qual scope f cdv A outer s H E) sts (tS ⟨⟨K, mg, none⟩, O, fun _ => False, H⟩ (fun c d _ H' => E c d H') M body)) :
    MethC P w K mg base c x (k + 1) n (mOf n N.length body) := ⟨C, f, fd, ps, hg, hC, hM, hb, fn_okD F S hn hbody⟩
end
/-! ## __init__ -/
abbrev InR := En → List (Str × D) → R (List (Str × D))
def inNil : InR := fun _ ds => .ok ds
def inFld (f : Str) (g : En → R D) (k : InR) : InR := fun ρ ds => (g ρ).bind fun d => if ds.any (fun q => q.1 == f) = false ∧ ds.length < 1000 then k ρ (ds ++ [(f, d)]) else .st
def inPre (s : En → Out) (k : InR) : InR := fun ρ ds => match ds with
  | [] => (match s ρ with
    | .nx ρ' => k ρ' []
    | .ex c fs _ => .ex c fs
    | _ => .st)
  | _ => .st
def tIn (B : Bs) (W : WX) (a C : Addr) (k : InR) : TS := fun D σ H => ∃ ρ As dx vs ds, Sta B σ H ρ As ∧ σ[0]? = some (some (.ref a)) ∧ B.O a ∧ B.A0 a ∧ (∀ b, B.A0 b → b = a) ∧ H a = some (.ins C dx vs) ∧ RepF B.P (cut H B.O) vs ds ∧
  (k ρ ds).go (fun ds' => ∀ σ' H' dx vs', (∀ b o, b ≠ a → B.H0 b = some o → H' b = some o) → H' a = some (.ins C dx vs') → RepF B.P (cut H' B.O) vs' ds' → D.nx σ' H')
    (fun c fs => ∀ Cx d vfs σ' H', (∀ b o, b ≠ a → B.H0 b = some o → H' b = some o) → B.H0 d = none → B.P.mg c = some (.ref Cx) → H' d = some (.xd vfs) → ExF vfs fs → W (.ref Cx) (some d) σ' H')
section
variable {B : Bs} {σ : L2.St} {H H' : Hp} {ρ : En} {As : Ow} {E vs : List Nat}
theorem Sta.pokeA (S : Sta B σ H ρ As) {Dl : Addr} (hD : B.O Dl) (n0 : B.A0 Dl) (k : ∀ a o, a ≠ Dl → H a = some o → H' a = some o) (t : H' Dl ≠ none) : Sta B σ H' ρ As where
  len := S.len
  pt := fun i od e => by
    obtain ⟨v, e1, r⟩ := S.pt i od e
    refine ⟨v, e1, RepO.mono (fun a o h => ?_) _ _ _ r fun a ha => ?_⟩
    · obtain ⟨h1, h2⟩ := cut_some h
      exact cut_of h1 (k a o (fun z => h1 (.inl (by rw [z]; exact hD))) h2)
    · obtain ⟨o, eo⟩ := ne_none (S.hs i a ha)
      rw [eo, k a o (fun z => S.no i a ha (by rw [z]; exact hD)) eo]
  nd := S.nd
  dj := S.dj
  ow := S.ow
  no := S.no
  hs := fun i a h => by
    obtain ⟨o, eo⟩ := ne_none (S.hs i a h)
    rw [k a o (fun z => S.no i a h (by rw [z]; exact hD)) eo]; exact nofun
  ob := fun a h => by
    by_cases z : a = Dl
    · rw [z]; exact t
    · obtain ⟨o, eo⟩ := ne_none (S.ob a h)
      rw [k a o z eo]; exact nofun
  fr := fun a o e h => k a o (fun z => h (by rw [z]; exact n0)) (S.fr a o e h)
  th := fun a h => by
    by_cases z : a = Dl
    · rw [z]; exact t
    · obtain ⟨o, eo⟩ := ne_none (S.th a h)
      rw [k a o z eo]; exact nofun
theorem Sta.none0 (S : Sta B σ H ρ As) {d : Addr} (h : H d = none) : B.H0 d = none := by
  cases q : B.H0 d with
  | none => rfl
  | some o => exact absurd h (S.th d (by rw [q]; exact nofun))
end
section
variable {X : Cx} {B : Bs} {W : WX} {a C : Addr} {k : InR} {E M : List Nat} {g : En → R D} {s : En → Out} {e : Expr} {st : Stmt} {sts : List Stmt} {pos p px : Pos} {x f : Str}
theorem in_nil : PSs X [] (tIn B W a C inNil) := ⟨fun p s σ H D I ⟨ρ, As, dx, vs, ds, S, h0, hO, hA, hA2, ha, rf, q⟩ => (pss_nil (X := X)).run p s σ H D I (q σ H dx vs (fun b o n e => S.fr b o e fun z => n (hA2 b z)) ha rf)⟩
theorem in_fld (hs : PE X (.Name x px) (tVar 0)) (h : PE X e (tD B W E g)) (hC : Cls X.K C) (hn : NoAttr X.K C f) (hr : PSs X sts (tIn B W a C k)) (hsw : swapsWith e (some (.Attribute (.Name x px) f p)) pos.line X.env = pure false := by rfl) :
    PSs X (.Assign [.Attribute (.Name x px) f p] e pos :: sts) (tIn B W a C (inFld f g k)) :=
  (pss_cons (ps_fld hs h hsw) hr).imp fun D σ H ⟨ρ, As, dx, vs, ds, S, h0, hO, hA, hA2, ha, rf, q⟩ => by
    unfold inFld at q
    refine ⟨ρ, As, S, ?_⟩
    cases eg : g ρ with
    | st => rw [eg] at q; exact q
    | ex c fs =>
      rw [eg] at q
      exact fun Cx d vfs H' s nd mc hd xf => q Cx d vfs σ H' (fun b o n e => s b o (S.fr b o e fun z => n (hA2 b z))) (S.none0 nd) mc hd xf
    | ok d =>
      rw [eg, R.bind_ok] at q
      intro y H1 s1 r1
      split at q
      · rename_i hc
        have rs : Rep B.P (cut (upd H1 a (.ins C dx (putF f y vs))) B.O) y d := r1.up fun b o z => by
          obtain ⟨z1, z2⟩ := cut_some z
          have z3 : ¬ B.O b := fun w => z1 (.inl w)
          exact cut_of z3 (by rw [upd_ne fun w => z3 (by rw [w]; exact hO)]; exact z2)
        have ro : RepF B.P (cut (upd H1 a (.ins C dx (putF f y vs))) B.O) vs ds := rf.up fun b o z => by
          obtain ⟨z1, z2⟩ := cut_some z
          exact cut_of z1 (by rw [upd_ne fun w => z1 (by rw [w]; exact hO)]; exact s1 b o z2)
        obtain ⟨rn, rl⟩ := RepF.snoc rs ro hc.1
        refine ⟨.ref a, h0, a, C, dx, vs, rfl, s1 _ _ ha, hC, hn, by rw [rl]; exact hc.2, ρ, As, dx, _, _, (S.same s1).pokeA hO hA (fun b o n e => by rw [upd_ne n]; exact e) (by rw [upd_same]; exact nofun), h0, hO, hA, hA2, upd_same, rn, q⟩
      · exact q.elim
theorem in_pre (h : PS X st (tS B W M s)) (h0 : 0 ∉ M) (hr : PSs X sts (tIn B W a C k)) : PSs X (st :: sts) (tIn B W a C (inPre s k)) :=
  (pss_cons h hr).imp fun D σ H ⟨ρ, As, dx, vs, ds, S, e0, hO, hA, hA2, ha, rf, q⟩ => by
    unfold inPre at q
    refine ⟨ρ, As, S, ?_⟩
    cases ds with
    | cons d ds => exact q.elim
    | nil =>
      cases rf
      simp only at q
      revert q
      cases s ρ with
      | st => exact fun q => q.elim
      | bk ρ => exact fun q => q.elim
      | ct ρ => exact fun q => q.elim
      | rt od ρ' => exact fun q => q.elim
      | nx ρ' =>
        exact fun q σ' H' As' S' k' => ⟨ρ', As', dx, [], [], S', (k'.k1 0 h0).trans e0, hO, hA, hA2, k'.k3 a _ ha fun i _ z => S.no i a z hO, .nil, q⟩
      | ex c fs ρ' =>
        exact fun q Cx d vfs σ' H' As' S' k' nd mc hd na xf => q Cx d vfs σ' H' (fun b o n e => S'.fr b o e fun z => n (hA2 b z)) (S.none0 nd) mc hd xf
end
section
variable {P : Program} {w : World} {K : PySem.W.Frag} {mg : Str → Option Value} {base : Heap}
def mIn (x : Str) (n N : Nat) (k : InR) : List D → R D := fun ds => if ds.length = n then (k (none :: (ds.map (fun d => some (OD.sh d)) ++ List.replicate (N - (n + 1)) none)) []).bind fun fs => .ok (.obj x fs) else .st
theorem sta_startI {O A0 : Addr → Prop} {H : Hp} {N : Nat} {u : V} {vs : List V} {ds : List D} (hO : ∀ a, O a → H a ≠ none) (r : RepL ⟨K, mg, none⟩ (cut H O) vs ds) :
    Sta ⟨⟨K, mg, none⟩, O, A0, H⟩ ((u :: vs).map some ++ List.replicate N none) H (none :: (ds.map (fun d => some (OD.sh d)) ++ List.replicate N none)) (fun _ => []) where
  len := by simp [r.len]
  pt := fun i od e => by
    cases i with
    | zero => cases e
    | succ i =>
    rw [List.getElem?_cons_succ] at e
    by_cases hi : i < ds.length
    · rw [List.getElem?_append_left (by rw [List.length_map]; exact hi), List.getElem?_map] at e
      cases e1 : ds[i]? with
      | none => rw [e1] at e; cases e
      | some d =>
        rw [e1] at e
        cases e
        obtain ⟨v, e2, rv⟩ := r.getD e1
        refine ⟨v, ?_, .sh (rv.up (cut_mono (Same.refl _) fun a z => ?_))⟩
        · rw [List.map_cons, List.cons_append, List.getElem?_cons_succ, List.getElem?_append_left (by rw [List.length_map, r.len]; exact hi), List.getElem?_map, e2]; rfl
        · rcases z with z | ⟨j, _, z⟩
          · exact z
          · cases z
    · rw [List.getElem?_append_right (by rw [List.length_map]; omega)] at e
      rw [List.getElem?_replicate] at e
      split at e <;> cases e
  nd := fun _ => List.nodup_nil
  dj := fun _ _ _ h => nomatch h
  ow := fun _ _ h => nomatch h
  no := fun _ _ h => nomatch h
  hs := fun _ _ h => nomatch h
  ob := hO
  fr := fun a o e _ => e
  th := fun a h => h
theorem init_ok {x qual nm : Str} {params : Arguments} {sts : List Stmt} {scope : Scope} {C f : Addr} {fd : FuncData} {N ps : List Str} {k n : Nat} {kr : InR} (F : FunD K nm qual params sts scope [] [] f fd) (hg : mg x = some (.ref C)) (hM : Mk K C f) (S : FnScope N ps scope) (hn : ps.length = n + 1) (hb : L2.Binds K fd ps [])
    (hbody : ∀ (cdv : Value) (A : Around) (outer : List Env) (s : Shared) (H : Hp) (E : XK) (O : Addr → Prop) (a : Addr), Room k (A.deeper (envOfC qual scope s.heap.objs.size f cdv)) →
      PSs (cxOf (L2.CX P w) P w K mg base N qual scope f cdv A outer s H E) sts (tIn ⟨⟨K, mg, none⟩, O, fun b => b = a, H⟩ (fun c d _ H' => E c d H') a C kr)) :
    ObjC P w K mg base x (k + 1) n (mIn x n N.length kr) := by
  refine ⟨C, f, fd, ps, hg, hM, hb, ?_⟩
  refine F.ok S (fun vs H Q E ⟨a, dx, vs', e, hl, _⟩ => by rw [e, List.length_cons, hl, hn]) fun cdv A outer s H vs Q E hr hsp => ?_
  obtain ⟨a, dx, vs', rfl, hl, ha, O, ds, nO, hO, r, q⟩ := hsp
  refine ⟨_, hbody cdv A outer s H E (fun b => O b ∨ b = a) a hr, ?_⟩
  unfold mIn at q
  rw [if_pos (r.len.symm.trans hl)] at q
  have S0 := sta_startI (A0 := fun b => b = a) (N := N.length - (n + 1)) (u := .ref a) (fun b z => by
    rcases z with z | z
    · exact hO b z
    · rw [z, ha]; exact nofun) r
  refine ⟨_, _, dx, [], [], by unfold L2.start; rw [List.length_cons, hl]; exact S0, rfl, .inr rfl, rfl, fun _ z => z, ha, .nil, ?_⟩
  revert q
  cases kr (none :: (ds.map (fun d => some (OD.sh d)) ++ List.replicate (N.length - (n + 1)) none)) [] with
  | st => exact fun q => q.elim
  | ok fs =>
    exact fun q σ' H' dx' vs' fr ha' rf => q H' fr (.obj hg (cut_of nO ha') (rf.up (cut_mono (Same.refl _) fun b z => .inl z)))
  | ex c fs =>
    exact fun q Cx d vfs σ' H' fr nd mc hd xf => q Cx d vfs H' fr nd mc hd xf
end
end DL
set_option Elab.async false
set_option linter.all false
set_option maxRecDepth 100000
namespace DL
open PySem PySem.Spec PyProof.Rows L2
/-! ## {k: v for a in xs if ..}, the keys ints or texts, the values flat -/
def kOf : D → Option Key
  | .int i => some (.inl i)
  | .str s => some (.inr ⟨s.toArray⟩)
  | _ => none
theorem kOf_eq {P : Wd} {G : Hp} {v : V} {d : D} {k : Key} (r : Rep P G v d) (e : kOf d = some k) : v = kV k ∧ kD k = d := by
  cases r with
  | int i => cases e; exact ⟨rfl, rfl⟩
  | str x =>
    have e : some (Sum.inr (⟨x.cps.toList.toArray⟩ : Str) : Key) = some k := e
    cases e
    exact ⟨by rw [Array.toArray_toList]; rfl, by unfold kD; simp⟩
  | _ => cases e
def putKD (kvs : List (Key × D)) (k : Key) (v : D) : List (Key × D) :=
  if (kvs.any fun q => decide (q.1 = k)) = true then kvs.map (fun q => if q.1 = k then (q.1, v) else q) else kvs ++ [(k, v)]
inductive Fk (P : Wd) : List (Key × V) → List (Key × D) → Prop
  | nil : Fk P [] []
  | cons {k : Key} {v : V} {d : D} {vs : List (Key × V)} {ds : List (Key × D)} : (∀ G, Rep P G v d) → Fk P vs ds → Fk P ((k, v) :: vs) ((k, d) :: ds)
section
variable {P : Wd}
theorem Fk.any {vs : List (Key × V)} {ds : List (Key × D)} (h : Fk P vs ds) (k : Key) : (vs.any fun q => decide (q.1 = k)) = ds.any fun q => decide (q.1 = k) := by
  induction h with
  | nil => rfl
  | cons _ _ ih => rw [List.any_cons, List.any_cons, ih]
theorem Fk.map {vs : List (Key × V)} {ds : List (Key × D)} (h : Fk P vs ds) (k : Key) {v : V} {d : D} (r : ∀ G, Rep P G v d) : Fk P (vs.map fun q => if q.1 = k then (q.1, v) else q) (ds.map fun q => if q.1 = k then (q.1, d) else q) := by
  induction h with
  | nil => exact .nil
  | @cons k' v' d' vs ds h1 h2 ih =>
    rw [List.map_cons, List.map_cons]
    by_cases e : k' = k
    · rw [if_pos e, if_pos e]; exact .cons r ih
    · rw [if_neg e, if_neg e]; exact .cons h1 ih
theorem Fk.snoc {vs : List (Key × V)} {ds : List (Key × D)} (h : Fk P vs ds) (k : Key) {v : V} {d : D} (r : ∀ G, Rep P G v d) : Fk P (vs ++ [(k, v)]) (ds ++ [(k, d)]) := by
  induction h with
  | nil => exact .cons r .nil
  | cons h1 h2 ih => exact .cons h1 ih
theorem Fk.put {vs : List (Key × V)} {ds : List (Key × D)} (h : Fk P vs ds) (k : Key) {v : V} {d : D} (r : ∀ G, Rep P G v d) : Fk P (putK vs k v) (putKD ds k d) := by
  unfold putK putKD
  rw [h.any k]
  split
  · exact h.map k r
  · exact h.snoc k r
theorem Fk.len {vs : List (Key × V)} {ds : List (Key × D)} (h : Fk P vs ds) : vs.length = ds.length := by
  induction h with
  | nil => rfl
  | cons _ _ ih => rw [List.length_cons, List.length_cons, ih]
theorem Fk.rep {G H : Hp} {vs : List (Key × V)} {ds : List (Key × D)} (h : Fk P vs ds) : RepOK P G H vs (ds.map fun q => (kD q.1, OD.sh q.2)) [] := by
  induction h with
  | nil => exact .nil
  | cons h1 h2 ih => exact .cons (A := []) (.sh (h1 G)) ih
theorem putKD_len (ds : List (Key × D)) (k : Key) (d : D) : (putKD ds k d).length ≤ ds.length + 1 := by
  unfold putKD
  split
  · rw [List.length_map]; omega
  · rw [List.length_append]; simp
end
def dcL (bnd : D → En → Option En) (t : En → R Bool) (fk fv : En → R D) (ρ : En) : List D → List (Key × D) → R (List (Key × D))
  | [], acc => .ok acc
  | d :: ds, acc => match bnd d ρ with
    | none => .st
    | some ρ1 => (t ρ1).nox.bind fun b => if b then (fk ρ1).nox.bind fun k => (fv ρ1).nox.bind fun v => match kOf k with
        | some k => if v.flat then dcL bnd t fk fv ρ ds (putKD acc k v) else .st
        | none => .st
      else dcL bnd t fk fv ρ ds acc
def dcE (Ee vs : List Nat) (bnd : D → En → Option En) (it : En → R (List D)) (t : En → R Bool) (fk fv : En → R D) : En → R OD := fun ρ => (it ρ).bind fun ds =>
  if (ds.all D.flat || allSh Ee ρ) && okLen ds.length then (dcL bnd t fk fv (fgt vs ρ) ds []).bind fun kvs => .ok (.dic (kvs.map fun q => (kD q.1, .sh q.2))) else .st
theorem dcL_noex {bnd : D → En → Option En} {tt : En → R Bool} {fk fv : En → R D} {ρ : En} : ∀ {ds acc c fs}, dcL bnd tt fk fv ρ ds acc ≠ .ex c fs := by
  intro ds
  induction ds with
  | nil => exact fun z => nomatch z
  | cons d ds ih =>
    intro acc c fs z
    rw [dcL] at z
    cases eb : bnd d ρ with
    | none => rw [eb] at z; cases z
    | some ρ1 =>
      rw [eb] at z
      simp only at z
      cases et : tt ρ1 with
      | ex c fs => rw [et] at z; cases z
      | st => rw [et] at z; cases z
      | ok b =>
        rw [et, R.nox_ok, R.bind_ok] at z
        cases b with
        | false => simp only [Bool.false_eq_true, if_false] at z; exact ih z
        | true =>
          simp only [if_true] at z
          cases ef : fk ρ1 with
          | ex c fs => rw [ef] at z; cases z
          | st => rw [ef] at z; cases z
          | ok y =>
            rw [ef, R.nox_ok, R.bind_ok] at z
            cases eg : fv ρ1 with
            | ex c fs => rw [eg] at z; cases z
            | st => rw [eg] at z; cases z
            | ok y2 =>
              rw [eg, R.nox_ok, R.bind_ok] at z
              split at z
              · split at z
                · exact ih z
                · cases z
              · cases z
section
variable {X : Cx} {B : Bs} {W : WX} {E Ee E1 E2 vs Mg : List Nat} {kx vx tg iter : Expr} {ifs : List Expr} {scope : Scope} {own : List (Str × Nat)} {pos : Pos} {it : En → R (List D)} {bnd : D → En → Option En} {tt : En → R Bool} {f g : En → R D}
theorem dc_imp (hm : ∀ i ∈ Mg, i ∈ vs) {σ : L2.St} {H : Hp} {Q : VK} (h : tF B W [] (dcE Ee vs bnd it tt f g) σ H Q) :
    tDc (tI B W E Ee it) (fun v σ H Q => ∃ O, tG (B.wo O) Mg bnd v σ H Q) (fun σ H Q => ∃ O, tT (B.wo O) W0 tt σ H Q) (fun σ H Q => ∃ O, tD (B.wo O) W0 E1 f σ H Q) (fun σ H Q => ∃ O, tD (B.wo O) W0 E2 g σ H Q) vs σ H Q := by
  obtain ⟨ρ, As, S, h⟩ := h
  refine ⟨ρ, As, S, ?_⟩
  unfold dcE at h
  cases e : it ρ with
  | st => rw [e] at h; exact h
  | ex c fs => rw [e] at h; exact h
  | ok ds =>
    rw [e, R.bind_ok] at h
    intro J H1 s1 wk Dl hDl
    have S1 := S.same s1
    cases c : ((ds.all D.flat || allSh Ee ρ) && okLen ds.length) with
    | false => rw [c] at h; exact h.elim
    | true =>
      rw [c] at h
      obtain ⟨c1, c2⟩ := Bool.and_eq_true_iff.mp c
      simp only [if_true] at h
      have hv : (∀ d ∈ ds, d.flat = true) ∨ ∀ a, hid B As [] a → hid B As Ee a := by
        rcases Bool.or_eq_true_iff.mp c1 with c1 | c1
        · exact .inl (List.all_eq_true.mp c1)
        · exact .inr (allSh_hid S1 c1)
      have SB := S1.blk vs
      cases el : dcL bnd tt f g (fgt vs ρ) ds [] with
      | ex c fs => exact absurd el dcL_noex
      | st => rw [el] at h; exact h.elim
      | ok ys =>
        rw [el, R.bind_ok] at h
        refine ⟨fun i m Ht => m = ds.length - i ∧ i ≤ ds.length ∧ Same H1 Ht ∧ ∃ acc done, Ht Dl = some (.dK acc) ∧ done.length ≤ i ∧ dcL bnd tt f g (fgt vs ρ) (ds.drop i) done = .ok ys ∧ Fk B.P acc done,
          ⟨ds.length, rfl, Nat.zero_le _, fun a o ha => by rw [upd_ne (ne_of_none ha hDl)]; exact ha, [], [], upd_same, Nat.le_refl _, el, .nil⟩, ?_⟩
        rintro i m Ht ⟨rfl, hle, sH, acc, done, hacc, hdone, hleft, racc⟩
        have sG : Same (cut H1 (hid B As E)) Ht := fun a o ha => sH a o (cut_some ha).2
        by_cases hlt : i < ds.length
        · refine .inr ⟨wk.go i Ht sG hlt, fun H' => i + 1 ≤ ds.length ∧ Same H1 H' ∧ ∃ acc done, H' Dl = some (.dK acc) ∧ done.length ≤ i + 1 ∧ dcL bnd tt f g (fgt vs ρ) (ds.drop (i + 1)) done = .ok ys ∧ Fk B.P acc done, fun H' h' => ⟨ds.length - (i + 1), by omega, rfl, h'⟩, fun x H2 y => ?_⟩
          have ed : ds[i]? = some ds[i] := List.getElem?_eq_getElem hlt
          obtain ⟨s2, G', g1, g2, g3, r⟩ := wk.yld i Ht x H2 ds[i] sG y ed
          rw [List.drop_eq_getElem_cons hlt, dcL] at hleft
          have SB2 := (SB.hide1 hDl sH (by rw [hacc]; exact nofun)).same s2
          refine ⟨fun a => blO B As vs a ∨ a = Dl, fgt vs ρ, exAs vs As, ds[i], SB2, ?_, ?_⟩
          · rcases hv with hv | hv
            · exact r.flat (hv _ (List.getElem_mem hlt))
            · refine r.up fun a o ha => cut_of (fun z => ?_) (g2 a o ha)
              have z' : hid B As [] a ∨ a = Dl := by
                rcases z with (z | z) | z
                · exact .inl ((hid_blk (E := []) a).mp (.inl z))
                · exact .inr z
                · exact .inl ((hid_blk (E := []) a).mp (.inr z))
              rcases g3 a o ha with q | q
              · obtain ⟨q1, q2⟩ := cut_some q
                rcases z' with z' | z'
                · exact q1 (hv a z')
                · rw [z', hDl] at q2; cases q2
              · rcases z' with z' | z'
                · exact (S1.same sH).hth a z' q
                · rw [z', hacc] at q; cases q
          · cases eb : bnd ds[i] (fgt vs ρ) with
            | none => rw [eb] at hleft; cases hleft
            | some ρ1 =>
              rw [eb] at hleft
              simp only at hleft
              intro σ2 A2 S2 k2 eA2
              refine ⟨wipe_eq k2.k0 fun j hj => k2.k1 j fun z => hj (hm j z), fun a => blO B As vs a ∨ a = Dl, ρ1, A2, S2, ?_⟩
              cases et : tt ρ1 with
              | ex c fs => rw [et] at hleft; cases hleft
              | st => rw [et] at hleft; cases hleft
              | ok b =>
                rw [et, R.nox_ok, R.bind_ok] at hleft
                intro H3 s3
                have acc3 : H3 Dl = some (.dK acc) := s3 _ _ (s2 _ _ hacc)
                cases b with
                | false =>
                  simp only [Bool.false_eq_true, if_false] at hleft ⊢
                  exact ⟨hlt, (sH.trans s2).trans s3, acc, done, acc3, by omega, hleft, racc⟩
                | true =>
                  simp only [if_true] at hleft ⊢
                  refine ⟨fun a => blO B As vs a ∨ a = Dl, ρ1, A2, S2.same s3, ?_⟩
                  cases ef : f ρ1 with
                  | ex c fs => rw [ef] at hleft; cases hleft
                  | st => rw [ef] at hleft; cases hleft
                  | ok kd =>
                    rw [ef, R.nox_ok, R.bind_ok] at hleft
                    intro kv H4 s4 r4
                    refine ⟨fun a => blO B As vs a ∨ a = Dl, ρ1, A2, (S2.same s3).same s4, ?_⟩
                    cases eg : g ρ1 with
                    | ex c fs => rw [eg] at hleft; cases hleft
                    | st => rw [eg] at hleft; cases hleft
                    | ok vd =>
                      rw [eg, R.nox_ok, R.bind_ok] at hleft
                      intro vv H5 s5 r5
                      have acc5 : H5 Dl = some (.dK acc) := s5 _ _ (s4 _ _ acc3)
                      cases ek : kOf kd with
                      | none => rw [ek] at hleft; cases hleft
                      | some k =>
                        rw [ek] at hleft
                        simp only at hleft
                        cases ev : vd.flat with
                        | false => rw [ev] at hleft; cases hleft
                        | true =>
                          rw [ev] at hleft
                          simp only [if_true] at hleft
                          have ra : acc.length < sizeLine := by
                            rw [racc.len]
                            exact Nat.lt_trans (Nat.lt_of_le_of_lt hdone hlt) (okLen_lt c2)
                          refine ⟨acc, k, (kOf_eq r4 ek).1, acc5, ra, hlt, fun a o ha => ?_, putK acc k vv, putKD done k vd, upd_same, Nat.le_trans (putKD_len _ _ _) (by omega), hleft, racc.put k fun G => r5.flat ev⟩
                          rw [upd_ne (ne_of_none ha hDl)]
                          exact ((((sH.trans s2).trans s3).trans s4).trans s5) a o ha
        · have e2 : i = ds.length := by omega
          subst e2
          rw [List.drop_length, dcL] at hleft
          cases hleft
          refine .inl ⟨wk.stop _ Ht sG (Nat.le_refl _), h (.ref Dl) [Dl] Ht (s1.trans sH) (List.nodup_cons.mpr ⟨List.not_mem_nil, List.nodup_nil⟩) (fun a ha => ?_) ?_⟩
          · rw [List.mem_singleton.mp ha]
            exact s1.free hDl
          · exact .dic hacc racc.rep
theorem f_dc {Mg : List Nat} (hc : X.calm = true) (hN : X.N.Nodup) (hi : PI X tg iter (tI B W E Ee it)) (ok : BlkOk X.N X.env.scope scope own)
    (hm : ∀ i ∈ Mg, i ∈ own.map (·.2)) (hg : ∀ (s : Shared) (H : Hp) (C : Addr) (cl : List (Str × Addr)) (fp : List Addr) (O : Addr → Prop), PG (X.blk s H scope (compEnvC scope cl C X.env) fp) tg (tG (B.wo O) Mg bnd))
    (ht : ∀ (s : Shared) (H : Hp) (C : Addr) (cl : List (Str × Addr)) (fp : List Addr) (O : Addr → Prop), PTs (X.blk s H scope (compEnvC scope cl C X.env) fp) ifs (tT (B.wo O) W0 tt))
    (hk : ∀ (s : Shared) (H : Hp) (C : Addr) (cl : List (Str × Addr)) (fp : List Addr) (O : Addr → Prop), PE (X.blk s H scope (compEnvC scope cl C X.env) fp) kx (tD (B.wo O) W0 E1 f))
    (he : ∀ (s : Shared) (H : Hp) (C : Addr) (cl : List (Str × Addr)) (fp : List Addr) (O : Addr → Prop), PE (X.blk s H scope (compEnvC scope cl C X.env) fp) vx (tD (B.wo O) W0 E2 g)) (hs : ∀ x, foldedSetIterable iter X.env x = pure x := by intro _; rfl) :
    PE X (.DictComp kx vx [⟨tg, iter, ifs, 0⟩] scope pos) (tF B W [] (dcE Ee (own.map (·.2)) bnd it tt f g)) :=
  (pe_dc hc hN hi ok (fun s H C cl fp => .ex (hg s H C cl fp)) (fun s H C cl fp => .ex (ht s H C cl fp)) (fun s H C cl fp => .ex (hk s H C cl fp)) (fun s H C cl fp => .ex (he s H C cl fp)) hs).imp fun σ H Q q => dc_imp hm q
end
/-! ## list(d) -/
def isK : D → Bool
  | .int _ => true
  | .str _ => true
  | _ => false
def fListD (a : List D) : Option OD := match a with
  | [.dic kvs] => if kvs.all (fun q => isK q.1) then some (lstF (kvs.map (·.1))) else none
  | a => fList a
@[simp] theorem fListD_lst (xs : List D) : fListD [.lst xs] = some (lstF xs) := rfl
@[simp] theorem fListD_tup (xs : List D) : fListD [.tup xs] = some (lstF xs) := rfl
theorem RepK.keys {P : Wd} {G : Hp} {ds : List (D × D)} : ∀ {kvs : List (Key × V)}, RepK P G kvs ds → ∀ G', RepL P G' (kvs.map fun kv => kV kv.1) (ds.map (·.1)) := by
  induction ds with
  | nil => intro kvs h G'; cases h; exact .nil
  | cons d ds ih =>
    intro kvs h G'
    cases h with
    | @cons k v vs d ds h1 h2 =>
      refine .cons ?_ (ih h2 G')
      cases k with
      | inl i => exact .int _
      | inr x => exact .str _
theorem RepT.noK {P : Wd} {G : Hp} {ds : List (D × D)} {kvs : List (List Key × V)} (h : RepT P G kvs ds) (k : ds.all (fun q => isK q.1) = true) : kvs = [] ∧ ds = [] := by
  cases h with
  | nil => exact ⟨rfl, rfl⟩
  | cons h1 h2 => rw [List.all_cons] at k; cases k
def rLst (K : PySem.W.Frag) : List V → Hp → VK → Prop := fun xs H Q => (∃ p ys, xs = [.ref p] ∧ (SqL K H p ys ∨ SqT K H p ys) ∧ ∀ l, H l = none → Q (.ref l) (upd H l (.lst ys))) ∨
  (∃ (a : Addr) (kvs : List (Key × V)), xs = [.ref a] ∧ Rd H a (.dK kvs) ∧ ∀ p, H p = none → Q (.ref p) (upd H p (.lst (kvs.map fun kv => kV kv.1)))) ∨
  ∃ d kvs, xs = [V.ref d] ∧ Rd H d (.dT kvs) ∧ ∀ p bs, H p = none → IsKeys H kvs bs → Q (.ref p) (upd H p (.lst (bs.map V.ref)))
theorem call_lst {X : Cx} (hc : X.calm = true) : CallR X (.type "list") (rLst X.K) := call_list_of.or' ((call_listD hc).or' (call_list_dT hc))
theorem ad_listD {P : Wd} : AdFA P (rLst P.K) fListD := fun p H vs a d Q hp r e q => by
  unfold fListD at e
  split at e
  · rename_i kvs
    split at e
    · rename_i hk
      obtain ⟨v, rfl, rv⟩ := r.oneE
      cases e
      cases rv with
      | dic h1 h2 => exact .inr (.inl ⟨_, _, rfl, rd_cut h1, fun l hn => new_lst hp hn (h2.keys _) q⟩)
    · cases e
  · exact .inl (ad_listF p H vs _ d Q hp r e q)
theorem f_listD {X : Cx} {B : Bs} {W : WX} {E : List Nat} {fa : En → R (List D)} {e : Expr} {p pos : Pos} (hK : B.P.K = X.K) (hc : X.calm = true) (gl : Gl X "list") (hm : X.mg "list" = none) (ha : PA X [e] (tA B W E fa)) (he : starEach [e] X.env = (false, eval e X.env) :: starEach [] X.env := by rfl) : PE X (.Call (.Name "list" p) [e] [] pos) (tF B W E (opAF fListD fa)) :=
  f_callT (by rw [hK]; exact call_lst hc) ad_listD gl hm (by rfl) ha (by decide) (by decide) he
/-! ## classes' facts -/
def FldC (K : PySem.W.Frag) (mg : Str → Option Value) (c : Str) (fs : List Str) : Prop := ∀ C, mg c = some (.ref C) → Cls K C ∧ ∀ f ∈ fs, NoAttr K C f
theorem fld_nil {K : PySem.W.Frag} {mg : Str → Option Value} {f : Str} : ∀ c ∈ ([] : List Str), ∀ C, mg c = some (.ref C) → Cls K C ∧ NoAttr K C f := fun c h => nomatch h
theorem fld_cons {K : PySem.W.Frag} {mg : Str → Option Value} {f c : Str} {fs cs : List Str} (h : FldC K mg c fs) (hf : f ∈ fs) (r : ∀ c ∈ cs, ∀ C, mg c = some (.ref C) → Cls K C ∧ NoAttr K C f) : ∀ c' ∈ c :: cs, ∀ C, mg c' = some (.ref C) → Cls K C ∧ NoAttr K C f := fun c' hc C m => by
  rcases List.mem_cons.mp hc with rfl | hc
  · exact ⟨(h C m).1, (h C m).2 f hf⟩
  · exact r c' hc C m
end DL
set_option Elab.async false
set_option linter.all false
set_option maxRecDepth 100000
namespace DL
open PySem PySem.Spec PyProof.Rows L2
/-- a statement, then the slots E shared -/
def shS (E : List Nat) (s : En → Out) : En → Out := fun ρ => match s ρ with
  | .nx ρ' => .nx (frz E ρ')
  | o => o
section
variable {X : Cx} {B : Bs} {W : WX} {M : List Nat} {s : En → Out} {st : Stmt}
theorem s_sh (E : List Nat) (h : PS X st (tS B W M s)) : PS X st (tS B W M (shS E s)) := h.imp fun D σ H ⟨ρ, As, S, q⟩ => ⟨ρ, As, S, by
  unfold shS at q
  cases e : s ρ with
  | nx ρ' =>
    rw [e] at q
    intro σ' H' As' S' k'
    have k2 : Kp [] σ' H' As' σ' H' (exAs E As') := ⟨rfl, fun _ _ => rfl, fun _ _ h => .inl (exAs_sub h), fun a o e _ => e, fun a h => h⟩
    exact q σ' H' (exAs E As') S'.frz ((k'.trans k2).mono fun i hi => by simpa using hi)
  | rt od ρ' => rw [e] at q; exact q
  | ex c fs ρ' => rw [e] at q; exact q
  | bk ρ' => rw [e] at q; exact q
  | ct ρ' => rw [e] at q; exact q
  | st => rw [e] at q; exact q⟩
end
theorem frz_sh {E : List Nat} {ρ : En} (h : allSh E ρ = true) : frz E ρ = ρ := by
  apply List.ext_getElem?
  intro i
  rw [frz_get]
  cases e : ρ[i]? with
  | none => rfl
  | some o =>
    rw [Option.map_some]
    by_cases hi : i ∈ E
    · rw [if_pos hi]
      have := List.all_eq_true.mp h i hi
      rw [e] at this
      split at this
      · rename_i d e2; cases e2; rfl
      · cases this
    · rw [if_neg hi]
theorem frzIf_sh {E : List Nat} {ρ : En} {d : D} (h : allSh E ρ = true) : frzIf d E ρ = ρ := by
  unfold frzIf; rw [frz_sh h]; split <;> rfl
end DL
namespace DLC
open PySem L2 DL
theorem setS_sh {i : Nat} {f : En → R D} {E : List Nat} {ρ : En} {d : D} (h : f ρ = .ok d) (hE : allSh E ρ = true) : setS i E f ρ = .nx (ρ.set i (some (.sh d))) := by unfold setS; rw [h, R.out_ok, frzIf_sh hE]
theorem retS_sh {f : En → R D} {E : List Nat} {ρ : En} {d : D} (h : f ρ = .ok d) (hE : allSh E ρ = true) : retS E f ρ = .rt (.sh d) ρ := by unfold retS; rw [h, R.out_ok, frzIf_sh hE]
theorem forS_sh {Ee fg : List Nat} {bnd : D → En → Option En} {it : En → R (List D)} {body : En → Out} {ρ : En} {ds : List D} (h : it ρ = .ok ds) (hE : allSh Ee ρ = true) : forS Ee fg bnd it body ρ = loopS fg bnd body ds ρ := by
  unfold forS; rw [h, R.out_ok, frz_sh hE]; split <;> rfl
theorem forS_fl {Ee fg : List Nat} {bnd : D → En → Option En} {it : En → R (List D)} {body : En → Out} {ρ : En} {ds : List D} (h : it ρ = .ok ds) (hE : ds.all D.flat = true) : forS Ee fg bnd it body ρ = loopS fg bnd body ds ρ := by
  unfold forS; rw [h, R.out_ok, hE]; rfl
theorem asgS_sh {bnd : D → En → Option En} {E : List Nat} {f : En → R D} {ρ ρ' : En} {d : D} (h : f ρ = .ok d) (hE : allSh E ρ = true) (hb : bnd d ρ = some ρ') : asgS bnd E f ρ = .nx ρ' := by unfold asgS; rw [h, R.out_ok, frzIf_sh hE, hb]
theorem retF_sh {f : En → R OD} {E : List Nat} {ρ : En} {o : OD} (h : f ρ = .ok o) (hE : allSh E ρ = true) : retF E f ρ = .rt o ρ := by unfold retF frzO; rw [h, R.out_ok, frz_sh hE]; split <;> rfl
theorem appS_sh {i : Nat} {E : List Nat} {f : En → R D} {ρ : En} {xs : List OD} {d : D} (h : f ρ = .ok d) (ho : ρ[i]? = some (some (.lst xs))) (hl : xs.length < 16777216) (hE : allSh E ρ = true) : appS i E f ρ = .nx (ρ.set i (some (.lst (xs ++ [.sh d])))) := by
  have hk : keeps i E d = true := by
    unfold keeps
    rw [Bool.or_eq_true, Bool.not_eq_true']
    right
    rw [Bool.eq_false_iff]
    intro z
    have := List.all_eq_true.mp hE i (List.contains_iff_mem.mp z)
    rw [ho] at this
    cases this
  unfold appS ownL
  rw [ho]
  simp only
  rw [h, R.out_ok, frzIf_sh hE, hk, show okLen xs.length = true from decide_eq_true hl]
  rfl
theorem appS_fl {i : Nat} {E : List Nat} {f : En → R D} {ρ : En} {xs : List OD} {d : D} (h : f ρ = .ok d) (ho : ρ[i]? = some (some (.lst xs))) (hl : xs.length < 16777216) (hd : d.flat = true) : appS i E f ρ = .nx (ρ.set i (some (.lst (xs ++ [.sh d])))) := by
  unfold appS ownL
  rw [ho]
  simp only
  rw [h, R.out_ok, frzIf_flat hd, show keeps i E d = true from by unfold keeps; rw [hd]; rfl, show okLen xs.length = true from decide_eq_true hl]
  rfl
theorem shS_nx {E : List Nat} {s : En → Out} {ρ ρ' : En} (h : s ρ = .nx ρ') : shS E s ρ = .nx (frz E ρ') := by unfold shS; rw [h]
/-- x = [.. for ..], shared -/
theorem shSet {i : Nat} {E : List Nat} {f : En → R OD} {ρ : En} {o : OD} (h : f ρ = .ok o) (hE : allSh E ρ = true) : shS [i] (setF i E f) ρ = .nx (ρ.set i (some (.sh o.er))) := by
  refine (shS_nx (ρ' := ρ.set i (some o)) (by unfold setF frzO; rw [h, R.out_ok, frz_sh hE]; split <;> rfl)).trans (congrArg Out.nx ?_)
  apply List.ext_getElem?
  intro j
  rw [frz_get]
  by_cases hj : i = j
  · subst hj
    by_cases hl : i < ρ.length
    · rw [List.getElem?_set_self hl, List.getElem?_set_self hl]; simp
    · rw [List.getElem?_eq_none (by simp; omega), List.getElem?_eq_none (by simp; omega)]; rfl
  · rw [List.getElem?_set_ne hj, List.getElem?_set_ne hj]
    cases ρ[j]? with
    | none => rfl
    | some o => rw [Option.map_some, if_neg (by simp; omega)]
end DLC
set_option Elab.async false
set_option linter.all false
set_option maxRecDepth 100000
namespace DL
open PySem PySem.Spec PyProof.Rows L2
/-! ### xs.index(y), of any plain data -/
theorem hu65 {A : Around} {k : Nat} (hr : Room k A) : A.units + 65 < cLine := by have := hr.un; omega
theorem pyL_get : ∀ (xs : List D) (j : Nat), (D.pyL xs)[j]? = (xs[j]?).map D.py
  | [], j => by simp [D.pyL]
  | x :: xs, 0 => by simp [D.pyL]
  | x :: xs, j + 1 => by rw [D.pyL, List.getElem?_cons_succ, List.getElem?_cons_succ, pyL_get xs j]
def dIndexD (xs : List D) (y : D) : Option D := if (xs.all (D.dt 20) && y.dt 20) && (PyData.canLayAll0 (D.pyL xs) && y.py.canLay0) then (xs.findIdx? fun z => D.eqv z y).map fun j : Nat => .int j else none
def indexD (f g : En → R D) : En → R D := fun ρ => (f ρ).bind fun a => match a with
  | .lst xs => (g ρ).bind fun y => R.ofO (dIndexD xs y)
  | _ => .st
/-- one reading where the other tells nothing -/
def orE (f g : En → R D) : En → R D := fun ρ => match f ρ with
  | .st => g ρ
  | r => r
theorem orE_ok {f g : En → R D} {ρ : En} {d : D} (h : f ρ = .ok d) : orE f g ρ = .ok d := by unfold orE; rw [h]
theorem orE_st {f g : En → R D} {ρ : En} (h : f ρ = .st) : orE f g ρ = g ρ := by unfold orE; rw [h]
section
variable {X : Cx} {B : Bs} {W : WX} {E E1 E2 : List Nat} {f g : En → R D} {o e : Expr} {apos cpos : Pos}
theorem d_indexD (hK : B.P.K = X.K) (hu : X.A.units + 65 < cLine) (h0 : PE X o (tD B W E1 f)) (h : PE X e (tD B W E2 g))
    (hbase : attributeBase o "index" X.env (eval o X.env) = eval o X.env := by rfl)
    (hline : (apos.endLine == cpos.line) = true := by rfl) (hst : starEach [e] X.env = (false, eval e X.env) :: starEach [] X.env := by rfl)
    (hfew : ((backTo cpos (starEach [e] X.env)).all (fun x => !x.1) && (backToKw cpos (keywordEach [] X.env)).all (fun x => x.1.isSome)
      && decide ([e].length + ([] : List Keyword).length + (if ([] : List Keyword).isEmpty then 0 else 1) < 30)) = true := by rfl)
    (hplain : (backTo cpos (starEach [] X.env)).any (·.1) = false := by rfl) : PE X (.Call (.Attribute o "index" apos) [e] [] cpos) (tD B W [] (indexD f g)) :=
  (pe_bm PySem.F.plainAttrs_list PySem.F.slot_list_index PySem.F.type_list_index (mt_indexD hu) h0 (pa_cons h pa_nil hst) hbase hfew hline hst hplain).imp fun σ H Q ⟨ρ, As, S, q⟩ => by
    unfold indexD at q
    refine tD_bind S q fun a x H1 s1 S1 r1 q1 => ?_
    cases a with
    | lst xs =>
      obtain ⟨l, vs, rfl, hl, rl⟩ := r1.lstE
      refine ⟨.inl ⟨rfl, _, .inl (rd_cut hl)⟩, tD_bind S1 q1 fun y v H2 s2 S2 r2 q2 => ?_⟩
      show rIndexD X.K (.ref l) [v] H2 Q
      unfold dIndexD at q2
      cases c : (xs.all (D.dt 20) && y.dt 20) && (PyData.canLayAll0 (D.pyL xs) && y.py.canLay0) with
      | false => rw [c] at q2; exact q2.elim
      | true =>
        rw [c, if_pos rfl] at q2
        obtain ⟨c0, c3⟩ := Bool.and_eq_true_iff.mp c
        obtain ⟨c1, c2⟩ := Bool.and_eq_true_iff.mp c0
        obtain ⟨c3, c4⟩ := Bool.and_eq_true_iff.mp c3
        have dtl : D.dt 21 (.lst xs) = true := by rw [D.dt_lst]; exact c1
        have r1' : Rep B.P (cut H2 (hid B As E1)) (.ref l) (.lst xs) := r1.up (cut_mono s2 fun _ z => z)
        obtain ⟨d1, d2, d3⟩ := D.dp 21 (.lst xs) (.ref l) dtl r1'
        obtain ⟨e1, e2, e3⟩ := D.dp 20 y v c2 r2
        have s1' : SeqAt.shaped (D.lst xs).py = true := by unfold SeqAt.shaped; rw [show (D.lst xs).py.canLay0 = true from by rw [D.py]; simp [PyData.canLay0, c3]]; exact decide_eq_true (by omega)
        have s2' : SeqAt.shaped y.py = true := by unfold SeqAt.shaped; rw [c4]; exact decide_eq_true (by omega)
        rw [D.py] at d1 s1'
        rw [hK] at d1 e1
        cases ej : xs.findIdx? fun z => D.eqv z y with
        | none => rw [ej] at q2; exact q2.elim
        | some j =>
          rw [ej] at q2
          obtain ⟨hj, p1, p2⟩ := List.findIdx?_eq_some_iff_getElem.mp ej
          refine ⟨l, v, y.py, D.pyL xs, j, xs[j].py, rfl, rfl, d1, e1, s1', s2', by rw [pyL_get, List.getElem?_eq_getElem hj]; rfl, p1, fun m z' hm e' => ?_, q2 _ H2 (s1.trans s2) (.int _)⟩
          rw [pyL_get, List.getElem?_eq_getElem (show m < xs.length by omega)] at e'
          cases e'
          have := p2 m hm
          simpa [D.eqv] using this
    | _ => exact q1.elim
theorem d_alt {f g : En → R D} (h : PE X e (tD B W E f)) (h2 : PE X e (tD B W E g)) : PE X e (tD B W E (orE f g)) := ⟨fun p s σ H Q I ⟨ρ, As, S, q⟩ => by
  unfold orE at q
  cases ef : f ρ with
  | st => rw [ef] at q; exact h2.run p s σ H Q I ⟨ρ, As, S, q⟩
  | ok d => rw [ef] at q; exact h.run p s σ H Q I ⟨ρ, As, S, by rw [ef]; exact q⟩
  | ex c fs => rw [ef] at q; exact h.run p s σ H Q I ⟨ρ, As, S, by rw [ef]; exact q⟩⟩
end
end DL
set_option Elab.async false
set_option linter.all false
set_option maxRecDepth 100000
namespace DL
open PySem PySem.Spec PyProof.Rows L2
/-! ## len(d) -/
section
variable {X : Cx}
theorem call_lenD : CallR X (.builtin "len") (fun xs H Q => ∃ a kvs, xs = [.ref a] ∧ Rd H a (.dK kvs) ∧ Q (.int kvs.length) H) := by
  intro pins s σ H xs us Q I r h
  obtain ⟨a, kvs, rfl, e, q⟩ := h
  obtain ⟨u, rfl, rx⟩ := vals1 r
  cases rx
  exact L2.d_len I e fun t s' I' => ⟨.int kvs.length, H, I', ⟨t, rfl⟩, q⟩
theorem call_lenT : CallR X (.builtin "len") (fun xs H Q => ∃ a, xs = [.ref a] ∧ Rd H a (.dT []) ∧ Q (.int 0) H) := by
  intro pins s σ H xs us Q I r h
  obtain ⟨a, rfl, e, q⟩ := h
  obtain ⟨u, rfl, rx⟩ := vals1 r
  cases rx
  obtain ⟨z, hd, ys, kt, dd⟩ := dt_rd I.hok e
  cases kt
  obtain ⟨o, es, ep, h1, h2, h3, h4⟩ := dd
  refine call_len_dict (knd := mixKind X.prog X.w) (kvs := []) hd ⟨o, es, ep, h1, h2, h3, ?_⟩ (by simp) ⟨.int 0, H, I.tok _, ⟨_, rfl⟩, q⟩
  exact ⟨fun e he => by
      have this : e ∈ es.toList := Array.mem_toList_iff.mpr he
      rw [h4.1] at this
      exact (List.not_mem_nil this).elim, (by rw [h4.1]; exact .nil), List.nodup_nil⟩
end
def dLenD : List D → Option D
  | [.dic kvs] => if kvs.all (fun q => isK q.1) then some (.int kvs.length) else none
  | a => dLen a
theorem fl_lenD : FlatA dLenD := fun a d e => by
  unfold dLenD at e
  split at e
  · split at e
    · cases e; rfl
    · cases e
  · exact fl_len _ d e
def rLenD (K : PySem.W.Frag) : List V → Hp → VK → Prop := fun xs H Q => (∃ x n, xs = [x] ∧ LenV K x H n ∧ Q (.int n) H) ∨ ((∃ a kvs, xs = [.ref a] ∧ Rd H a (.dK kvs) ∧ Q (.int kvs.length) H) ∨ ∃ a, xs = [.ref a] ∧ Rd H a (.dT []) ∧ Q (.int 0) H)
theorem RepK.len {P : Wd} {G : Hp} {ds : List (D × D)} : ∀ {kvs : List (Key × V)}, RepK P G kvs ds → kvs.length = ds.length := by
  induction ds with
  | nil => intro kvs h; cases h; rfl
  | cons d ds ih =>
    intro kvs h
    cases h with
    | cons h1 h2 => rw [List.length_cons, List.length_cons, ih h2]
theorem ad_lenD {P : Wd} : AdA P (rLenD P.K) dLenD := fun p H vs a d Q hp r e q => by
  unfold dLenD at e
  split at e
  · rename_i kvs
    split at e
    · rename_i hk
      obtain ⟨v, rfl, rv⟩ := r.oneE
      cases e
      cases rv with
      | dic h1 h2 => exact .inr (.inl ⟨_, _, rfl, rd_cut h1, by rw [h2.len]; exact q _ _ (Same.refl _) (.int _)⟩)
    · cases e
  · exact .inl (ad_len p H vs _ d Q hp r e q)
theorem d_lenD {X : Cx} {B : Bs} {W : WX} {E : List Nat} {fa : En → R (List D)} {e : Expr} {p pos : Pos} (hK : B.P.K = X.K) (gl : Gl X "len") (hm : X.mg "len" = none) (ha : PA X [e] (tA B W E fa)) (he : starEach [e] X.env = (false, eval e X.env) :: starEach [] X.env := by rfl) : PE X (.Call (.Name "len" p) [e] [] pos) (tD B W [] (opA dLenD fa)) :=
  d_callB (by rw [hK]; exact call_len.or' (call_lenD.or' call_lenT)) ad_lenD fl_lenD gl hm (by rfl) ha (by decide) (by decide) he
end DL
set_option Elab.async false
set_option linter.all false
set_option maxRecDepth 100000
namespace DLC
open PySem L2 DL
/-! ## plain: data as Lean's own -/
def EncP {α : Type} (k : Nat) (e : α → D) : Prop := (∀ a, (e a).dt k = true) ∧ ∀ a b, D.eqv (e a) (e b) = true ↔ a = b
theorem enc_int (k : Nat) : EncP k D.int := ⟨fun _ => D.dt_int _ _, fun a b => by rw [eqv_int]; simp⟩
theorem enc_nat (k : Nat) : EncP k (fun n : Nat => D.int n) := ⟨fun _ => D.dt_int _ _, fun a b => by rw [eqv_int]; simp; omega⟩
theorem enc_str (k : Nat) : EncP k D.str := ⟨fun _ => D.dt_str _ _, fun a b => by rw [eqv_str]; simp⟩
theorem eqvL_enc {α : Type} {k : Nat} {e : α → D} (h : EncP k e) : ∀ xs ys : List α, D.eqvL (xs.map e) (ys.map e) = true ↔ xs = ys
  | [], [] => by simp
  | [], y :: ys => by simp [D.eqvL]
  | x :: xs, [] => by simp [D.eqvL]
  | x :: xs, y :: ys => by
    rw [List.map_cons, List.map_cons, eqvL_cons, Bool.and_eq_true, h.2, eqvL_enc h xs ys, List.cons.injEq]
theorem enc_lst {α : Type} {k : Nat} {e : α → D} (h : EncP k e) : EncP (k + 1) (fun xs : List α => D.lst (xs.map e)) :=
  ⟨fun xs => by
    rw [D.dt_lst, List.all_eq_true]
    intro x hx
    obtain ⟨a, _, rfl⟩ := List.mem_map.mp hx
    exact h.1 a, fun a b => by rw [eqv_lst]; exact eqvL_enc h a b⟩
theorem deq_enc {α : Type} [DecidableEq α] {e : α → D} (h : EncP 20 e) (a b : α) : dEq (e a) (e b) = some (.bl (decide (a = b))) := by
  unfold dEq
  rw [h.1, h.1, Bool.and_self, if_pos rfl]
  congr 2
  rw [Bool.eq_iff_iff, h.2, decide_eq_true_iff]
theorem dne_enc {α : Type} [DecidableEq α] {e : α → D} (h : EncP 20 e) (a b : α) : dNe (e a) (e b) = some (.bl (!decide (a = b))) := by
  unfold dNe
  rw [h.1, h.1, Bool.and_self, if_pos rfl]
  congr 3
  rw [Bool.eq_iff_iff, h.2, decide_eq_true_iff]
theorem any_enc {α : Type} [DecidableEq α] {e : α → D} {k : Nat} (h : EncP k e) (a : α) (xs : List α) : ((xs.map e).any fun y => D.eqv y (e a)) = decide (a ∈ xs) := by
  rw [Bool.eq_iff_iff, List.any_eq_true, decide_eq_true_iff]
  constructor
  · rintro ⟨y, hy, q⟩
    obtain ⟨b, hb, rfl⟩ := List.mem_map.mp hy
    rw [h.2] at q
    rw [← q]; exact hb
  · intro ha
    exact ⟨e a, List.mem_map_of_mem ha, (h.2 a a).mpr rfl⟩
theorem din_enc {α : Type} [DecidableEq α] {e : α → D} (h : EncP 20 e) (a : α) (xs : List α) : dIn (e a) (.lst (xs.map e)) = some (.bl (decide (a ∈ xs))) := by
  rw [dIn_lst, h.1, Bool.true_and, if_pos, any_enc h]
  rw [List.all_eq_true]
  intro x hx
  obtain ⟨b, _, rfl⟩ := List.mem_map.mp hx
  exact h.1 b
theorem dni_enc {α : Type} [DecidableEq α] {e : α → D} (h : EncP 20 e) (a : α) (xs : List α) : dNotIn (e a) (.lst (xs.map e)) = some (.bl (!decide (a ∈ xs))) := by
  unfold dNotIn
  rw [din_enc h]; rfl
mutual
theorem eqv_refl : ∀ (n : Nat) (d : D), d.dt n = true → D.eqv d d = true
  | n, .non, h => eqv_non
  | n, .bl b, h => by rw [eqv_bl]; simp
  | n, .int b, h => by rw [eqv_int]; simp
  | n, .str b, h => by rw [eqv_str]; simp
  | n + 1, .lst xs, h => by
    rw [D.dt] at h
    rw [eqv_lst]; exact eqvL_refl n xs h
  | n + 1, .tup xs, h => by
    rw [D.dt] at h
    rw [eqv_tup]; exact eqvL_refl n xs h
  | 0, .lst xs, h => by simp [D.dt] at h
  | 0, .tup xs, h => by simp [D.dt] at h
  | n, .dic _, h => by simp [D.dt] at h
  | n, .obj _ _, h => by simp [D.dt] at h
  | n, .exn _ _, h => by simp [D.dt] at h
  | n, .scr _, h => by simp [D.dt] at h
theorem eqvL_refl : ∀ (n : Nat) (d : List D), D.dtL n d = true → D.eqvL d d = true
  | n, [], h => rfl
  | n, x :: xs, h => by
    rw [D.dtL, Bool.and_eq_true] at h
    rw [eqvL_cons, eqv_refl n x h.1, eqvL_refl n xs h.2]; rfl
end
theorem dNe_self {d : D} (h : d.dt 20 = true) : dNe d d = some (.bl false) := by
  unfold dNe
  rw [h, Bool.and_self, if_pos rfl, eqv_refl 20 d h]; rfl
theorem dEq_self {d : D} (h : d.dt 20 = true) : dEq d d = some (.bl true) := by
  unfold dEq
  rw [h, Bool.and_self, if_pos rfl, eqv_refl 20 d h]
theorem nes {f g : En → R D} {ρ : En} {d : D} (h : d.dt 20 = true) (hf : f ρ = .ok d) (hg : g ρ = .ok d) : tst (op2 dNe f g) ρ = .ok false := tst_ok (op2_ok hf hg (dNe_self h))
/-! ### xs.index(a) -/
theorem findIdx_idxOf {α : Type} [BEq α] [LawfulBEq α] {q : α → Bool} {a : α} (hq : ∀ b, q b = (b == a)) : ∀ {xs : List α}, a ∈ xs → xs.findIdx? q = some (xs.idxOf a)
  | [], h => nomatch h
  | x :: xs, h => by
    rw [List.findIdx?_cons, List.idxOf_cons, hq x]
    cases e : x == a with
    | true => simp
    | false =>
      have ha : a ∈ xs := by
        rcases List.mem_cons.mp h with z | z
        · rw [← z] at e; simp at e
        · exact z
      rw [findIdx_idxOf hq ha]; simp
theorem findIdx_map {α : Type} {e : α → D} {q : D → Bool} : ∀ xs : List α, (xs.map e).findIdx? q = xs.findIdx? fun a => q (e a)
  | [] => rfl
  | x :: xs => by
    rw [List.map_cons, List.findIdx?_cons, List.findIdx?_cons, findIdx_map xs]
theorem ix_flat {α : Type} [BEq α] [LawfulBEq α] {e : α → D} (hf : ∀ a, (e a).flat = true) (he : ∀ a b, eqD (e a) (e b) = (a == b)) {f g : En → R D} {ρ : En} {xs : List α} {a : α} (h1 : f ρ = .ok (.lst (xs.map e))) (h2 : g ρ = .ok (e a)) (ha : a ∈ xs) : orE (indexE f g) (indexD f g) ρ = .ok (.int (xs.idxOf a : Nat)) := by
  apply orE_ok
  unfold indexE
  rw [h1, R.bind_ok]
  simp only
  rw [h2, R.bind_ok]
  unfold dIndex
  rw [show (xs.map e).all D.flat = true from by rw [List.all_eq_true]; intro x hx; obtain ⟨b, _, rfl⟩ := List.mem_map.mp hx; exact hf b, hf a, Bool.and_self, if_pos rfl, findIdx_map, findIdx_idxOf (a := a) (fun b => he b a) ha]
  rfl
theorem ix_int {f g : En → R D} {ρ : En} {xs : List Int} {a : Int} (h1 : f ρ = .ok (.lst (xs.map .int))) (h2 : g ρ = .ok (.int a)) (ha : a ∈ xs) : orE (indexE f g) (indexD f g) ρ = .ok (.int (xs.idxOf a : Nat)) := ix_flat (fun _ => rfl) (fun a b => rfl) h1 h2 ha
theorem ix_nat {f g : En → R D} {ρ : En} {xs : List Nat} {a : Nat} (h1 : f ρ = .ok (.lst (xs.map fun n : Nat => .int n))) (h2 : g ρ = .ok (.int a)) (ha : a ∈ xs) : orE (indexE f g) (indexD f g) ρ = .ok (.int (xs.idxOf a : Nat)) := ix_flat (e := fun n : Nat => D.int n) (fun _ => rfl) (fun a b => by
  show ((a : Int) == (b : Int)) = _
  rw [Bool.eq_iff_iff]; simp; omega) h1 h2 ha
theorem ix_str {f g : En → R D} {ρ : En} {xs : List (List Nat)} {a : List Nat} (h1 : f ρ = .ok (.lst (xs.map .str))) (h2 : g ρ = .ok (.str a)) (ha : a ∈ xs) : orE (indexE f g) (indexD f g) ρ = .ok (.int (xs.idxOf a : Nat)) := ix_flat (fun _ => rfl) (fun a b => rfl) h1 h2 ha
theorem lay_ints : ∀ xs : List Nat, PyData.canLayAll0 (D.pyL (xs.map fun n : Nat => D.int n)) = true
  | [] => by simp [D.pyL, PyData.canLayAll0]
  | x :: xs => by rw [List.map_cons, D.pyL, PyData.canLayAll0, lay_ints xs]; simp [D.py, PyData.canLay0]
def nL (xs : List Nat) : D := .lst (xs.map fun n : Nat => .int n)
def nLL (xss : List (List Nat)) : D := .lst (xss.map nL)
theorem enc_nL (k : Nat) : EncP (k + 1) nL := enc_lst (enc_nat k)
theorem enc_nLL (k : Nat) : EncP (k + 2) nLL := enc_lst (enc_nL k)
theorem lay_nLL : ∀ xs : List (List Nat), PyData.canLayAll0 (D.pyL (xs.map nL)) = true
  | [] => by simp [D.pyL, PyData.canLayAll0]
  | x :: xs => by
    rw [List.map_cons, D.pyL, PyData.canLayAll0, lay_nLL xs, nL, D.py]; simp [PyData.canLay0, lay_ints]
theorem ix_nL {f g : En → R D} {ρ : En} {xs : List (List Nat)} {a : List Nat} (h1 : f ρ = .ok (nLL xs)) (h2 : g ρ = .ok (nL a)) (ha : a ∈ xs) : orE (indexE f g) (indexD f g) ρ = .ok (.int (xs.idxOf a : Nat)) := by
  have s : indexE f g ρ = .st := by
    unfold indexE
    rw [h1, R.bind_ok]
    unfold nLL
    simp only
    rw [h2, R.bind_ok]
    unfold dIndex
    rw [show (nL a).flat = false from rfl, Bool.and_false]; rfl
  rw [orE_st s]
  unfold indexD
  rw [h1, R.bind_ok]
  unfold nLL
  simp only
  rw [h2, R.bind_ok]
  unfold dIndexD
  have c1 : (xs.map nL).all (D.dt 20) = true := by rw [List.all_eq_true]; intro x hx; obtain ⟨b, _, rfl⟩ := List.mem_map.mp hx; exact (enc_nL 19).1 b
  have c2 : (nL a).py.canLay0 = true := by rw [nL, D.py]; simp [PyData.canLay0, lay_ints]
  rw [c1, (enc_nL 19).1, lay_nLL, c2, if_pos (by rfl), findIdx_map, findIdx_idxOf (a := a) (fun b => by rw [Bool.eq_iff_iff, (enc_nL 19).2]; simp) ha]
  rfl
/-! ### loops up to the first exception -/
abbrev Exc := Str × List (Str × D)
theorem loop_x {α : Type} {fg : List Nat} {bnd : D → En → Option En} {body : En → Out} (c : α → D) (q : α → Option Exc) (ρ0 : En) : ∀ xs : List α,
    (∀ x ∈ xs, ∃ ρ1, bnd (c x) ρ0 = some ρ1 ∧ match q x with
      | none => ∃ ρ2, body ρ1 = .nx ρ2 ∧ fgt fg ρ2 = ρ0
      | some e => ∃ ρ2, body ρ1 = .ex e.1 e.2 ρ2) →
    match xs.findSome? q with
      | none => loopS fg bnd body (xs.map c) ρ0 = .nx ρ0
      | some e => ∃ ρ, loopS fg bnd body (xs.map c) ρ0 = .ex e.1 e.2 ρ
  | [], h => rfl
  | x :: xs, h => by
    obtain ⟨ρ1, e1, h1⟩ := h x List.mem_cons_self
    have ih := loop_x (fg := fg) (bnd := bnd) (body := body) c q ρ0 xs fun y hy => h y (List.mem_cons_of_mem _ hy)
    rw [List.findSome?_cons, List.map_cons, loopS, e1]
    cases eq : q x with
    | none =>
      rw [eq] at h1
      obtain ⟨ρ2, e2, e3⟩ := h1
      simp only
      rw [e2]
      simp only
      rw [e3]
      exact ih
    | some e =>
      rw [eq] at h1
      obtain ⟨ρ2, e2⟩ := h1
      simp only
      rw [e2]
      exact ⟨ρ2, rfl⟩
/-! ### comprehensions of two generators -/
theorem lc2L_eq {α β : Type} (c : α → D) (c1 : β → D) (ys : α → List β) (g : α → β → D) {bnd : D → En → Option En} {it1 : En → R (List D)} {vs1 : List Nat} {bnd1 : D → En → Option En} {f : En → R D} {ρ : En} : ∀ xs : List α,
    (∀ x ∈ xs, bk (bnd (c x) ρ) fun ρ1 => it1 ρ1 = .ok ((ys x).map c1) ∧ ((ys x).map c1).all D.flat = true ∧ ∀ y ∈ ys x, bk (bnd1 (c1 y) (fgt vs1 ρ1)) fun ρ2 => f ρ2 = .ok (g x y)) →
    lc2L bnd tYesD it1 vs1 bnd1 tYesD f ρ (xs.map c) = .ok (xs.flatMap fun x => (ys x).map (g x))
  | [], h => rfl
  | x :: xs, h => by
    have ih := lc2L_eq c c1 ys g xs fun y hy => h y (List.mem_cons_of_mem _ hy)
    have h0 := h x List.mem_cons_self
    rw [List.map_cons, lc2L]
    cases e1 : bnd (c x) ρ with
    | none => rw [e1] at h0; unfold bk at h0; exact h0.elim
    | some ρ1 =>
      rw [e1, bk_some] at h0
      obtain ⟨a1, a2, a3⟩ := h0
      simp only
      rw [show tYesD ρ1 = .ok true from rfl, R.nox_ok, R.bind_ok, if_pos rfl, a1, R.nox_ok, R.bind_ok, a2, if_pos rfl]
      have q := lcL_eq c1 (fun _ => true) (g x) (bnd := bnd1) (t := tYesD) (f := f) (ρ := fgt vs1 ρ1) (ys x) fun y hy => bk_imp (a3 y hy) fun ρ2 h2 => ⟨rfl, fun _ => h2⟩
      rw [q, R.bind_ok, ih, R.bind_ok, List.filter_eq_self.mpr fun _ _ => rfl, List.flatMap_cons]
theorem lc2E_eq {α β : Type} (xs : List α) (c : α → D) (c1 : β → D) (ys : α → List β) (g : α → β → D) {Ee vs : List Nat} {bnd : D → En → Option En} {it it1 : En → R (List D)} {vs1 : List Nat} {bnd1 : D → En → Option En} {f : En → R D} {ρ : En} (h : it ρ = .ok (xs.map c)) (hf : ((xs.map c).all D.flat || allSh Ee ρ) = true)
    (hx : ∀ x ∈ xs, bk (bnd (c x) (fgt vs ρ)) fun ρ1 => it1 ρ1 = .ok ((ys x).map c1) ∧ ((ys x).map c1).all D.flat = true ∧ ∀ y ∈ ys x, bk (bnd1 (c1 y) (fgt vs1 ρ1)) fun ρ2 => f ρ2 = .ok (g x y))
    (hg : ∀ x ∈ xs, ∀ y ∈ ys x, (g x y).flat = true) (hl : (xs.flatMap fun x => (ys x).map (g x)).length < 16777216) : lc2E Ee vs bnd it tYesD it1 vs1 bnd1 tYesD f ρ = .ok (lstF (xs.flatMap fun x => (ys x).map (g x))) := by
  unfold lc2E
  rw [h, R.bind_ok, hf, if_pos rfl, lc2L_eq c c1 ys g xs hx, R.bind_ok]
  have fl : (xs.flatMap fun x => (ys x).map (g x)).all D.flat = true := by
    rw [List.all_eq_true]
    intro d hd
    obtain ⟨x, hx, hd⟩ := List.mem_flatMap.mp hd
    obtain ⟨y, hy, rfl⟩ := List.mem_map.mp hd
    exact hg x hx y hy
  rw [fl, show okLen (xs.flatMap fun x => (ys x).map (g x)).length = true from decide_eq_true hl, Bool.and_self, if_pos rfl, lstF_eq]
/-! ### sorted(list({x: True for x in xs})) -/
def ascB (xs : List Nat) : List Nat := (List.range 60).filter fun k => decide (k ∈ xs)
theorem mem_ascB {xs : List Nat} (h : ∀ x ∈ xs, x < 60) {k : Nat} : k ∈ ascB xs ↔ k ∈ xs := by
  unfold ascB
  rw [List.mem_filter, List.mem_range, decide_eq_true_iff]
  exact ⟨fun z => z.2, fun z => ⟨h k z, z⟩⟩
theorem pw_ascB (xs : List Nat) : (ascB xs).Pairwise (· < ·) := List.Pairwise.filter _ List.pairwise_lt_range
theorem ascB_lt (xs : List Nat) : ∀ x ∈ ascB xs, x < 60 := fun x hx => List.mem_range.mp (List.mem_filter.mp hx).1
theorem pw_uniq {xs ys : List Nat} (hx : xs.Pairwise (· < ·)) (hy : ys.Pairwise (· < ·)) (h : ∀ k, k ∈ xs ↔ k ∈ ys) : xs = ys := by
  have p : xs.Perm ys := (List.perm_ext_iff_of_nodup (hx.imp fun h => Nat.ne_of_lt h) (hy.imp fun h => Nat.ne_of_lt h)).mpr h
  exact List.Perm.eq_of_pairwise (le := (· < ·)) (fun a b _ _ h1 h2 => absurd h1 (Nat.lt_asymm h2)) hx hy p
theorem ascB_id {xs : List Nat} (h : ∀ x ∈ xs, x < 60) (hp : xs.Pairwise (· < ·)) : ascB xs = xs := pw_uniq (pw_ascB xs) hp fun k => mem_ascB h
theorem ascB_len (xs : List Nat) : (ascB xs).length ≤ 60 := by unfold ascB; exact Nat.le_trans (List.length_filter_le _ _) (by simp)
theorem putKD_keys {kvs : List (Key × D)} {k : Key} {v : D} (hn : (kvs.map (·.1)).Nodup) : ((putKD kvs k v).map (·.1)).Nodup ∧ ∀ j, j ∈ (putKD kvs k v).map (·.1) ↔ j ∈ kvs.map (·.1) ∨ j = k := by
  unfold putKD
  split
  · rename_i h
    have e : (kvs.map fun q => if q.1 = k then (q.1, v) else q).map (·.1) = kvs.map (·.1) := by
      rw [List.map_map]
      apply List.map_congr_left
      intro q _
      show (if q.1 = k then (q.1, v) else q).1 = q.1
      split <;> rfl
    rw [e]
    refine ⟨hn, fun j => ⟨.inl, fun z => z.elim id fun z => ?_⟩⟩
    obtain ⟨q, hq, e2⟩ := List.any_eq_true.mp h
    rw [z, ← of_decide_eq_true e2]
    exact List.mem_map_of_mem hq
  · rename_i h
    rw [List.map_append]
    refine ⟨List.nodup_append.mpr ⟨hn, by simp, fun a ha b hb e => h ?_⟩, fun j => by rw [List.mem_append]; simp⟩
    rw [List.any_eq_true]
    obtain ⟨q, hq, rfl⟩ := List.mem_map.mp ha
    simp only [List.map_cons, List.map_nil, List.mem_singleton] at hb
    exact ⟨q, hq, decide_eq_true (by rw [e, hb])⟩
theorem dcL_keys {α : Type} (c : α → D) (ky : α → Key) {bnd : D → En → Option En} {fk fv : En → R D} {ρ : En} {v : D} (hv : v.flat = true) : ∀ (xs : List α) (acc : List (Key × D)), (acc.map (·.1)).Nodup →
    (∀ x ∈ xs, bk (bnd (c x) ρ) fun ρ1 => fk ρ1 = .ok (kD (ky x)) ∧ kOf (kD (ky x)) = some (ky x) ∧ fv ρ1 = .ok v) →
    ∃ kvs, dcL bnd tYesD fk fv ρ (xs.map c) acc = .ok kvs ∧ (kvs.map (·.1)).Nodup ∧ ∀ j, j ∈ kvs.map (·.1) ↔ j ∈ acc.map (·.1) ∨ ∃ x ∈ xs, ky x = j
  | [], acc, hn, h => ⟨acc, rfl, hn, fun j => by simp⟩
  | x :: xs, acc, hn, h => by
    have h0 := h x List.mem_cons_self
    obtain ⟨n1, n2⟩ := putKD_keys (k := ky x) (v := v) hn
    obtain ⟨kvs, e, m1, m2⟩ := dcL_keys c ky hv xs (putKD acc (ky x) v) n1 fun y hy => h y (List.mem_cons_of_mem _ hy)
    refine ⟨kvs, ?_, m1, fun j => ?_⟩
    · rw [List.map_cons, dcL]
      cases e1 : bnd (c x) ρ with
      | none => rw [e1] at h0; unfold bk at h0; exact h0.elim
      | some ρ1 =>
        rw [e1, bk_some] at h0
        obtain ⟨a1, a2, a3⟩ := h0
        simp only
        rw [show tYesD ρ1 = .ok true from rfl, R.nox_ok, R.bind_ok, if_pos rfl, a1, R.nox_ok, R.bind_ok, a3, R.nox_ok, R.bind_ok, a2]
        simp only
        rw [hv, if_pos rfl, e]
    · rw [m2, n2]
      constructor
      · rintro ((z | z) | ⟨y, hy, z⟩)
        · exact .inl z
        · exact .inr ⟨x, List.mem_cons_self, z.symm⟩
        · exact .inr ⟨y, List.mem_cons_of_mem _ hy, z⟩
      · rintro (z | ⟨y, hy, z⟩)
        · exact .inl (.inl z)
        · rcases List.mem_cons.mp hy with rfl | hy
          · exact .inl (.inr z.symm)
          · exact .inr ⟨y, hy, z⟩
theorem dcE_keys {α : Type} (xs : List α) (c : α → D) (ky : α → Key) {Ee vs : List Nat} {bnd : D → En → Option En} {it : En → R (List D)} {fk fv : En → R D} {ρ : En} {v : D} (hv : v.flat = true) (h : it ρ = .ok (xs.map c)) (hf : ((xs.map c).all D.flat || allSh Ee ρ) = true) (hl : xs.length < 16777216)
    (hx : ∀ x ∈ xs, bk (bnd (c x) (fgt vs ρ)) fun ρ1 => fk ρ1 = .ok (kD (ky x)) ∧ kOf (kD (ky x)) = some (ky x) ∧ fv ρ1 = .ok v) :
    ∃ kvs : List (Key × D), dcE Ee vs bnd it tYesD fk fv ρ = .ok (.dic (kvs.map fun q => (kD q.1, OD.sh q.2))) ∧ (kvs.map (·.1)).Nodup ∧ ∀ j, j ∈ kvs.map (·.1) ↔ ∃ x ∈ xs, ky x = j := by
  obtain ⟨kvs, e, n, m⟩ := dcL_keys c ky hv xs [] List.nodup_nil hx (bnd := bnd) (fk := fk) (fv := fv)
  refine ⟨kvs, ?_, n, fun j => by rw [m]; simp⟩
  unfold dcE
  have ho : okLen (xs.map c).length = true := by unfold okLen; rw [List.length_map]; exact decide_eq_true hl
  rw [h, R.bind_ok, hf, ho, Bool.and_self, if_pos rfl, e, R.bind_ok]
theorem erK_sh : ∀ kvs : List (Key × D), OD.erK (kvs.map fun q => (kD q.1, OD.sh q.2)) = kvs.map fun q => (kD q.1, q.2)
  | [] => by simp [OD.erK]
  | q :: kvs => by rw [List.map_cons, OD.erK, erK_sh kvs]; rfl
theorem er_dicK (kvs : List (Key × D)) : (OD.dic (kvs.map fun q => (kD q.1, OD.sh q.2))).er = .dic (kvs.map fun q => (kD q.1, q.2)) := by rw [OD.er, erK_sh]
theorem isK_kD (k : Key) : isK (kD k) = true := by cases k <;> rfl
theorem listD_keys (kvs : List (Key × D)) : fListD [.dic (kvs.map fun q => (kD q.1, q.2))] = some (lstF (kvs.map fun q => kD q.1)) := by
  have : (kvs.map fun q => (kD q.1, q.2)).all (fun q => isK q.1) = true := by
    rw [List.all_eq_true]
    intro x hx
    obtain ⟨q, _, rfl⟩ := List.mem_map.mp hx
    exact isK_kD _
  show (if (kvs.map fun q => (kD q.1, q.2)).all (fun q => isK q.1) = true then some (lstF ((kvs.map fun q => (kD q.1, q.2)).map (·.1))) else none) = _
  rw [this, if_pos rfl, List.map_map]; rfl
theorem sorted_keys {ns : List Nat} {xs : List Nat} (hn : ns.Nodup) (hm : ∀ k, k ∈ ns ↔ k ∈ xs) (h : ∀ x ∈ xs, x < 60) : fSorted [.lst (ns.map fun n : Nat => D.int n)] = some (lstF ((ascB xs).map fun n : Nat => D.int n)) := by
  have p : ns.Perm (ascB xs) := (List.perm_ext_iff_of_nodup hn ((pw_ascB xs).imp fun h => Nat.ne_of_lt h)).mpr fun k => by rw [hm, mem_ascB h]
  have hl : ns.length < 64 := by rw [p.length_eq]; have := ascB_len xs; omega
  have e : intsOf (ns.map fun n : Nat => D.int n) = some (ns.map fun n : Nat => (n : Int)) := by
    rw [show (ns.map fun n : Nat => D.int n) = (ns.map fun n : Nat => (n : Int)).map D.int from by rw [List.map_map]; rfl, intsOf_map]
  show (intsOf (ns.map fun n : Nat => D.int n)).bind (fun ns => if decide (ns.length < 64) then some (lstF ((sortI ns).map .int)) else none) = _
  rw [e, Option.bind_some, if_pos (by simpa using hl)]
  have : sortI (ns.map fun n : Nat => (n : Int)) = (ascB xs).map fun n : Nat => (n : Int) :=
    perm_sorted ((sortI_perm _).trans (p.map _)) (sortI_pw _) (List.pairwise_map.mpr ((pw_ascB xs).imp fun h => by omega))
  rw [this, List.map_map]; rfl
end DLC
set_option Elab.async false
set_option linter.all false
set_option maxRecDepth 100000
namespace DLC
open PySem L2 DL
/-! ## plain: drafts -/
structure Dr where
  s : Nat
  t : Nat
  th : List Nat
  ti : List (List Nat)
  tr : List (List Nat)
def iL (xs : List Int) : D := .lst (xs.map .int)
def iLL (xs : List (List Int)) : D := .lst (xs.map iL)
def cI (xs : List Nat) : List Int := xs.map fun n : Nat => (n : Int)
theorem iL_cI (xs : List Nat) : iL (cI xs) = nL xs := by unfold iL cI nL; rw [List.map_map]; rfl
theorem iLL_cI (xs : List (List Nat)) : iLL (xs.map cI) = nLL xs := by
  unfold iLL nLL
  rw [List.map_map]
  congr 1
  apply List.map_congr_left
  intro x _
  exact iL_cI x
def objD (s t : Int) (th : D) (ti tr : D) : D := .obj "Draft" [("shafts", .int s), ("treadles", .int t), ("threading", th), ("tieup", ti), ("treadling", tr)]
def Dr.obj (d : Dr) : D := objD d.s d.t (nL d.th) (nLL d.ti) (nLL d.tr)
def Dr.tup (d : Dr) : D := .tup [.int d.s, .int d.t, nL d.th, nLL d.ti, nLL d.tr]
structure Dr.Ok (d : Dr) : Prop where
  s1 : 1 ≤ d.s
  s2 : d.s ≤ 32
  t1 : 1 ≤ d.t
  t2 : d.t ≤ 32
  th1 : 1 ≤ d.th.length
  th2 : d.th.length ≤ 60
  th : ∀ x ∈ d.th, 1 ≤ x ∧ x ≤ d.s
  ti1 : d.ti.length = d.t
  ti : ∀ y ∈ d.ti, (∀ x ∈ y, 1 ≤ x ∧ x ≤ d.s) ∧ y.Pairwise (· < ·)
  tr1 : 1 ≤ d.tr.length
  tr2 : d.tr.length ≤ 60
  tr : ∀ y ∈ d.tr, (∀ x ∈ y, 1 ≤ x ∧ x ≤ d.t) ∧ y.Pairwise (· < ·)
def lift (ti : List (List Nat)) (p : List Nat) : List Nat := ascB (p.flatMap fun t => ti.getD (t - 1) [])
def rowO (th L : List Nat) : List Nat := th.map fun s => if s ∈ L then 35 else 46
def Dr.wv (d : Dr) : List (List Nat) := d.tr.map fun p => rowO d.th (lift d.ti p)
def bad (lo hi x : Int) : Bool := decide (x < lo) || decide (x > hi)
def badO (lo hi x : Int) : Option Int := if bad lo hi x then some x else none
theorem bad_f {lo hi x : Int} (h1 : lo ≤ x) (h2 : x ≤ hi) : bad lo hi x = false := by
  unfold bad
  rw [decide_eq_false (by omega), decide_eq_false (by omega)]; rfl
theorem badO_n {lo hi x : Int} (h1 : lo ≤ x) (h2 : x ≤ hi) : badO lo hi x = none := by unfold badO; rw [bad_f h1 h2]; rfl
theorem badO_s {lo hi x : Int} (h : x < lo ∨ hi < x) : badO lo hi x = some x := by
  unfold badO bad
  rw [if_pos]
  rw [Bool.or_eq_true, decide_eq_true_iff, decide_eq_true_iff]
  omega
theorem some_none {α β : Type} {q : α → Option β} {xs : List α} (h : ∀ x ∈ xs, q x = none) : xs.findSome? q = none := List.findSome?_eq_none_iff.mpr h
theorem some_last {α β : Type} {q : α → Option β} {xs : List α} {x : α} {b : β} (h : ∀ x ∈ xs, q x = none) (e : q x = some b) : (xs ++ [x]).findSome? q = some b := by
  rw [List.findSome?_append, some_none h]; simp [e]
/-- the first number that a draft refuses -/
def newChk (s t : Int) (th : List Int) (ti tr : List (List Int)) : Option Int :=
  (badO 1 32 s).or ((badO 1 32 t).or ((badO 1 60 th.length).or ((th.findSome? (badO 1 s)).or ((if (ti.length : Int) = t then none else some (ti.length : Int)).or
    ((ti.findSome? fun y => y.findSome? (badO 1 s)).or ((badO 1 60 tr.length).or (tr.findSome? fun y => y.findSome? (badO 1 t))))))))
theorem newChk_ok {d : Dr} (h : d.Ok) : newChk d.s d.t (cI d.th) (d.ti.map cI) (d.tr.map cI) = none := by
  obtain ⟨s1, s2, t1, t2, th1, th2, th, ti1, ti, tr1, tr2, tr⟩ := h
  unfold newChk
  rw [badO_n (by omega) (by omega), badO_n (by omega) (by omega), badO_n (by simp [cI]; omega) (by simp [cI]; omega), some_none, some_none, badO_n (by simp; omega) (by simp; omega), some_none]
  · simp [ti1]
  · intro y hy
    obtain ⟨y, hy', rfl⟩ := List.mem_map.mp hy
    refine some_none fun x hx => ?_
    obtain ⟨x, hx', rfl⟩ := List.mem_map.mp hx
    have := (tr y hy').1 x hx'
    exact badO_n (by omega) (by omega)
  · intro y hy
    obtain ⟨y, hy', rfl⟩ := List.mem_map.mp hy
    refine some_none fun x hx => ?_
    obtain ⟨x, hx', rfl⟩ := List.mem_map.mp hx
    have := (ti y hy').1 x hx'
    exact badO_n (by omega) (by omega)
  · intro x hx
    obtain ⟨x, hx', rfl⟩ := List.mem_map.mp hx
    have := th x hx'
    exact badO_n (by omega) (by omega)
theorem inPre_nx {s : En → Out} {k : InR} {ρ ρ' : En} (h : s ρ = .nx ρ') : inPre s k ρ [] = k ρ' [] := by unfold inPre; rw [h]
theorem inPre_ex {s : En → Out} {k : InR} {ρ ρ' : En} {c : Str} {fs : List (Str × D)} (h : s ρ = .ex c fs ρ') : inPre s k ρ [] = .ex c fs := by unfold inPre; rw [h]
theorem inFld_ok {f : Str} {g : En → R D} {k : InR} {ρ : En} {ds : List (Str × D)} {d : D} (h : g ρ = .ok d) (hd : ds.any (fun q => q.1 == f) = false) (hl : ds.length < 1000) : inFld f g k ρ ds = k ρ (ds ++ [(f, d)]) := by
  unfold inFld; rw [h, R.bind_ok, if_pos ⟨hd, hl⟩]
/-- a step that raises OutOfRange(v), or changes nothing -/
def XB (ex : Int → List (Str × D)) (o : Option Int) (ρ : En) (out : Out) : Prop := match o with
  | none => out = .nx ρ
  | some v => ∃ ρ', out = .ex "OutOfRange" (ex v) ρ'
theorem xb_pre {ex : Int → List (Str × D)} {o : Option Int} {s : En → Out} {k : InR} {ρ : En} (h : XB ex o ρ (s ρ)) {o2 : Option Int} {r : R (List (Str × D))} (h2 : k ρ [] = match o2 with
    | none => r
    | some v => .ex "OutOfRange" (ex v)) : inPre s k ρ [] = match o.or o2 with
    | none => r
    | some v => .ex "OutOfRange" (ex v) := by
  cases o with
  | none => rw [inPre_nx h, h2]; rfl
  | some v =>
    obtain ⟨ρ', e⟩ := h
    rw [inPre_ex e]; rfl
theorem xb_loop {α : Type} {ex : Int → List (Str × D)} {fg : List Nat} {bnd : D → En → Option En} {body : En → Out} {c : α → D} {q : α → Option Int} {ρ0 : En} {xs : List α}
    (h : ∀ x ∈ xs, ∃ ρ1, bnd (c x) ρ0 = some ρ1 ∧ XB ex (q x) ρ1 (body ρ1) ∧ fgt fg ρ1 = ρ0) : XB ex (xs.findSome? q) ρ0 (loopS fg bnd body (xs.map c) ρ0) := by
  induction xs with
  | nil => exact rfl
  | cons x xs ih =>
    obtain ⟨ρ1, e1, h1, h2⟩ := h x List.mem_cons_self
    have ih := ih fun y hy => h y (List.mem_cons_of_mem _ hy)
    rw [List.findSome?_cons, List.map_cons, loopS, e1]
    cases eq : q x with
    | none =>
      rw [eq] at h1
      have h1 : body ρ1 = .nx ρ1 := h1
      simp only
      rw [h1]
      simp only
      rw [h2]
      exact ih
    | some v =>
      rw [eq] at h1
      obtain ⟨ρ2, e2⟩ := h1
      simp only
      rw [e2]
      exact ⟨ρ2, rfl⟩
/-! ### more lemmas of evaluation -/
theorem aC {f : En → R D} {g : En → R (List D)} {ρ : En} {a : D} {as : List D} (h : f ρ = .ok a) (h2 : g ρ = .ok as) : aCons f g ρ = .ok (a :: as) := by unfold aCons; rw [h, R.bind_ok, h2]; rfl
theorem callA {m : List D → R OD} {fa : En → R (List D)} {ρ : En} {ds : List D} (h : fa ρ = .ok ds) : callE m fa ρ = m ds := by unfold callE; rw [h]; rfl
theorem newA {m : List D → R D} {fa : En → R (List D)} {ρ : En} {ds : List D} (h : fa ρ = .ok ds) : newE m fa ρ = m ds := by unfold newE; rw [h]; rfl
theorem erC {m : List D → R OD} {fa : En → R (List D)} {ρ : En} {ds : List D} {o : OD} {d : D} (h : fa ρ = .ok ds) (h2 : m ds = .ok o) (h3 : o.er = d) : erE (callE m fa) ρ = .ok d := by rw [erE_ok ((callA h).trans h2), h3]
theorem tupA {fa : En → R (List D)} {ρ : En} {ds : List D} (h : fa ρ = .ok ds) (hl : ds.length < 1000) : tupE fa ρ = .ok (.tup ds) := by
  unfold tupE
  rw [h, R.bind_ok]
  rw [if_pos (by unfold okSz; exact decide_eq_true (by omega))]
theorem itL {f : En → R D} {ρ : En} {xs : List D} (h : f ρ = .ok (.lst xs)) : itE f ρ = .ok xs := by unfold itE; rw [h]; rfl
theorem er_lstF (xs : List D) : (lstF xs).er = .lst xs := lstF_er xs
theorem fl_nats (xs : List Nat) : (xs.map fun n : Nat => D.int n).all D.flat = true := by simp [D.flat]
theorem fl_ints (xs : List Int) : (xs.map D.int).all D.flat = true := by simp [D.flat]
theorem lenA {f : En → R D} {ρ : En} {xs : List D} {n : Nat} (h : f ρ = .ok (.lst xs)) (hn : xs.length = n) : opA dLen (aCons f aNil) ρ = .ok (.int (n : Nat)) := opA_ok h (dLen_lst' _ _ hn)
end DLC
namespace DLC
open PySem L2 DL
theorem loop_pre {α : Type} {fg : List Nat} {bnd : D → En → Option En} {body : En → Out} (c : α → D) (E : List α → En) (xs : List α)
    (h : ∀ pre x post, xs = pre ++ x :: post → ∃ ρ1 ρ2, bnd (c x) (E pre) = some ρ1 ∧ body ρ1 = .nx ρ2 ∧ fgt fg ρ2 = E (pre ++ [x])) : loopS fg bnd body (xs.map c) (E []) = .nx (E xs) := by
  have : ∀ post pre, xs = pre ++ post → loopS fg bnd body (post.map c) (E pre) = .nx (E xs) := by
    intro post
    induction post with
    | nil => intro pre e; rw [e, List.append_nil]; rfl
    | cons x post ih =>
      intro pre e
      obtain ⟨ρ1, ρ2, e1, e2, e3⟩ := h pre x post e
      rw [List.map_cons, loopS, e1]
      simp only
      rw [e2]
      simp only
      rw [e3]
      exact ih (pre ++ [x]) (by rw [e, List.append_assoc]; rfl)
  exact this xs [] rfl
theorem or_none {α : Type} {a b : Option α} (h : a.or b = none) : a = none ∧ b = none := by
  cases a with
  | none => exact ⟨rfl, h⟩
  | some v => cases h
theorem badO_none {lo hi x : Int} (h : badO lo hi x = none) : lo ≤ x ∧ x ≤ hi := by
  unfold badO at h
  split at h
  · cases h
  · rename_i hb
    unfold bad at hb
    rw [Bool.or_eq_true, decide_eq_true_iff, decide_eq_true_iff] at hb
    omega
theorem drawn_nat {ls row : List Int} (h : drawnI ls row) (i : Nat) (hi : i < row.length) {l : Nat} (hl : ls[i]? = some (l : Int)) : ∃ n : Nat, row[i] = (n : Int) ∧ n < l := by
  obtain ⟨h2, a, b⟩ := h i hi
  rw [List.getElem?_eq_getElem h2] at hl
  have hl := Option.some.inj hl
  exact ⟨row[i].toNat, by omega, by omega⟩
theorem row_nats {row : List Int} (h : ∀ (i : Nat) (hi : i < row.length), 0 ≤ row[i]) : ∃ ns : List Nat, row = cI ns := by
  refine ⟨row.map Int.toNat, ?_⟩
  unfold cI
  rw [List.map_map]
  apply List.ext_getElem (by simp)
  intro i h1 h2
  have := h i h1
  simp
  omega
theorem drawn_nats {ls : List Nat} {row : List Int} (h : drawnI (cI ls) row) (hl : row.length = ls.length) : ∃ ns : List Nat, row = cI ns ∧ ns.length = ls.length ∧ ∀ (i : Nat) (h1 : i < ns.length) (h2 : i < ls.length), ns[i] < ls[i] := by
  obtain ⟨ns, rfl⟩ := row_nats (row := row) fun i hi => (h i hi).2.1
  refine ⟨ns, rfl, by simpa [cI] using hl, fun i h1 h2 => ?_⟩
  obtain ⟨h3, _, a⟩ := h i (by simpa [cI] using h1)
  simp [cI] at a
  exact a
theorem drawn_rep {l n : Nat} {row : List Int} (h : drawnI (cI (List.replicate n l)) row) (hl : row.length = n) : ∃ ns : List Nat, row = cI ns ∧ ns.length = n ∧ ∀ x ∈ ns, x < l := by
  obtain ⟨ns, e, hn, hx⟩ := drawn_nats h (by simpa using hl)
  rw [List.length_replicate] at hn
  refine ⟨ns, e, hn, fun x hx' => ?_⟩
  obtain ⟨i, hi, rfl⟩ := List.getElem_of_mem hx'
  have := hx i hi (by simp; omega)
  simpa using this
theorem er_row (row : List Int) : (OD.lst (row.map fun i => .sh (.int i))).er = iL row := by rw [OD.er_lst, List.map_map]; rfl
theorem er_nats (xs : List Nat) : (lstF (xs.map fun n : Nat => D.int n)).er = nL xs := er_lstF _
theorem i11 : True := trivial
end DLC
namespace DLC
open PySem L2 DL
theorem dMod_i (x : Int) (m : Int) (h : 0 < m) : dMod (.int x) (.int m) = some (.int (x % m)) := by
  show (if decide (0 < m) = true then some (D.int (x % m)) else _) = _
  rw [if_pos (decide_eq_true h)]
theorem dDiv_i (x : Int) (m : Int) (h : 0 < m) (h2 : m < 2147483648) : dDiv (.int x) (.int m) = some (.int (x / m)) := by
  show (if divW m = true then some (D.int (x / m)) else _) = _
  rw [if_pos (divW_ok h h2)]
theorem emod_nat {x : Int} {n : Nat} (h : 1 ≤ n) : ∃ m : Nat, (m : Int) = x % (n : Int) ∧ m < n := by
  have h1 := Int.emod_nonneg x (show (n : Int) ≠ 0 by omega)
  have h2 := Int.emod_lt_of_pos x (show (0 : Int) < n by omega)
  exact ⟨(x % (n : Int)).toNat, by omega, by omega⟩
theorem fl_oS (C : List (List Nat)) : (oS C).fl = true := by unfold oS; rw [OD.fl_lst]; simp [D.flat]
theorem oS_lstF (C : List (List Nat)) : lstF (C.map D.str) = oS C := by unfold oS; rw [lstF_eq, List.map_map]; rfl
theorem sIx_cl (n d : Nat) (k : Nat) : HT.sIx n d (some (k : Int)) = min k n := by
  unfold HT.sIx
  simp only
  rw [if_neg (by omega)]
  omega
theorem cut_to' {α : Type} (xs : List α) (k : Nat) : cutN xs none (some (k : Int)) = xs.take k := by
  unfold cutN
  rw [sIx_cl, show HT.sIx xs.length 0 none = 0 from rfl, List.drop_zero, Nat.sub_zero]
  by_cases h : k ≤ xs.length
  · rw [Nat.min_eq_left h]
  · rw [Nat.min_eq_right (by omega), List.take_of_length_le (Nat.le_refl _), List.take_of_length_le (by omega)]
theorem cut_from' {α : Type} (xs : List α) (k : Nat) : cutN xs (some (k : Int)) none = xs.drop k := by
  unfold cutN
  rw [sIx_cl, show HT.sIx xs.length xs.length none = xs.length from rfl, List.take_of_length_le (by rw [List.length_drop]; omega)]
  by_cases h : k ≤ xs.length
  · rw [Nat.min_eq_left h]
  · rw [Nat.min_eq_right (by omega), List.drop_of_length_le (Nat.le_refl _), List.drop_of_length_le (by omega)]
theorem dAdd_str' {a b : List Nat} (h : a.length + b.length ≤ 16777216) : dAdd (.str a) (.str b) = some (.str (a ++ b)) := by rw [dAdd_str, if_pos (by unfold okSz; exact decide_eq_true h)]
theorem ixN_nat' {n j : Nat} (h : j < n) : L2.ixN n (j : Int) = some j := by
  unfold L2.ixN
  rw [if_pos (by omega), if_pos (by omega)]; simp
theorem oS_v {i : Nat} {ρ : En} {C : List (List Nat)} (h : ρ[i]? = some (some (oS C))) : var i ρ = .ok (dS C) := by unfold var; rw [h]; show R.ok (oS C).er = _; rw [oS_er]
theorem it_v {ρ : En} {g : En → R D} {C : List (List Nat)} (h : g ρ = .ok (dS C)) : itE g ρ = .ok (C.map D.str) := by
  unfold itE
  rw [h]; rfl
end DLC
set_option Elab.async false
set_option linter.all false
set_option maxRecDepth 100000
namespace DLC
open PySem L2 DL
/-! ## plain: periods -/
def Per {α : Type} (xs : List α) (s : Nat) : Prop := xs.length % s = 0 ∧ xs.drop s = xs.take (xs.length - s)
structure IsLp {α : Type} (xs : List α) (s : Nat) : Prop where
  lo : 1 ≤ s
  hi : s ≤ xs.length
  per : Per xs s
  min : ∀ j, 1 ≤ j → j < s → ¬ Per xs j
theorem per_all {α : Type} (xs : List α) (h : 0 < xs.length) : Per xs xs.length := ⟨Nat.mod_self _, by simp⟩
theorem per_flat {α : Type} (s : Nat) : ∀ (m : Nat) (xs : List α), xs.length = m * s → xs.drop s = xs.take (xs.length - s) → xs = (List.replicate m (xs.take s)).flatten
  | 0, xs, h, _ => by
    have : xs = [] := List.length_eq_zero_iff.mp (by omega)
    rw [this]; rfl
  | m + 1, xs, h, hd => by
    have hl : (xs.drop s).length = m * s := by rw [List.length_drop, h, Nat.succ_mul]; omega
    have hs : xs.length - s = m * s := by rw [h, Nat.succ_mul]; omega
    have h2 : (xs.drop s).drop s = (xs.drop s).take ((xs.drop s).length - s) := by
      conv => lhs; rw [hd]
      rw [List.drop_take, hl, hs]
    have ih := per_flat s m (xs.drop s) hl h2
    rw [List.replicate_succ, List.flatten_cons]
    conv => lhs; rw [← List.take_append_drop s xs]
    congr 1
    cases m with
    | zero => rw [ih]; rfl
    | succ m =>
      rw [show (xs.drop s).take s = xs.take s from by
        rw [hd, List.take_take, Nat.min_eq_left (by rw [hs, Nat.succ_mul]; omega)]] at ih
      exact ih
theorem flat_per {α : Type} {s m : Nat} {xs t : List α} (hs : 1 ≤ s) (ht : t.length = s) (h : xs = (List.replicate m t).flatten) (hm : 1 ≤ m) : Per xs s := by
  have hl : xs.length = m * s := by rw [h]; simp [ht]
  obtain ⟨k, rfl⟩ : ∃ k, m = k + 1 := ⟨m - 1, by omega⟩
  refine ⟨by rw [hl]; exact Nat.mul_mod_left _ _, ?_⟩
  have e1 : xs.drop s = (List.replicate k t).flatten := by
    rw [h, List.replicate_succ, List.flatten_cons, ← ht, List.drop_left]
  have e2 : xs.take (xs.length - s) = (List.replicate k t).flatten := by
    have : xs.length - s = (List.replicate k t).flatten.length := by rw [hl, Nat.succ_mul]; simp [ht]
    rw [this, h, List.replicate_succ', List.flatten_append, List.take_left]
  rw [e1, e2]
def Cn {α : Type} [DecidableEq α] (xs : List α) (s : Nat) : Bool := decide (xs.length / s * s = xs.length) && decide (xs = (List.replicate (xs.length / s) (xs.take s)).flatten)
theorem Cn_per {α : Type} [DecidableEq α] {xs : List α} {s : Nat} (h1 : 1 ≤ s) (h2 : s ≤ xs.length) : Cn xs s = true ↔ Per xs s := by
  unfold Cn
  rw [Bool.and_eq_true, decide_eq_true_iff, decide_eq_true_iff]
  constructor
  · rintro ⟨a, b⟩
    exact flat_per h1 (by rw [List.length_take]; omega) b (by
      rcases Nat.eq_zero_or_pos (xs.length / s) with z | z
      · rw [z] at a; omega
      · exact z)
  · rintro ⟨a, b⟩
    have : xs.length / s * s = xs.length := Nat.div_mul_cancel (Nat.dvd_of_mod_eq_zero a)
    exact ⟨this, per_flat s _ xs this.symm b⟩
theorem find_lp {α : Type} [DecidableEq α] {xs : List α} {s : Nat} (h : IsLp xs s) : ((List.range xs.length).map (· + 1)).find? (Cn xs) = some s := by
  rw [List.find?_map]
  have : (List.range xs.length).find? (Cn xs ∘ (· + 1)) = some (s - 1) := by
    rw [List.find?_range_eq_some]
    have h1 := h.lo
    have h2 := h.hi
    refine ⟨?_, List.mem_range.mpr (by omega), fun j hj => ?_⟩
    · show Cn xs (s - 1 + 1) = true
      rw [show s - 1 + 1 = s by omega]
      exact (Cn_per h1 h2).mpr h.per
    · show (!Cn xs (j + 1)) = true
      rw [Bool.not_eq_true', Bool.eq_false_iff]
      intro z
      exact h.min (j + 1) (by omega) (by omega) ((Cn_per (by omega) (by omega)).mp z)
  rw [this]
  have h1 := h.lo
  simp; omega
/-! ## kinds, in the order in which they come, and each one's number -/
def kStep {α : Type} [BEq α] (z : List α × List Nat) (x : α) : List α × List Nat :=
  let f := if z.1.contains x then z.1 else z.1 ++ [x]
  (f, z.2 ++ [f.idxOf x])
def kc {α : Type} [BEq α] (xs : List α) : List α × List Nat := xs.foldl kStep ([], [])
theorem kc_snoc {α : Type} [BEq α] (xs : List α) (x : α) : kc (xs ++ [x]) = kStep (kc xs) x := by unfold kc; rw [List.foldl_append]; rfl
structure KcP {α : Type} [BEq α] (xs : List α) (f : List α) (o : List Nat) : Prop where
  nd : f.Nodup
  len : f.length ≤ xs.length
  olen : o.length = xs.length
  mem : ∀ x, x ∈ f ↔ x ∈ xs
  lt : ∀ k ∈ o, k < f.length
  at_ : o.map (fun k => f[k]?) = xs.map some
theorem kc_ok {α : Type} [BEq α] [LawfulBEq α] (xs : List α) : KcP xs (kc xs).1 (kc xs).2 := by
  have : ∀ n (xs : List α), xs.length = n → KcP xs (kc xs).1 (kc xs).2 := by
    intro n
    induction n with
    | zero =>
      intro xs h
      have : xs = [] := List.length_eq_zero_iff.mp h
      subst this
      exact ⟨List.nodup_nil, by simp [kc], rfl, fun x => by simp [kc], fun k hk => by simp [kc] at hk, rfl⟩
    | succ n ih =>
      intro xs h
      obtain ⟨ys, x, rfl⟩ : ∃ ys x, xs = ys ++ [x] := ⟨xs.dropLast, xs.getLast (by intro z; rw [z] at h; simp at h), (List.dropLast_concat_getLast _).symm⟩
      have q := ih ys (by simp at h; omega)
      rw [kc_snoc]
      unfold kStep
      by_cases hx : (kc ys).1.contains x = true
      · simp only [hx, if_true]
        have hm : x ∈ (kc ys).1 := List.contains_iff_mem.mp hx
        have hi := List.idxOf_lt_length_iff.mpr hm
        refine ⟨q.nd, by have := q.len; simp; omega, by simp [q.olen], fun z => ?_, fun k hk => ?_, ?_⟩
        · rw [List.mem_append, List.mem_singleton, ← q.mem]
          exact ⟨.inl, fun w => w.elim id fun e => by rw [e]; exact hm⟩
        · rcases List.mem_append.mp hk with hk | hk
          · exact q.lt k hk
          · rw [List.mem_singleton.mp hk]; exact hi
        · rw [List.map_append, List.map_append, q.at_]
          simp [List.getElem?_eq_getElem hi]
      · have hx : (kc ys).1.contains x = false := by simpa using hx
        simp only [hx, Bool.false_eq_true, if_false]
        have hm : x ∉ (kc ys).1 := fun z => by rw [List.contains_iff_mem.mpr z] at hx; cases hx
        have hi : ((kc ys).1 ++ [x]).idxOf x = (kc ys).1.length := by
          rw [List.idxOf_append]; simp [hm]
        refine ⟨?_, by have := q.len; simp; omega, by simp [q.olen], fun z => ?_, fun k hk => ?_, ?_⟩
        · exact List.nodup_append.mpr ⟨q.nd, by simp, fun a ha b hb e => by rw [List.mem_singleton] at hb; rw [e, hb] at ha; exact hm ha⟩
        · rw [List.mem_append, List.mem_append, q.mem]
        · rcases List.mem_append.mp hk with hk | hk
          · have := q.lt k hk; simp; omega
          · rw [List.mem_singleton.mp hk, hi]; simp
        · rw [List.map_append, List.map_append, ← q.at_]
          congr 1
          · apply List.map_congr_left
            intro k hk
            rw [List.getElem?_append_left (q.lt k hk)]
          · rw [List.map_cons, List.map_nil, hi]; simp
  exact this _ xs rfl
end DLC
set_option Elab.async false
set_option linter.all false
set_option maxRecDepth 100000
namespace DLC
open PySem L2 DL
/-! ## plain: kinds once more -/
theorem snoc_ind {α : Type} {P : List α → Prop} (h0 : P []) (hs : ∀ xs x, P xs → P (xs ++ [x])) : ∀ xs, P xs := by
  intro xs
  have : ∀ n (xs : List α), xs.length = n → P xs := by
    intro n
    induction n with
    | zero => intro xs h; rw [List.length_eq_zero_iff.mp h]; exact h0
    | succ n ih =>
      intro xs h
      obtain ⟨ys, x, rfl⟩ : ∃ ys x, xs = ys ++ [x] := ⟨xs.dropLast, xs.getLast (by intro z; rw [z] at h; simp at h), (List.dropLast_concat_getLast _).symm⟩
      exact hs _ _ (ih ys (by simp at h; omega))
  exact this _ xs rfl
section
variable {α : Type} [BEq α] [LawfulBEq α]
def kF (xs : List α) : List α := (kc xs).1
theorem kF_snoc (xs : List α) (x : α) : kF (xs ++ [x]) = if x ∈ xs then kF xs else kF xs ++ [x] := by
  unfold kF
  rw [kc_snoc]
  unfold kStep
  have q := kc_ok xs
  by_cases h : x ∈ xs
  · rw [if_pos h]
    simp only [List.contains_iff_mem.mpr ((q.mem x).mpr h), if_true]
  · rw [if_neg h]
    have : (kc xs).1.contains x = false := by rw [Bool.eq_false_iff]; exact fun z => h ((q.mem x).mp (List.contains_iff_mem.mp z))
    simp only [this, Bool.false_eq_true, if_false]
theorem kF_mem (xs : List α) (x : α) : x ∈ kF xs ↔ x ∈ xs := (kc_ok xs).mem x
theorem kF_nd (xs : List α) : (kF xs).Nodup := (kc_ok xs).nd
theorem kF_len (xs : List α) : (kF xs).length ≤ xs.length := (kc_ok xs).len
theorem kF_iff : ∀ xs : List α, (kF xs).length = xs.length ↔ xs.Nodup := by
  intro xs
  refine snoc_ind (P := fun xs => (kF xs).length = xs.length ↔ xs.Nodup) ?_ ?_ xs
  · simp [kF, kc]
  · intro xs x ih
    rw [kF_snoc, List.nodup_append]
    have := kF_len xs
    by_cases h : x ∈ xs
    · rw [if_pos h]
      simp
      constructor
      · intro z; omega
      · rintro ⟨_, z⟩
        exact absurd rfl (z x h)
    · rw [if_neg h]
      simp
      rw [ih]
      exact ⟨fun z => ⟨z, fun a ha e => h (by rw [← e]; exact ha)⟩, fun z => z.1⟩
theorem kF_pos {xs : List α} (h : 0 < xs.length) : 0 < (kF xs).length := List.length_pos_of_mem ((kF_mem xs xs[0]).mpr (List.getElem_mem h))
theorem kO_eq (xs : List α) : (kc xs).2 = xs.map fun x => (kF xs).idxOf x := by
  have q := kc_ok xs
  have hat : (kc xs).2.map (fun k => (kc xs).1[k]?) = xs.map some := q.at_
  apply List.ext_getElem (by rw [q.olen, List.length_map])
  intro i h1 h2
  have hx : i < xs.length := by simpa using h2
  have e : ((kc xs).2.map (fun k => (kc xs).1[k]?))[i]? = (xs.map some)[i]? := by rw [hat]
  rw [List.getElem?_map, List.getElem?_map, List.getElem?_eq_getElem h1, List.getElem?_eq_getElem hx] at e
  have e := Option.some.inj e
  have hlt := q.lt _ (List.getElem_mem h1)
  simp only at e
  rw [List.getElem?_eq_getElem hlt] at e
  have e := Option.some.inj e
  rw [List.getElem_map]
  show (kc xs).2[i] = (kc xs).1.idxOf xs[i]
  rw [← e]
  exact (q.nd.idxOf_getElem _ hlt).symm
/-- the places at which parts come first -/
theorem firsts_eq [DecidableEq α] (xs : List α) (d : α) : (List.range xs.length).filter (fun i => decide (xs.getD i d ∉ xs.take i)) = (kF xs).map fun x => xs.idxOf x := by
  refine snoc_ind (P := fun xs => (List.range xs.length).filter (fun i => decide (xs.getD i d ∉ xs.take i)) = (kF xs).map fun x => xs.idxOf x) ?_ ?_ xs
  · rfl
  · intro xs x ih
    rw [List.length_append, List.length_singleton, List.range_succ, List.filter_append, kF_snoc]
    have e1 : (List.range xs.length).filter (fun i => decide ((xs ++ [x]).getD i d ∉ (xs ++ [x]).take i)) = (kF xs).map fun y => (xs ++ [x]).idxOf y := by
      rw [show ((kF xs).map fun y => (xs ++ [x]).idxOf y) = (kF xs).map fun y => xs.idxOf y from by
        apply List.map_congr_left
        intro y hy
        rw [List.idxOf_append, if_pos ((kF_mem xs y).mp hy)], ← ih]
      apply List.filter_congr
      intro i hi
      have hi := List.mem_range.mp hi
      have e : (xs ++ [x]).getD i d = xs.getD i d := by simp [List.getD, List.getElem?_append_left hi]
      rw [List.take_append_of_le_length (by omega), e]
    rw [e1, List.filter_cons, List.filter_nil]
    have e2 : (xs ++ [x]).getD xs.length d = x := by simp [List.getD]
    rw [e2, List.take_left]
    by_cases h : x ∈ xs
    · rw [if_pos h, if_neg (by simp [h]), List.append_nil]
    · rw [if_neg h, if_pos (by simp [h]), List.map_append, List.map_cons, List.map_nil, List.idxOf_append, if_neg h]
      simp
theorem kF_map {β : Type} [BEq β] [LawfulBEq β] {f : α → β} (hf : ∀ a b, f a = f b → a = b) (xs : List α) : kF (xs.map f) = (kF xs).map f := by
  refine snoc_ind (P := fun xs => kF (xs.map f) = (kF xs).map f) ?_ ?_ xs
  · rfl
  · intro xs x ih
    rw [List.map_append, List.map_cons, List.map_nil, kF_snoc, kF_snoc, ih]
    by_cases h : x ∈ xs
    · rw [if_pos h, if_pos (List.mem_map_of_mem h)]
    · rw [if_neg h, if_neg (fun z => by
        obtain ⟨y, hy, e⟩ := List.mem_map.mp z
        rw [hf _ _ e] at hy; exact h hy), List.map_append]; rfl
end
instance kBEq : BEq Key := ⟨fun a b => decide (a = b)⟩
instance kLBEq : LawfulBEq Key where
  eq_of_beq := fun h => of_decide_eq_true h
  rfl := decide_eq_true rfl
theorem putKD_tr {f : List Key} {v : D} (k : Key) : putKD (f.map fun j => (j, v)) k v = (if k ∈ f then f else f ++ [k]).map fun j => (j, v) := by
  unfold putKD
  by_cases h : k ∈ f
  · rw [if_pos h, if_pos, List.map_map]
    · apply List.map_congr_left
      intro j _
      show (if j = k then (j, v) else (j, v)) = (j, v)
      split <;> rfl
    · rw [List.any_eq_true]
      exact ⟨(k, v), List.mem_map.mpr ⟨k, h, rfl⟩, decide_eq_true rfl⟩
  · rw [if_neg h, if_neg, List.map_append]; rfl
    intro z
    obtain ⟨q, hq, e⟩ := List.any_eq_true.mp z
    obtain ⟨j, hj, rfl⟩ := List.mem_map.mp hq
    have e := of_decide_eq_true e
    simp only at e
    rw [e] at hj; exact h hj
/-- {key: True for ..}: the keys in the order in which they come first -/
theorem dcL_kF {α : Type} (c : α → D) (ky : α → Key) {bnd : D → En → Option En} {fk fv : En → R D} {ρ : En} {v : D} (hv : v.flat = true) (xs : List α)
    (h : ∀ x ∈ xs, bk (bnd (c x) ρ) fun ρ1 => fk ρ1 = .ok (kD (ky x)) ∧ kOf (kD (ky x)) = some (ky x) ∧ fv ρ1 = .ok v) : dcL bnd tYesD fk fv ρ (xs.map c) [] = .ok ((kF (xs.map ky)).map fun j => (j, v)) := by
  have : ∀ post pre, xs = pre ++ post → dcL bnd tYesD fk fv ρ (post.map c) ((kF (pre.map ky)).map fun j => (j, v)) = .ok ((kF (xs.map ky)).map fun j => (j, v)) := by
    intro post
    induction post with
    | nil => intro pre e; rw [e, List.append_nil]; rfl
    | cons x post ih =>
      intro pre e
      have h0 := h x (by rw [e]; simp)
      rw [List.map_cons, dcL]
      cases e1 : bnd (c x) ρ with
      | none => rw [e1] at h0; unfold bk at h0; exact h0.elim
      | some ρ1 =>
        rw [e1, bk_some] at h0
        obtain ⟨a1, a2, a3⟩ := h0
        simp only
        rw [show tYesD ρ1 = .ok true from rfl, R.nox_ok, R.bind_ok, if_pos rfl, a1, R.nox_ok, R.bind_ok, a3, R.nox_ok, R.bind_ok, a2]
        simp only
        rw [hv, if_pos rfl, putKD_tr]
        have := ih (pre ++ [x]) (by rw [e, List.append_assoc]; rfl)
        rw [List.map_append, List.map_cons, List.map_nil, kF_snoc] at this
        have em : (ky x ∈ kF (pre.map ky)) = (ky x ∈ pre.map ky) := propext (kF_mem _ _)
        simp only [em]
        exact this
  have := this xs [] rfl
  exact this
theorem dcE_kF {α : Type} (xs : List α) (c : α → D) (ky : α → Key) {Ee vs : List Nat} {bnd : D → En → Option En} {it : En → R (List D)} {fk fv : En → R D} {ρ : En} {v : D} (hv : v.flat = true) (h : it ρ = .ok (xs.map c)) (hf : ((xs.map c).all D.flat || allSh Ee ρ) = true) (hl : xs.length < 16777216)
    (hx : ∀ x ∈ xs, bk (bnd (c x) (fgt vs ρ)) fun ρ1 => fk ρ1 = .ok (kD (ky x)) ∧ kOf (kD (ky x)) = some (ky x) ∧ fv ρ1 = .ok v) :
    erE (dcE Ee vs bnd it tYesD fk fv) ρ = .ok (.dic ((kF (xs.map ky)).map fun j => (kD j, v))) := by
  have e := dcL_kF c ky hv xs hx (bnd := bnd) (fk := fk) (fv := fv)
  have ho : okLen (xs.map c).length = true := by unfold okLen; rw [List.length_map]; exact decide_eq_true hl
  have q : dcE Ee vs bnd it tYesD fk fv ρ = .ok (.dic (((kF (xs.map ky)).map fun j => (j, v)).map fun q => (kD q.1, OD.sh q.2))) := by
    unfold dcE
    rw [h, R.bind_ok, hf, ho, Bool.and_self, if_pos rfl, e, R.bind_ok]
  rw [erE_ok q, er_dicK, List.map_map]; rfl
def kS (r : List Nat) : Key := .inr ⟨r.toArray⟩
theorem kS_kD (r : List Nat) : kD (kS r) = .str r := by unfold kS kD; simp
theorem kS_of (r : List Nat) : kOf (kD (kS r)) = some (kS r) := by rw [kS_kD]; rfl
theorem kS_inj (a b : List Nat) (h : kS a = kS b) : a = b := by
  have : kD (kS a) = kD (kS b) := by rw [h]
  rw [kS_kD, kS_kD] at this
  cases this; rfl
theorem dic_len (ks : List Key) (v : D) : dLenD [.dic (ks.map fun j => (kD j, v))] = some (.int (ks.length : Nat)) := by
  have : (ks.map fun j => (kD j, v)).all (fun q => isK q.1) = true := by
    rw [List.all_eq_true]
    intro x hx
    obtain ⟨q, _, rfl⟩ := List.mem_map.mp hx
    exact isK_kD _
  show (if (ks.map fun j => (kD j, v)).all (fun q => isK q.1) = true then some (D.int ((ks.map fun j => (kD j, v)).length : Nat)) else none) = _
  rw [this, if_pos rfl, List.length_map]
theorem dic_list (ks : List Key) (v : D) : fListD [.dic (ks.map fun j => (kD j, v))] = some (lstF (ks.map kD)) := by
  have := listD_keys (ks.map fun j => (j, v))
  rw [List.map_map, List.map_map] at this
  exact this
theorem atI_last {α : Type} {xs : List α} (h : 0 < xs.length) : L2.atI xs (-1) = some (xs[xs.length - 1]'(by omega)) := by
  unfold L2.atI L2.ixN
  rw [if_neg (by omega), if_pos (by omega)]
  simp
  rw [show (-1 + (xs.length : Int)).toNat = xs.length - 1 by omega]
  simp
end DLC
set_option Elab.async false
set_option linter.all false
set_option maxRecDepth 100000
namespace DL
open PySem PySem.Spec PyProof.Rows L2
/-! ## dicts that are built up -/
def keq (k : Key) (d : D) : Bool := decide (kOf d = some k)
theorem kOf_kD (k : Key) : kOf (kD k) = some k := by
  cases k with
  | inl i => rfl
  | inr x =>
    show some (Sum.inr (⟨x.cps.toList.toArray⟩ : Str) : Key) = _
    rw [Array.toArray_toList]
theorem keq_kD (j k : Key) : keq k (kD j) = decide (j = k) := by
  unfold keq
  rw [kOf_kD]
  exact decide_eq_decide.mpr ⟨fun h => Option.some.inj h, fun h => by rw [h]⟩
def putO (kvs : List (D × OD)) (k : Key) (x : OD) : List (D × OD) := if kvs.any (fun q => keq k q.1) then kvs.map (fun q => if keq k q.1 then (q.1, x) else q) else kvs ++ [(kD k, x)]
theorem RepOK.any {P : Wd} {G H : Hp} {k : Key} : ∀ {xs : List (D × OD)} {vs : List (Key × V)} {A : List Addr}, RepOK P G H vs xs A → (vs.any fun q => decide (q.1 = k)) = xs.any fun q => keq k q.1
  | [], _, _, h => by cases h; rfl
  | (_, x) :: xs, _, _, h => by
    cases h with
    | cons h1 h2 => rw [List.any_cons, List.any_cons, RepOK.any h2, keq_kD]
theorem RepOK.mapPut {P : Wd} {G H : Hp} {k : Key} {v : V} {d : D} (q : Rep P G v d) : ∀ {xs : List (D × OD)} {vs : List (Key × V)} {A : List Addr}, RepOK P G H vs xs A → ∃ A', A'.Sublist A ∧ RepOK P G H (vs.map fun kv => if kv.1 = k then (kv.1, v) else kv) (xs.map fun q => if keq k q.1 then (q.1, .sh d) else q) A'
  | [], _, _, h => by cases h; exact ⟨[], List.Sublist.refl _, .nil⟩
  | (_, x) :: xs, _, _, h => by
    cases h with
    | @cons k' v' vs' _ _ A B h1 h2 =>
      obtain ⟨A', s, r⟩ := RepOK.mapPut q h2
      rw [List.map_cons, List.map_cons]
      simp only [keq_kD]
      by_cases e : k' = k
      · rw [if_pos e, decide_eq_true e, if_pos rfl]
        exact ⟨A', s.trans (List.sublist_append_right _ _), .cons (A := []) (.sh q) r⟩
      · rw [if_neg e, decide_eq_false e, if_neg (by simp)]
        exact ⟨A ++ A', List.Sublist.append (List.Sublist.refl _) s, .cons h1 r⟩
theorem RepOK.snoc {P : Wd} {G H : Hp} {k : Key} {v : V} {d : D} (q : Rep P G v d) : ∀ {xs : List (D × OD)} {vs : List (Key × V)} {A : List Addr}, RepOK P G H vs xs A → RepOK P G H (vs ++ [(k, v)]) (xs ++ [(kD k, .sh d)]) A
  | [], _, _, h => by cases h; exact .cons (A := []) (.sh q) .nil
  | (_, x) :: xs, _, _, h => by
    cases h with
    | cons h1 h2 => exact .cons h1 (RepOK.snoc q h2)
theorem RepOK.put {P : Wd} {G H : Hp} {k : Key} {v : V} {d : D} {xs : List (D × OD)} {vs : List (Key × V)} {A : List Addr} (q : Rep P G v d) (h : RepOK P G H vs xs A) : ∃ A', A'.Sublist A ∧ RepOK P G H (putK vs k v) (putO xs k (.sh d)) A' := by
  unfold putK putO
  rw [h.any]
  split
  · exact h.mapPut q
  · exact ⟨A, List.Sublist.refl _, h.snoc q⟩
theorem RepOK.len {P : Wd} {G H : Hp} : ∀ {xs : List (D × OD)} {vs : List (Key × V)} {A : List Addr}, RepOK P G H vs xs A → vs.length = xs.length
  | [], _, _, h => by cases h; rfl
  | (_, x) :: xs, _, _, h => by
    cases h with
    | cons h1 h2 => rw [List.length_cons, List.length_cons, h2.len]
section
variable {B : Bs}
theorem Sta.dict {σ : L2.St} {H : Hp} {ρ : En} {As : Ow} (S : Sta B σ H ρ As) {i : Nat} {xs : List (D × OD)} (h : ρ[i]? = some (some (.dic xs))) :
    ∃ l vs A, σ[i]? = some (some (.ref l)) ∧ As i = l :: A ∧ H l = some (.dK vs) ∧ RepOK B.P (cut H (hid B As [])) H vs xs A := by
  obtain ⟨v, e1, r⟩ := S.pt i _ h
  generalize hA : As i = A0 at r
  cases r with
  | dic h1 h2 => exact ⟨_, _, _, e1, rfl, h1, h2⟩
theorem Sta.redict {σ : L2.St} {H : Hp} {ρ : En} {As : Ow} (S : Sta B σ H ρ As) {i : Nat} {l : Addr} {A A' : List Addr} {ws : List (Key × V)} {ys : List (D × OD)} (e1 : σ[i]? = some (some (.ref l))) (eA : As i = l :: A)
    (nA : (l :: A').Nodup) (sub : ∀ a ∈ A', a ∈ A ∨ H a = none) (r : RepOK B.P (cut H (hid B (putA As i (l :: A')) [])) H ws ys A') : Sta B σ (upd H l (.dK ws)) (ρ.set i (some (.dic ys))) (putA As i (l :: A')) := by
  have hl : l ∈ As i := by rw [eA]; exact List.mem_cons_self
  have hH := S.hs i l hl
  refine S.mut e1 (fun a o h n => ?_) (fun a h => ?_) nA (fun a ha => ?_) (.dic upd_same (RepOK.mono (fun a o h => ?_) _ _ _ r fun a ha => ?_))
  · rw [upd_ne (fun z => n (by rw [z]; exact hl))]; exact h
  · by_cases e : a = l
    · rw [e, upd_same]; exact nofun
    · rw [upd_ne e]; exact h
  · rcases List.mem_cons.mp ha with rfl | ha
    · exact .inl hl
    · rcases sub a ha with z | z
      · exact .inl (by rw [eA]; exact List.mem_cons_of_mem _ z)
      · exact .inr z
  · obtain ⟨h1, h2⟩ := cut_some h
    refine cut_of h1 ?_
    rw [upd_ne]
    · exact h2
    · intro z
      refine h1 (.inr ⟨i, List.not_mem_nil, ?_⟩)
      rw [putA_same, z]; exact List.mem_cons_self
  · rw [upd_ne]
    intro z
    rw [z] at ha
    exact (List.nodup_cons.mp nA).1 ha
theorem kp_dict {σ : L2.St} {H : Hp} {As : Ow} {i : Nat} {l : Addr} {A A' : List Addr} {ws : List (Key × V)} (eA : As i = l :: A) (hH : H l ≠ none) (sub : ∀ a ∈ A', a ∈ A ∨ H a = none) : Kp [i] σ H As σ (upd H l (.dK ws)) (putA As i (l :: A')) :=
  ⟨rfl, fun _ _ => rfl, fun j a h => by
    rcases putA_mem h with ⟨e, h⟩ | ⟨_, h⟩
    · rw [e, eA]
      rcases List.mem_cons.mp h with rfl | h
      · exact .inl List.mem_cons_self
      · exact (sub a h).imp (List.mem_cons_of_mem _) .inl
    · exact .inl h, fun a o h n => by
      rw [upd_ne (fun z => n i List.mem_cons_self (by rw [eA, z]; exact List.mem_cons_self))]; exact h, fun a h => by
      by_cases e : a = l
      · rw [e, upd_same]; exact nofun
      · rw [upd_ne e]; exact h⟩
theorem RepOK.hide {P : Wd} {σ : L2.St} {H : Hp} {As : Ow} {i : Nat} {l : Addr} {A : List Addr} {vs : List (Key × V)} {xs : List (D × OD)} {Ar : List Addr} (eA : As i = l :: A) (r : RepOK P (cut H (hid B As [])) H vs xs Ar) {A' : List Addr} (new : ∀ a ∈ A', a ∈ A ∨ H a = none) : RepOK P (cut H (hid B (putA As i (l :: A')) [])) H vs xs Ar :=
  RepOK.mono (fun a o h => by
    obtain ⟨h1, h2⟩ := cut_some h
    refine cut_of (fun z => h1 ?_) h2
    rcases z with z | ⟨j, _, z⟩
    · exact .inl z
    · rcases putA_mem z with ⟨_, z⟩ | ⟨_, z⟩
      · rcases List.mem_cons.mp z with rfl | z
        · exact .inr ⟨i, List.not_mem_nil, by rw [eA]; exact List.mem_cons_self⟩
        · rcases new a z with z | z
          · exact .inr ⟨i, List.not_mem_nil, by rw [eA]; exact List.mem_cons_of_mem _ z⟩
          · rw [z] at h2; cases h2
      · exact .inr ⟨j, List.not_mem_nil, z⟩) _ _ _ r fun _ _ => rfl
end
def ownD (i : Nat) (ρ : En) : Option (List (D × OD)) := match ρ[i]? with
  | some (some (.dic xs)) => some xs
  | _ => none
theorem ownD_eq {i : Nat} {ρ : En} {xs : List (D × OD)} (h : ownD i ρ = some xs) : ρ[i]? = some (some (.dic xs)) := by
  unfold ownD at h
  split at h
  · rename_i ys e; cases h; exact e
  · cases h
/-- d[k] = e -/
def putS (i : Nat) (E : List Nat) (f g : En → R DL.D) : En → Out := fun ρ => (f ρ).out ρ fun d => match ownD i ρ with
  | none => .st
  | some kvs => (g ρ).out ρ fun k => match kOf k with
    | some k => if okLen kvs.length && keeps i E d then .nx ((frzIf d E ρ).set i (some (.dic (putO kvs k (.sh d))))) else .st
    | none => .st
section
variable {X : Cx} {B : Bs} {W : WX} {E E1 E2 E3 : List Nat} {f g h : En → R D} {o e i2 vx : Expr} {pos apos cpos : Pos}
theorem s_put (i : Nat) {x : Str} {px tpos : Pos} (hu : X.A.units + 64 < cLine) (h0 : PE X (.Name x px) (tVar i)) (h : PE X vx (tD B W E f)) (hg : PE X i2 (tD B W E2 g))
    (hs : swapsWith vx (some (.Subscript (.Name x px) i2 tpos)) pos.line X.env = pure false := by rfl) : PS X (.Assign [.Subscript (.Name x px) i2 tpos] vx pos) (tS B W [i] (putS i E f g)) :=
  (ps_dput (by omega) h0 hg h hs).imp fun D σ H ⟨ρ, As, S, h⟩ => by
    refine tD_out S h fun d v H1 s1 S1 r1 q => ?_
    cases eo : ownD i ρ with
    | none => rw [eo] at q; exact q.elim
    | some xs =>
      rw [eo] at q
      have eρ := ownD_eq eo
      obtain ⟨l, vs, A, e1, eA, hl, r⟩ := S1.dict eρ
      refine ⟨_, e1, tD_out S1 q fun k w H2 s2 S2 r2 q => ?_⟩
      cases ek : kOf k with
      | none => rw [ek] at q; exact q.elim
      | some k' =>
        rw [ek] at q
        simp only at q
        obtain ⟨rfl, _⟩ := kOf_eq r2 ek
        cases c2 : okLen xs.length && keeps i E d with
        | false => rw [c2] at q; exact q.elim
        | true =>
          rw [c2] at q
          obtain ⟨c1, c2⟩ := Bool.and_eq_true_iff.mp c2
          obtain ⟨A1, S3, r3, kk⟩ := rep_frz S2 (r1.up (cut_mono s2 fun _ z => z))
          have e3 : (frzIf d E ρ)[i]? = some (some (.dic xs)) := (frzIf_keep c2).trans eρ
          obtain ⟨l', vs', A', e1', eA', hl', r'⟩ := S3.dict e3
          rw [e1] at e1'; cases e1'
          rw [s2 _ _ hl] at hl'; cases hl'
          obtain ⟨A2, sl, r4⟩ := RepOK.put (k := k') r3 r'
          have nA := nodup_of S3 eA'
          have sub : ∀ a ∈ A2, a ∈ A' ∨ H2 a = none := fun a ha => .inl (sl.subset ha)
          have T := S3.redict (A' := A2) e1 eA' (List.nodup_cons.mpr ⟨fun z => (List.nodup_cons.mp nA).1 (sl.subset z), (List.nodup_cons.mp nA).2.sublist sl⟩) sub (RepOK.hide (B := B) (σ := σ) eA' r4 sub)
          refine ⟨l, _, rfl, DPut.k (s2 _ _ hl) (by rw [r.len]; exact okLen_lt c1), ?_⟩
          exact q _ _ _ T (kk.trans (kp_dict (σ := σ) eA' (by rw [s2 _ _ hl]; exact nofun) sub))
/-- {} -/
theorem f_dnew : PE X (.Dict [] [] pos) (tF B W [] (fun _ => .ok (.dic []))) := pe_dnewK.imp fun σ H Q ⟨ρ, As, S, h⟩ => by
  intro p hn
  refine h (.ref p) [p] _ (fun a o ha => by rw [upd_ne (ne_of_none ha hn)]; exact ha) (List.nodup_cons.mpr ⟨List.not_mem_nil, List.nodup_nil⟩) (fun a ha => by rw [List.mem_singleton.mp ha]; exact hn) (.dic upd_same .nil)
theorem DGetR {H : Hp} {a : Addr} {kvs : List (Key × V)} {k : Key} (e : Rd H a (.dK kvs)) : DGet H a (kV k) (valV kvs k) := .inl ⟨kvs, k, e, rfl, rfl⟩
def dGetD : D → D → Option D
  | .dic kvs, k => (match kOf k with
    | some k => (kvs.find? fun q => keq k q.1).map (·.2)
    | none => none)
  | _, _ => none
theorem RepK.get {P : Wd} {G : Hp} {k : Key} : ∀ {ds : List (D × D)} {vs : List (Key × V)}, RepK P G vs ds → (∀ d, (ds.find? fun q => keq k q.1).map (·.2) = some d → ∃ v, valV vs k = some v ∧ Rep P G v d) ∧ ((ds.find? fun q => keq k q.1).map (·.2) = none → valV vs k = none)
  | [], _, h => by cases h; exact ⟨fun d z => (by cases z), fun _ => rfl⟩
  | (_, d) :: ds, _, h => by
    cases h with
    | @cons k' v' vs' _ _ h1 h2 =>
      rw [List.find?_cons]
      simp only [keq_kD]
      by_cases e : k' = k
      · rw [decide_eq_true e]
        simp only
        rw [valV_pos e]
        exact ⟨fun d z => by cases z; exact ⟨_, rfl, h1⟩, fun z => nomatch z⟩
      · rw [decide_eq_false e]
        simp only
        rw [valV_neg e]
        exact RepK.get h2
theorem RepK.any {P : Wd} {G : Hp} {k : Key} {ds : List (D × D)} {vs : List (Key × V)} (h : RepK P G vs ds) : (valV vs k).isSome = ds.any fun q => keq k q.1 := by
  obtain ⟨h1, h2⟩ := h.get (k := k)
  cases e : ds.find? (fun q => keq k q.1) with
  | none =>
    rw [h2 (by rw [e]; rfl)]
    symm
    rw [Option.isSome_none, List.any_eq_false]
    intro x hx
    have := List.find?_eq_none.mp e x hx
    simpa using this
  | some q =>
    obtain ⟨v, ev, _⟩ := h1 q.2 (by rw [e]; rfl)
    rw [ev]
    symm
    rw [Option.isSome_some, List.any_eq_true]
    exact ⟨q, List.mem_of_find?_eq_some e, by simpa using List.find?_some e⟩
/-- d[k] -/
theorem d_dget (hu : X.A.units + 64 < cLine) (ho : PE X o (tD B W E1 f)) (hi : PE X e (tD B W E2 g)) (hs : NoSl e := by exact fun _ _ => rfl) : PE X (.Subscript o e pos) (tD B W (E1 ++ E2) (op2 dGetD f g)) :=
  (pe_dget (by omega) ho hi hs).imp fun σ H Q ⟨ρ, As, S, q⟩ => by
    unfold op2 at q
    refine tD_bind S q fun a x H1 s1 S1 r1 q1 => ?_
    refine tD_bind S1 q1 fun b y H2 s2 S2 r2 q2 => ?_
    unfold dGetD at q2
    split at q2
    · rename_i kvs
      cases ek : kOf b with
      | none => rw [ek] at q2; exact q2.elim
      | some k =>
        rw [ek] at q2
        simp only at q2
        obtain ⟨rfl, _⟩ := kOf_eq r2 ek
        cases r1 with
        | dic h1 h2 =>
          cases ef : (kvs.find? fun q => keq k q.1).map (·.2) with
          | none => rw [ef] at q2; exact q2.elim
          | some d =>
            rw [ef] at q2
            obtain ⟨v, ev, rv⟩ := h2.get.1 d ef
            have g1 := Rd.same s2 (rd_cut h1)
            refine ⟨_, v, rfl, ev ▸ DGetR g1, q2 v H2 (s1.trans s2) (rv.up (cut_mono s2 (hid_mono fun i hi => List.mem_append_left _ hi)))⟩
    · exact q2.elim
def dInD : D → D → Option D
  | k, .dic kvs => (match kOf k with
    | some k => some (.bl (kvs.any fun q => keq k q.1))
    | none => none)
  | _, _ => none
def dNotInD : D → D → Option D
  | k, .dic kvs => (match kOf k with
    | some k => some (.bl (!kvs.any fun q => keq k q.1))
    | none => none)
  | _, _ => none
/-- k in d -/
theorem d_inD (hu : X.A.units + 64 < cLine) (hi : PE X e (tD B W E1 f)) (ho : PE X o (tD B W E2 g)) (hm : behindInMarks .In o = false := by rfl) : PE X (.Compare e [.In] [o] pos) (tD B W [] (op2 dInD f g)) :=
  (pe_cmp (pc_din (by omega) hi ho) hm).imp fun σ H Q ⟨ρ, As, S, q⟩ => by
    unfold op2 at q
    refine tD_bind S q fun a x H1 s1 S1 r1 q1 => ?_
    refine tD_bind S1 q1 fun b y H2 s2 S2 r2 q2 => ?_
    unfold dInD at q2
    split at q2
    · rename_i kvs
      cases ek : kOf a with
      | none => rw [ek] at q2; exact q2.elim
      | some k =>
        rw [ek] at q2
        obtain ⟨rfl, _⟩ := kOf_eq r1 ek
        cases r2 with
        | dic h1 h2 =>
          refine ⟨_, _, rfl, DGetR (rd_cut h1), ?_⟩
          rw [h2.any]
          exact q2 _ H2 (s1.trans s2) (.bl _)
    · exact q2.elim
theorem d_notInD (hu : X.A.units + 64 < cLine) (hi : PE X e (tD B W E1 f)) (ho : PE X o (tD B W E2 g)) (hm : behindInMarks .NotIn o = false := by rfl) : PE X (.Compare e [.NotIn] [o] pos) (tD B W [] (op2 dNotInD f g)) :=
  (pe_cmp (pc_dnotin (by omega) hi ho) hm).imp fun σ H Q ⟨ρ, As, S, q⟩ => by
    unfold op2 at q
    refine tD_bind S q fun a x H1 s1 S1 r1 q1 => ?_
    refine tD_bind S1 q1 fun b y H2 s2 S2 r2 q2 => ?_
    unfold dNotInD at q2
    split at q2
    · rename_i kvs
      cases ek : kOf a with
      | none => rw [ek] at q2; exact q2.elim
      | some k =>
        rw [ek] at q2
        obtain ⟨rfl, _⟩ := kOf_eq r1 ek
        cases r2 with
        | dic h1 h2 =>
          refine ⟨_, _, rfl, DGetR (rd_cut h1), ?_⟩
          rw [h2.any]
          exact q2 _ H2 (s1.trans s2) (.bl _)
    · exact q2.elim
/-- d.get(k), d.get(k, x) -/
def getE1 (f g : En → R D) : En → R D := fun ρ => (f ρ).bind fun a => match a with
  | .dic kvs => (g ρ).bind fun k => match kOf k with
    | some k => .ok (((kvs.find? fun q => keq k q.1).map (·.2)).getD .non)
    | none => .st
  | _ => .st
def getE2 (f g h : En → R D) : En → R D := fun ρ => (f ρ).bind fun a => match a with
  | .dic kvs => (g ρ).bind fun k => (h ρ).bind fun x => match kOf k with
    | some k => .ok (((kvs.find? fun q => keq k q.1).map (·.2)).getD x)
    | none => .st
  | _ => .st
theorem d_get1 (hu : X.A.units + 64 < cLine) (ho : PE X o (tD B W E1 f)) (he : PE X e (tD B W E2 g)) (m : M1 X o "get" apos e cpos := by exact ⟨rfl, rfl, rfl, rfl⟩) : PE X (.Call (.Attribute o "get" apos) [e] [] cpos) (tD B W (E1 ++ E2) (getE1 f g)) :=
  (pe_dget1 (by omega) ho he m).imp fun σ H Q ⟨ρ, As, S, q⟩ => by
    unfold getE1 at q
    refine tD_bind S q fun a x H1 s1 S1 r1 q1 => ?_
    split at q1
    · rename_i kvs
      cases r1 with
      | dic h1 h2 =>
        refine ⟨_, rfl, .inl ⟨_, rd_cut h1⟩, ?_⟩
        refine tD_bind S1 q1 fun b y H2 s2 S2 r2 q2 => ?_
        cases ek : kOf b with
        | none => rw [ek] at q2; exact q2.elim
        | some k =>
          rw [ek] at q2
          obtain ⟨rfl, _⟩ := kOf_eq r2 ek
          refine ⟨_, DGetR (Rd.same s2 (rd_cut h1)), ?_⟩
          refine q2 _ H2 (s1.trans s2) ?_
          cases ef : (kvs.find? fun q => keq k q.1).map (·.2) with
          | none => rw [h2.get.2 ef]; exact .non
          | some d =>
            obtain ⟨v, ev, rv⟩ := h2.get.1 d ef
            rw [ev]
            exact rv.up (cut_mono s2 (hid_mono fun i hi => List.mem_append_left _ hi))
    · exact q1.elim
theorem d_get2 (hu : X.A.units + 64 < cLine) (ho : PE X o (tD B W E1 f)) (he : PE X e (tD B W E2 g)) (hx : PE X vx (tD B W E3 h)) (m : M2 X o "get" apos e vx cpos := by exact ⟨rfl, rfl, rfl, rfl⟩) : PE X (.Call (.Attribute o "get" apos) [e, vx] [] cpos) (tD B W (E1 ++ (E2 ++ E3)) (getE2 f g h)) :=
  (pe_dget2 (by omega) ho he hx m).imp fun σ H Q ⟨ρ, As, S, q⟩ => by
    unfold getE2 at q
    refine tD_bind S q fun a x H1 s1 S1 r1 q1 => ?_
    split at q1
    · rename_i kvs
      cases r1 with
      | dic h1 h2 =>
        refine ⟨_, rfl, .inl ⟨_, rd_cut h1⟩, ?_⟩
        refine tD_bind S1 q1 fun b y H2 s2 S2 r2 q2 => ?_
        refine tD_bind S2 q2 fun c z H3 s3 S3 r3 q3 => ?_
        cases ek : kOf b with
        | none => rw [ek] at q3; exact q3.elim
        | some k =>
          rw [ek] at q3
          obtain ⟨rfl, _⟩ := kOf_eq r2 ek
          refine ⟨_, DGetR (Rd.same s3 (Rd.same s2 (rd_cut h1))), ?_⟩
          refine q3 _ H3 ((s1.trans s2).trans s3) ?_
          cases ef : (kvs.find? fun q => keq k q.1).map (·.2) with
          | none => rw [h2.get.2 ef]; exact r3.up (cut_mono (Same.refl _) (hid_mono fun i hi => List.mem_append_right _ (List.mem_append_right _ hi)))
          | some d =>
            obtain ⟨v, ev, rv⟩ := h2.get.1 d ef
            rw [ev]
            exact rv.up (cut_mono (s2.trans s3) (hid_mono fun i hi => List.mem_append_left _ hi))
    · exact q1.elim
/-! ## list(range(..)) -/
def rgOkL (a b : Int) : Bool := decide (0 ≤ a) && (decide (b ≤ 16777216) && (decide (a ≤ 16777216) && decide (0 ≤ b)))
theorem rgOkL_ok {a b : Int} (h : rgOkL a b = true) : RgOk a b := by
  unfold rgOkL at h
  simp only [Bool.and_eq_true, decide_eq_true_eq] at h
  exact RgOk.of_le h.1 h.2.1 h.2.2.1 h.2.2.2
def lrE1 (f : En → R D) : En → R OD := fun ρ => (f ρ).bind fun a => match a with
  | .int n => if rgOkL 0 n then .ok (lstF (rngL 0 n.toNat)) else .st
  | _ => .st
def lrE2 (f g : En → R D) : En → R OD := fun ρ => (f ρ).bind fun a => (g ρ).bind fun b => match a, b with
  | .int i, .int j => if rgOkL i j then .ok (lstF (rngL i (j - i).toNat)) else .st
  | _, _ => .st
theorem rep_rg {P : Wd} {G : Hp} (a b : Int) : RepL P G (rgV a b) (rngL a (b - a).toNat) := by
  unfold rgV rngL
  generalize (b - a).toNat = n
  have : ∀ xs : List Nat, RepL P G (xs.map fun i => V.int (a + (i : Nat))) (xs.map fun k : Nat => D.int (a + k)) := by
    intro xs
    induction xs with
    | nil => exact .nil
    | cons x xs ih => exact .cons (.int _) ih
  exact this _
theorem f_lr1 {p pos pos2 : Pos} (hc : X.calm = true) (hg : Gl X "list") (hm : X.mg "list" = none) (hg2 : Gl X "range") (hm2 : X.mg "range" = none) (ha : PE X e (tD B W E1 f)) (na : starEach [e] X.env = (false, eval e X.env) :: starEach [] X.env := by rfl)
    (na2 : starEach [.Call (.Name "range" p) [e] [] pos2] X.env = (false, eval (.Call (.Name "range" p) [e] [] pos2) X.env) :: starEach [] X.env := by rfl) {p3 : Pos} : PE X (.Call (.Name "list" p3) [.Call (.Name "range" p) [e] [] pos2] [] pos) (tF B W [] (lrE1 f)) :=
  (pe_listRg hc hg hm (prg_1 hg2 hm2 ha na) na2).imp fun σ H Q ⟨ρ, As, S, q⟩ => by
    unfold lrE1 at q
    refine tD_bind S q fun a x H1 s1 S1 r1 q1 => ?_
    split at q1
    · rename_i n
      split at q1
      · rename_i hk
        cases r1
        refine ⟨n, rfl, rgOkL_ok hk, fun p hn => ?_⟩
        refine new_lst (p := hid B As []) (S1.hth) hn ?_ fun v A H' s nA fA ro => q1 v A H' (s1.trans s) nA (fun a ha => s1.free (fA a ha)) ro
        have := rep_rg (P := B.P) (G := cut H1 (hid B As [])) 0 n
        rwa [Int.sub_zero] at this
      · exact q1.elim
    · exact q1.elim
theorem f_lr2 {e2 : Expr} {p pos pos2 : Pos} (hc : X.calm = true) (hg : Gl X "list") (hm : X.mg "list" = none) (hg2 : Gl X "range") (hm2 : X.mg "range" = none) (ha : PE X e (tD B W E1 f)) (hb : PE X e2 (tD B W E2 g)) (na : starEach [e, e2] X.env = (false, eval e X.env) :: starEach [e2] X.env := by rfl)
    (nb : starEach [e2] X.env = (false, eval e2 X.env) :: starEach [] X.env := by rfl) (hp : (backTo pos2 (starEach [e2] X.env)).any (·.1) = false := by rfl)
    (na2 : starEach [.Call (.Name "range" p) [e, e2] [] pos2] X.env = (false, eval (.Call (.Name "range" p) [e, e2] [] pos2) X.env) :: starEach [] X.env := by rfl) {p3 : Pos} : PE X (.Call (.Name "list" p3) [.Call (.Name "range" p) [e, e2] [] pos2] [] pos) (tF B W [] (lrE2 f g)) :=
  (pe_listRg hc hg hm (prg_2 hg2 hm2 ha hb na nb hp) na2).imp fun σ H Q ⟨ρ, As, S, q⟩ => by
    unfold lrE2 at q
    refine tD_bind S q fun a x H1 s1 S1 r1 q1 => ?_
    refine tD_bind S1 q1 fun b y H2 s2 S2 r2 q2 => ?_
    split at q2
    · rename_i i j
      split at q2
      · rename_i hk
        cases r1; cases r2
        refine ⟨i, j, rfl, rfl, rgOkL_ok hk, fun p hn => ?_⟩
        exact new_lst (p := hid B As []) (S2.hth) hn (rep_rg i j) fun v A H' s nA fA ro => q2 v A H' ((s1.trans s2).trans s) nA (fun a ha => (s1.trans s2).free (fA a ha)) ro
      · exact q2.elim
    · exact q2.elim
end
end DL
set_option Elab.async false
set_option linter.all false
set_option maxRecDepth 100000
namespace DLC
open PySem L2 DL
/-! ## plain: loops that may leave with a value -/
def RB (o : Option D) (ρ : En) (out : Out) : Prop := match o with
  | none => out = .nx ρ
  | some d => ∃ ρ', out = .rt (.sh d) ρ'
theorem rb_loop {α : Type} {fg : List Nat} {bnd : D → En → Option En} {body : En → Out} {c : α → D} {q : α → Option D} {ρ0 : En} {xs : List α}
    (h : ∀ x ∈ xs, ∃ ρ1, bnd (c x) ρ0 = some ρ1 ∧ RB (q x) ρ1 (body ρ1) ∧ fgt fg ρ1 = ρ0) : RB (xs.findSome? q) ρ0 (loopS fg bnd body (xs.map c) ρ0) := by
  induction xs with
  | nil => exact rfl
  | cons x xs ih =>
    obtain ⟨ρ1, e1, h1, h2⟩ := h x List.mem_cons_self
    have ih := ih fun y hy => h y (List.mem_cons_of_mem _ hy)
    rw [List.findSome?_cons, List.map_cons, loopS, e1]
    cases eq : q x with
    | none =>
      rw [eq] at h1
      have h1 : body ρ1 = .nx ρ1 := h1
      simp only
      rw [h1]
      simp only
      rw [h2]
      exact ih
    | some v =>
      rw [eq] at h1
      obtain ⟨ρ2, e2⟩ := h1
      simp only
      rw [e2]
      exact ⟨ρ2, rfl⟩
theorem rb_seq {o : Option D} {d : D} {s t : En → Out} {ρ : En} (h : RB o ρ (s ρ)) (ht : o = none → Rt (.sh d) (t ρ)) : Rt (.sh (o.getD d)) (seqS s t ρ) := by
  cases o with
  | none => exact rt_seq h (ht rfl)
  | some v =>
    obtain ⟨ρ', e⟩ := h
    exact ⟨ρ', seqS_rt e⟩
/-! ## plain: sorted of any ints -/
theorem sort_nats (ns : List Nat) : ∃ ms : List Nat, sortI (cI ns) = cI ms ∧ ms.Perm ns ∧ ms.Pairwise (· ≤ ·) := by
  have p := sortI_perm (cI ns)
  have w := sortI_pw (cI ns)
  refine ⟨(sortI (cI ns)).map Int.toNat, ?_, ?_, ?_⟩
  · unfold cI
    rw [List.map_map]
    symm
    refine (List.map_congr_left fun x hx => ?_).trans (List.map_id _)
    obtain ⟨n, _, rfl⟩ := List.mem_map.mp (p.mem_iff.mp hx)
    rfl
  · have := p.map Int.toNat
    refine this.trans ?_
    unfold cI
    rw [List.map_map]
    exact List.Perm.of_eq ((List.map_congr_left fun x _ => by show ((x : Int)).toNat = x; omega).trans (List.map_id _))
  · refine List.pairwise_map.mpr (w.imp fun h => by omega)
theorem erLf {f : En → R OD} {ρ : En} {xs : List D} (q : f ρ = .ok (lstF xs)) : erE f ρ = .ok (.lst xs) := (erE_ok q).trans (congrArg R.ok (er_lstF _))
theorem sorted_ok {f : En → R D} {ρ : En} {xs : List Nat} (h : f ρ = .ok (nL xs)) (hl : xs.length < 64) : ∃ ms : List Nat, erE (opAF fSorted (aCons f aNil)) ρ = .ok (nL ms) ∧ ms.Perm xs ∧ ms.Pairwise (· ≤ ·) := by
  obtain ⟨ms, e, p, w⟩ := sort_nats xs
  refine ⟨ms, ?_, p, w⟩
  have : fSorted [nL xs] = some (lstF ((cI ms).map .int)) := by
    rw [← iL_cI]
    show (intsOf ((cI xs).map D.int)).bind (fun ns => if decide (ns.length < 64) then some (lstF ((sortI ns).map .int)) else none) = _
    rw [intsOf_map, Option.bind_some, if_pos (by simp [cI]; omega), e]
  rw [erLf (opAF_ok h this)]
  exact congrArg R.ok (iL_cI ms)
theorem sorted_asc {f : En → R D} {ρ : En} {xs : List Nat} (h : f ρ = .ok (nL xs)) (hn : xs.Nodup) (hx : ∀ x ∈ xs, x < 60) : erE (opAF fSorted (aCons f aNil)) ρ = .ok (nL (ascB xs)) := by
  refine (erE_ok (opAF_ok h (sorted_keys hn (fun _ => Iff.rfl) hx))).trans (congrArg R.ok (er_lstF _))
def upto (n : Nat) : List Nat := (List.range n).map (· + 1)
theorem mem_upto {n k : Nat} : k ∈ upto n ↔ 1 ≤ k ∧ k ≤ n := by
  unfold upto
  rw [List.mem_map]
  constructor
  · rintro ⟨a, ha, rfl⟩
    have := List.mem_range.mp ha
    omega
  · rintro ⟨a, b⟩
    exact ⟨k - 1, List.mem_range.mpr (by omega), by omega⟩
theorem upto_pw (n : Nat) : (upto n).Pairwise (· < ·) := List.pairwise_map.mpr (List.pairwise_lt_range.imp fun h => by omega)
theorem upto_nd (n : Nat) : (upto n).Nodup := (upto_pw n).imp fun h => Nat.ne_of_lt h
theorem upto_len (n : Nat) : (upto n).length = n := by unfold upto; simp
theorem lrE2_ok {f g : En → R D} {ρ : En} {n : Nat} (h : f ρ = .ok (.int 1)) (h2 : g ρ = .ok (.int ((n : Int) + 1))) (hn : n < 1000) : erE (lrE2 f g) ρ = .ok (nL (upto n)) := by
  have q : lrE2 f g ρ = .ok (lstF (rngL 1 (((n : Int) + 1) - 1).toNat)) := by
    unfold lrE2
    rw [h, R.bind_ok, h2, R.bind_ok]
    simp only
    rw [if_pos]
    unfold rgOkL
    simp only [Bool.and_eq_true, decide_eq_true_eq]
    omega
  rw [erLf q]
  unfold nL upto rngL
  rw [List.map_map, show ((n : Int) + 1 - 1).toNat = n by omega]
  congr 2
  apply List.map_congr_left
  intro k _
  show D.int (1 + (k : Int)) = D.int ((k + 1 : Nat) : Int)
  congr 1; omega
/-! ## plain: orders -/
structure Pm (π : List Nat) (n : Nat) : Prop where
  p : π.Perm (upto n)
section
variable {π : List Nat} {n : Nat}
theorem Pm.len (h : Pm π n) : π.length = n := by rw [h.p.length_eq, upto_len]
theorem Pm.nd (h : Pm π n) : π.Nodup := h.p.nodup_iff.mpr (upto_nd n)
theorem Pm.mem (h : Pm π n) {k : Nat} : k ∈ π ↔ 1 ≤ k ∧ k ≤ n := by rw [h.p.mem_iff, mem_upto]
def pa (π : List Nat) (x : Nat) : Nat := π.getD (x - 1) 0
theorem Pm.get (h : Pm π n) {x : Nat} (h1 : 1 ≤ x) (h2 : x ≤ n) : ∃ hl : x - 1 < π.length, pa π x = π[x - 1] := by
  have hl : x - 1 < π.length := by rw [h.len]; omega
  exact ⟨hl, by unfold pa; simp [List.getD, List.getElem?_eq_getElem hl]⟩
theorem Pm.rng (h : Pm π n) {x : Nat} (h1 : 1 ≤ x) (h2 : x ≤ n) : 1 ≤ pa π x ∧ pa π x ≤ n := by
  obtain ⟨hl, e⟩ := h.get h1 h2
  rw [e]
  exact h.mem.mp (List.getElem_mem hl)
theorem Pm.idx (h : Pm π n) {x : Nat} (h1 : 1 ≤ x) (h2 : x ≤ n) : π.idxOf (pa π x) = x - 1 := by
  obtain ⟨hl, e⟩ := h.get h1 h2
  rw [e, h.nd.idxOf_getElem]
theorem Pm.inj (h : Pm π n) {x y : Nat} (h1 : 1 ≤ x) (h2 : x ≤ n) (h3 : 1 ≤ y) (h4 : y ≤ n) (e : pa π x = pa π y) : x = y := by
  have a := h.idx h1 h2
  have b := h.idx h3 h4
  rw [e, b] at a
  omega
theorem Pm.idx_lt (h : Pm π n) {j : Nat} (h1 : 1 ≤ j) (h2 : j ≤ n) : π.idxOf j < n := by
  have := List.idxOf_lt_length_iff.mpr (h.mem.mpr ⟨h1, h2⟩)
  rw [h.len] at this
  exact this
theorem Pm.pa_idx (h : Pm π n) {j : Nat} (h1 : 1 ≤ j) (h2 : j ≤ n) : pa π (π.idxOf j + 1) = j := by
  have hl := List.idxOf_lt_length_iff.mpr (h.mem.mpr ⟨h1, h2⟩)
  unfold pa
  rw [Nat.add_sub_cancel, List.getD_eq_getElem?_getD, List.getElem?_eq_getElem hl, Option.getD_some, List.getElem_idxOf hl]
theorem Pm.map_nd (h : Pm π n) {xs : List Nat} (hx : ∀ x ∈ xs, 1 ≤ x ∧ x ≤ n) (hn : xs.Nodup) : (xs.map (pa π)).Nodup := by
  induction xs with
  | nil => simp
  | cons x xs ih =>
    rw [List.map_cons, List.nodup_cons]
    rw [List.nodup_cons] at hn
    refine ⟨fun z => hn.1 ?_, ih (fun y hy => hx y (List.mem_cons_of_mem _ hy)) hn.2⟩
    obtain ⟨y, hy, e⟩ := List.mem_map.mp z
    have a := hx x List.mem_cons_self
    have b := hx y (List.mem_cons_of_mem _ hy)
    rw [h.inj a.1 a.2 b.1 b.2 e.symm]; exact hy
end
theorem le_uniq {xs ys : List Nat} (p : xs.Perm ys) (hx : xs.Pairwise (· ≤ ·)) (hy : ys.Pairwise (· ≤ ·)) : xs = ys :=
  List.Perm.eq_of_pairwise (le := (· ≤ ·)) (fun a b _ _ h1 h2 => Nat.le_antisymm h1 h2) hx hy p
theorem erK_map : ∀ kvs : List (D × OD), OD.erK kvs = kvs.map fun q => (q.1, q.2.er)
  | [] => by simp [OD.erK]
  | (k, x) :: kvs => by rw [OD.erK, erK_map kvs]; rfl
theorem er_dic (kvs : List (D × OD)) : (OD.dic kvs).er = .dic (kvs.map fun q => (q.1, q.2.er)) := by rw [OD.er, erK_map]
/-- xs[x - 1], x an int from 1 on -/
theorem ix_pa {f g : En → R D} {ρ : En} {π : List Nat} {n x : Nat} (h : Pm π n) (h1 : 1 ≤ x) (h2 : x ≤ n) (hf : f ρ = .ok (nL π)) (hg : g ρ = .ok (.int x)) : op2 dIx f (op2 dSub g (con (.int 1))) ρ = .ok (.int (pa π x : Nat)) := by
  obtain ⟨hl, e⟩ := h.get h1 h2
  refine op2_ok hf (op2_ok hg (b := .int 1) rfl (d := .int ((x - 1 : Nat) : Int)) (by rw [show ((x - 1 : Nat) : Int) = (x : Int) - 1 by omega]; rfl)) ?_
  show L2.atI (π.map fun n : Nat => D.int n) ((x - 1 : Nat) : Int) = _
  rw [atI_nat _ _ (by simpa using hl), e]; simp
end DLC
set_option Elab.async false
set_option linter.all false
set_option maxRecDepth 100000
set_option maxHeartbeats 0
namespace L2
open PySem PySem.Spec PyProof.Rows
/-! ## sorted(set(xs)), xs a list of ints -/
section
variable {P : Program} {w : World} {A : Around} {E : Value → Shared → Prop} {s : Shared}
theorem set_of_ints {l : Addr} {items : Array Value} (ns : List Int) {Q : Value → Shared → Prop} (hh : A.handled = none) (hl : s.heap.IsList l items) (hit : IntsAre items.toList ns) (hb : ns.length + 1 < scanBound)
    (h : ∀ (h' : Heap) (tk c : Nat), SetR w h' s.heap.objs.size (fun j => decide (j ∈ ns)) c → c ≤ ns.length → (∀ b o, s.heap.get? b = some o → h'.get? b = some o) → Q (.ref s.heap.objs.size) { s with heap := h', toks := tk }) :
    wpAny (model P w) A (call (.type "set") [.ref l]) Q E s := by
  have hsz : items.size = ns.length := by have q := IntsAre.length hit; rwa [Array.length_toList] at q
  obtain ⟨c, tl, hmro⟩ := F.called_set.mro
  have hmade := F.called_set.made
  have hsub := F.called_set.sub
  refine wpAny_call (codeAny_of_tree ?_)
  show wpAny _ _ (callAny (.type "set") _) _ _ _
  refine wpAny_pure ⟨Code.quiet_builtin _ (by decide +kernel), codeAny_builtin F.entry_type_call ?_⟩
  rw [Around.under_plain (weight_type_call_type "set" [.ref l] []) rfl]
  have h1 := F.called_set.notType
  have h2 := F.called_set.canCreate
  have hct := F.typeCall_set_1 (.ref l)
  repeat (any_goals (first | assumption | wp_step))
  refine codeAny_mono (code_set_led1 (.ref l) (E := E) (Q₁ := fun v s₁ => v = .ref s.heap.objs.size ∧ s₁ = { s with heap := s.heap.push { cls := .type "set", dict := none, data := .set #[] 0 (.fresh 0 0 (!w.params.followText "set-order")) } }) ⟨rfl, rfl⟩) fun r s₁ hr => ?_
  cases r with
  | error e => exact hr
  | ok fl =>
    cases fl with
    | ret v =>
      obtain ⟨rfl, rfl⟩ := hr
      have hS : (s.heap.push { cls := .type "set", dict := none, data := .set #[] 0 (.fresh 0 0 (!w.params.followText "set-order")) }).get? s.heap.objs.size = some { cls := .type "set", dict := none, data := .set #[] 0 (.fresh 0 0 (!w.params.followText "set-order")) } := Heap.get?_push_size _ rfl
      have hT : Shared.TypeIs { s with heap := s.heap.push { cls := .type "set", dict := none, data := .set #[] 0 (.fresh 0 0 (!w.params.followText "set-order")) } } (.ref s.heap.objs.size) "set" := ⟨_, hS, rfl⟩
      have hli := F.called_set.init.lookup
      have hbi := F.called_set.init.bind (.ref s.heap.objs.size)
      repeat (any_goals (first | assumption | wp_step))
      refine codeAny_mono (codeAny_call_builtin (R := wants (fun r s₂ => r = .none ∧ ∃ h' tk c, s₂ = { s with heap := h', toks := tk } ∧ SetR w h' s.heap.objs.size (fun j => decide (j ∈ ns)) c ∧ c ≤ ns.length ∧
          (∀ b o, s.heap.get? b = some o → h'.get? b = some o)) E) F.called_set.init.plain F.entry_set_init (check_set_init_1 hT ?_)) fun r₂ s₂ hr₂ => ?_
      · obtain ⟨ol, hol, hcl, nl, hdl⟩ := hl
        obtain ⟨ocls, odict, odata, oslots⟩ := ol
        simp only at hcl hdl
        subst hcl hdl
        have hol' : (s.heap.push { cls := .type "set", dict := none, data := .set #[] 0 (.fresh 0 0 (!w.params.followText "set-order")) }).get? l = some { cls := .type "list", dict := odict, data := .seq items nl, slots := oslots } := Heap.get?_push_of_some _ hol
        have hsls := F.sub_list_set
        have hslf := F.sub_list_frozenset
        have hne : (Value.type "list" == Value.type "dict") = false := by decide
        have hl1 : (s.heap.push { cls := .type "set", dict := none, data := .set #[] 0 (.fresh 0 0 (!w.params.followText "set-order")) }).IsList l items := ⟨_, hol', rfl, nl, rfl⟩
        unfold Builtin.«set.__init__» noKeywords Builtin.Frozenset.updateFrom
        generalize hPI : pyIter = PI
        wp_walk
        subst hPI
        refine wpAny_pyIter_list hl1 ?_
        refine wpAny_bind (wpAny_runValue ?_)
        have hlS : l < s.heap.objs.size := Heap.lt_size hol
        have hh3 : A.in1.in1.in1.handled = none := by simp [hh]
        have hneI : l ≠ (s.heap.push { cls := .type "set", dict := none, data := .set #[] 0 (.fresh 0 0 (!w.params.followText "set-order")) }).objs.size := by rw [Heap.size_push]; exact Nat.ne_of_lt (Nat.lt_succ_of_lt hlS)
        have hSf : s.heap.objs.size ∉ [(s.heap.push { cls := .type "set", dict := none, data := .set #[] 0 (.fresh 0 0 (!w.params.followText "set-order")) }).objs.size, l] := by
          rw [Heap.size_push]; simp only [List.mem_cons, List.not_mem_nil, or_false, not_or]
          exact ⟨Nat.ne_of_lt (Nat.lt_succ_self _), Nat.ne_of_gt hlS⟩
        have hval : ∀ (i : Nat) (v : Value), items[i]? = some v → ∃ k t, ns[i]? = some k ∧ v = .int k t := fun i v hv => by
          have hi : i < ns.length := by rw [← hsz]; exact (Array.getElem?_eq_some_iff.mp hv).1
          obtain ⟨t, e⟩ := IntsAre.int_at hit i v (by rw [Array.getElem?_toList]; exact hv)
          refine ⟨ns[i], t, List.getElem?_eq_getElem hi, ?_⟩
          rw [e, List.getD_eq_getElem?_getD, List.getElem?_eq_getElem hi] <;> rfl
        refine set_update_ints ((Walks.list hh3 _ l hneI items).toS) s.heap.objs.size hSf ns hsz hb hval (items.size - 0) 0 _ (by omega) (Nat.zero_le _) ⟨⟨_, Heap.get?_push_size _ rfl, rfl, rfl⟩, (hl1.push _)⟩ ?hS0 ?hR
        case hS0 =>
          refine ⟨0, Nat.le_refl 0, setR_new_at ?_⟩
          exact Heap.get?_push_of_some _ hS
        case hR =>
          intro s' c' hm hc' hS'
          obtain ⟨h', g2, d', tk', os'⟩ := s'
          have eg : g2 = s.gens := hm.gens
          have ed : d' = s.drawn := hm.drawn
          have eo : os' = s.os := hm.os
          subst eg ed eo
          show wpAny _ _ _ _ _ _
          refine wpAny_pure ?_
          show wpAny _ _ (ret Value.none) _ _ _
          rw [hsz] at hc'
          refine wpAny_pure ⟨rfl, h', tk', c', rfl, hS', hc', fun b o e => ?_⟩
          have hb0 : b < s.heap.objs.size := Heap.lt_size e
          exact hm.heap b o (by rw [Heap.size_push]; simp only [List.mem_cons, List.not_mem_nil, or_false, not_or]; exact ⟨Nat.ne_of_lt hb0, Nat.ne_of_lt (Nat.lt_succ_of_lt hb0)⟩) (Heap.get?_push_of_some _ (Heap.get?_push_of_some _ e))
      · cases r₂ with
        | error e => exact hr₂
        | ok fl₂ =>
          cases fl₂ with
          | ret r =>
            obtain ⟨rfl, h', tk, c', rfl, hS', hc', hk'⟩ := hr₂
            repeat (any_goals (first | assumption | wp_step))
            exact h _ _ _ hS' hc' hk'
          | _ => exact hr₂.elim
    | _ => exact hr.elim
end
end L2
namespace DL
open PySem PySem.Spec PyProof.Rows L2
def rSS (K : PySem.W.Frag) : List V → Hp → VK → Prop := fun vs H Q => ∃ (a : Addr) (ns : List Int), vs = [V.ref a] ∧ SqL K H a (ns.map V.int) ∧ ns.length < 64 ∧
  ∀ (out : List Int) (p : Addr), out.Pairwise (· < ·) → (∀ k, k ∈ out ↔ k ∈ ns) → H p = none → Q (.ref p) (upd H p (.lst (out.map V.int)))
section
variable {X : Cx} {e : Expr} {ta : TA} {p p2 pos pos2 : Pos}
theorem pe_sset (hc : X.calm = true) (gl : Gl X "sorted") (hm : X.mg "sorted" = none) (gl2 : Gl X "set") (hm2 : X.mg "set" = none) (ha : PA X [e] ta)
    (he : starEach [e] X.env = (false, eval e X.env) :: starEach [] X.env := by rfl)
    (he2 : starEach [.Call (.Name "set" p2) [e] [] pos2] X.env = (false, eval (.Call (.Name "set" p2) [e] [] pos2) X.env) :: starEach [] X.env := by rfl) :
    PE X (.Call (.Name "sorted" p) [.Call (.Name "set" p2) [e] [] pos2] [] pos) (tCB (rSS X.K) ta) := by
  refine ⟨fun pins s σ H Q I h => ?_⟩
  refine wpAny_Call_Name_kw (ld_blt I gl hm (by rfl) ?_)
  refine PyProof.Rows.callWith_builtin1 ?_ he2 rfl
  rw [he2]
  show wpAny _ _ (spliced ((false, eval (.Call (.Name "set" p2) [e] [] pos2) X.env) :: backTo pos (starEach [] X.env))) _ _ s
  refine Calls.spliced_cons ?_
  refine wpAny_Call_Name_kw (ld_blt I gl2 hm2 PyProof.Rows.boot_set ?_)
  refine PyProof.Rows.callWith_type1 (thn (ha.run pos2 pins s σ H _ I h) fun us s1 ⟨vs, H1, I1, r1, q1⟩ => ?_) he rfl
  obtain ⟨p0, ns, e1, hq, hl, q⟩ := q1
  subst e1
  obtain ⟨u, rfl, ru⟩ := r1.one
  cases ru
  obtain ⟨its, rv, ⟨o, n, ho, hcl, hdn, hd⟩, hlen⟩ := I1.list hq
  have hi : IntsAre its.toArray.toList ns := ints_of_vals rv
  have hdl := I1.ok.hd hc
  refine set_of_ints ns hdl ⟨o, ho, hcl, n, hd⟩ hi (by unfold scanBound; omega) fun h' tk c R1 hcn k => ?_
  have I2 : Inv X pins σ H1 { s1 with heap := h', toks := tk } := I1.kept k
  refine Calls.spliced_nil ?_
  refine sorted_set R1 (I2.ok.hd hc) (by omega) fun s' p1 out c2 ms k2 g2 o2 hp hget hints hpw hmem hlen2 => ?_
  have I3 : Inv X pins σ H1 { s' with heap := h' } := I2.call' (ch := []) o2 (Un.kept fun b u e => e) (I2.hok.kept fun b u e => e) (by show AllBare s'.gens; rw [g2]; exact I2.bare) (fun _ z => nomatch z)
  have hfr : H1 p1 = none := I2.hok.fresh hp
  refine ⟨.ref p1, upd H1 p1 (.lst (ms.map V.int)), I3.laid (h' := s'.heap) (t' := s'.toks) k2 hp (show ObjOk X.prog X.w _ _ _ (.lst (ms.map V.int)) from ⟨?_, out.toList, c2, vals_of_ints hints, by rw [Array.toArray_toList]; exact hget⟩), rfl, q ms p1 hpw (fun j => by rw [hmem j, decide_eq_true_eq]) hfr⟩
  rw [List.length_map, hlen2, sizeLine_eq]; omega
end
def nubI : List Int → List Int
  | [] => []
  | x :: xs => if x ∈ xs then nubI xs else x :: nubI xs
theorem nubI_mem (k : Int) : ∀ xs : List Int, k ∈ nubI xs ↔ k ∈ xs
  | [] => Iff.rfl
  | x :: xs => by
    unfold nubI
    split
    · rename_i h
      rw [nubI_mem k xs, List.mem_cons]
      exact ⟨.inr, fun z => z.elim (fun e => e ▸ h) id⟩
    · rw [List.mem_cons, List.mem_cons, nubI_mem k xs]
theorem nubI_nd : ∀ xs : List Int, (nubI xs).Nodup
  | [] => List.nodup_nil
  | x :: xs => by
    unfold nubI
    split
    · exact nubI_nd xs
    · rename_i h
      exact List.nodup_cons.mpr ⟨fun z => h ((nubI_mem x xs).mp z), nubI_nd xs⟩
def fSSet : List D → Option OD
  | [.lst xs] => (intsOf xs).bind fun ns => if decide (ns.length < 64) then some (lstF ((sortI (nubI ns)).map .int)) else none
  | _ => none
theorem ad_sset {P : Wd} : AdFA P (rSS P.K) fSSet := fun p H vs a d Q hp r e q => by
  unfold fSSet at e
  split at e
  · obtain ⟨v, rfl, rv⟩ := r.oneE
    obtain ⟨l, ws, rfl, hl, rl⟩ := rv.lstE
    rename_i xs
    cases ei : intsOf xs with
    | none => rw [ei] at e; cases e
    | some ns =>
      rw [ei, Option.bind_some] at e
      split at e
      · rename_i h64
        cases e
        have ex := intsOf_eq ei
        subst ex
        have ew : ws = ns.map V.int := RepL.ints rl
        subst ew
        refine ⟨l, ns, rfl, .inl (rd_cut hl), of_decide_eq_true h64, fun out p' pw hm hn => ?_⟩
        have nd1 : out.Nodup := pw.imp fun h => by omega
        have pm : out.Perm (nubI ns) := (List.perm_ext_iff_of_nodup nd1 (nubI_nd ns)).mpr fun k => by rw [hm, nubI_mem]
        have en : out = sortI (nubI ns) := perm_sorted (pm.trans (sortI_perm _).symm) (pw.imp fun h => by omega) (sortI_pw _)
        subst en
        exact new_lst hp hn (RepL.of_ints _) q
      · cases e
  · cases e
section
variable {X : Cx} {B : Bs} {W : WX} {E : List Nat} {fa : En → R (List D)} {e : Expr} {pos p p2 pos2 : Pos}
theorem f_sset (hK : B.P.K = X.K) (hc : X.calm = true) (gl : Gl X "sorted") (hm : X.mg "sorted" = none) (gl2 : Gl X "set") (hm2 : X.mg "set" = none) (ha : PA X [e] (tA B W E fa))
    (he : starEach [e] X.env = (false, eval e X.env) :: starEach [] X.env := by rfl)
    (he2 : starEach [.Call (.Name "set" p2) [e] [] pos2] X.env = (false, eval (.Call (.Name "set" p2) [e] [] pos2) X.env) :: starEach [] X.env := by rfl) : PE X (.Call (.Name "sorted" p) [.Call (.Name "set" p2) [e] [] pos2] [] pos) (tF B W E (opAF fSSet fa)) :=
  (pe_sset hc gl hm gl2 hm2 ha he he2).imp fun _ _ _ => imp_oAF (by rw [← hK]; exact ad_sset)
end
end DL
set_option Elab.async false
set_option linter.all false
set_option maxRecDepth 100000
set_option maxHeartbeats 0
namespace DL
open PySem PySem.Spec PyProof.Rows L2
/-! ## sorted of texts -/
def insS (x : List Nat) : List (List Nat) → List (List Nat)
  | [] => [x]
  | y :: ys => if y < x then y :: insS x ys else x :: y :: ys
def sortS : List (List Nat) → List (List Nat)
  | [] => []
  | x :: xs => insS x (sortS xs)
theorem insS_perm (x : List Nat) : ∀ ys, (insS x ys).Perm (x :: ys)
  | [] => List.Perm.refl _
  | y :: ys => by
    unfold insS
    split
    · exact ((insS_perm x ys).cons y).trans (List.Perm.swap x y ys)
    · exact List.Perm.refl _
theorem sortS_perm : ∀ xs, (sortS xs).Perm xs
  | [] => List.Perm.refl _
  | x :: xs => (insS_perm x (sortS xs)).trans ((sortS_perm xs).cons x)
theorem le_tr {a b c : List Nat} (h : a ≤ b) (h2 : b ≤ c) : a ≤ c := List.le_trans h h2
theorem insS_pw (x : List Nat) : ∀ ys : List (List Nat), ys.Pairwise (· ≤ ·) → (insS x ys).Pairwise (· ≤ ·)
  | [], _ => List.pairwise_singleton _ _
  | y :: ys, h => by
    rw [List.pairwise_cons] at h
    unfold insS
    split
    · rename_i c
      rw [List.pairwise_cons]
      refine ⟨fun a ha => ?_, insS_pw x ys h.2⟩
      rcases List.mem_cons.mp ((insS_perm x ys).mem_iff.mp ha) with rfl | ha
      · exact List.le_of_lt c
      · exact h.1 a ha
    · rename_i c
      have c : x ≤ y := List.not_lt.mp c
      rw [List.pairwise_cons]
      refine ⟨fun a ha => ?_, List.pairwise_cons.mpr h⟩
      rcases List.mem_cons.mp ha with rfl | ha
      · exact c
      · exact le_tr c (h.1 a ha)
theorem sortS_pw : ∀ xs, (sortS xs).Pairwise (· ≤ ·)
  | [] => List.Pairwise.nil
  | x :: xs => insS_pw x _ (sortS_pw xs)
theorem perm_sortedS : ∀ {xs ys : List (List Nat)}, xs.Perm ys → xs.Pairwise (· ≤ ·) → ys.Pairwise (· ≤ ·) → xs = ys
  | [], ys, h, _, _ => h.nil_eq
  | x :: xs, [], h, _, _ => absurd h.length_eq (by simp)
  | x :: xs, y :: ys, h, h1, h2 => by
    have p1 := List.pairwise_cons.mp h1
    have p2 := List.pairwise_cons.mp h2
    have e : x = y := by
      have a := h.mem_iff.mp (List.mem_cons_self (a := x) (l := xs))
      have b := h.mem_iff.mpr (List.mem_cons_self (a := y) (l := ys))
      rcases List.mem_cons.mp a with a | a
      · exact a
      · rcases List.mem_cons.mp b with b | b
        · exact b.symm
        · exact List.le_antisymm (p1.1 y b) (p2.1 x a)
    subst e
    rw [perm_sortedS (List.Perm.cons_inv h) p1.2 p2.2]
theorem rising_pw : ∀ (xs : List Str) (p : Str), risingS p xs = true → (p :: xs).Pairwise (fun a b => a.cps.toList ≤ b.cps.toList)
  | [], p, _ => List.pairwise_singleton _ _
  | x :: r, p, h => by
    unfold risingS at h
    rw [Bool.and_eq_true, ltCps_eq, Bool.not_eq_true', decide_eq_false_iff_not] at h
    have c : p.cps.toList ≤ x.cps.toList := List.not_lt.mp h.1
    have q := rising_pw r x h.2
    rw [List.pairwise_cons]
    refine ⟨fun a ha => ?_, q⟩
    rcases List.mem_cons.mp ha with rfl | ha
    · exact c
    · exact le_tr c ((List.pairwise_cons.mp q).1 a ha)
theorem sortedS_pw : ∀ (xs : List Str), sortedS xs = true → xs.Pairwise (fun a b => a.cps.toList ≤ b.cps.toList)
  | [], _ => List.Pairwise.nil
  | x :: r, h => rising_pw r x h
theorem RepL.of_strs {P : Wd} {G : Hp} : ∀ xs : List Str, RepL P G (xs.map V.str) ((xs.map fun x => x.cps.toList).map D.str)
  | [] => .nil
  | x :: xs => .cons (.str x) (RepL.of_strs xs)
def fSortedS : List D → Option OD
  | [.lst xs] => (strsOf xs).bind fun ss => if decide (ss.length < 64) then some (lstF ((sortS ss).map .str)) else none
  | _ => none
theorem ad_sortedS {P : Wd} : AdFA P (rSortedS P.K) fSortedS := fun p H vs a d Q hp r e q => by
  unfold fSortedS at e
  split at e
  · obtain ⟨v, rfl, rv⟩ := r.oneE
    obtain ⟨l, ws, rfl, hl, rl⟩ := rv.lstE
    rename_i xs
    cases ei : strsOf xs with
    | none => rw [ei] at e; cases e
    | some ss =>
      rw [ei, Option.bind_some] at e
      split at e
      · rename_i h64
        cases e
        have ex := strsOf_eq ei
        subst ex
        obtain ⟨zs, rfl, ez⟩ := RepL.strs rl
        have hlz : zs.length = ss.length := by rw [← ez, List.length_map]
        refine ⟨l, zs, rfl, .inl (rd_cut hl), by rw [hlz]; exact of_decide_eq_true h64, fun ys p' pm so hn => ?_⟩
        have en : ys.map (fun x => x.cps.toList) = sortS ss := by
          refine perm_sortedS (((pm.map _).trans (by rw [ez])).trans (sortS_perm ss).symm) ?_ (sortS_pw ss)
          exact List.pairwise_map.mpr (sortedS_pw ys so)
        rw [← en] at q
        exact new_lst hp hn (RepL.of_strs ys) q
      · cases e
  · cases e
section
variable {X : Cx} {B : Bs} {W : WX} {E : List Nat} {fa : En → R (List D)} {e : Expr} {pos p : Pos}
theorem f_sortedS (hK : B.P.K = X.K) (gl : Gl X "sorted") (hm : X.mg "sorted" = none) (ha : PA X [e] (tA B W E fa)) (he : starEach [e] X.env = (false, eval e X.env) :: starEach [] X.env := by rfl) : PE X (.Call (.Name "sorted" p) [e] [] pos) (tF B W E (opAF fSortedS fa)) :=
  f_callB (by rw [hK]; exact cr_sortedS) ad_sortedS gl hm (by rfl) ha (by decide) (by decide) he
end
/-! ## dict(d) -/
def rDictC : List V → Hp → VK → Prop := fun xs H Q => ∃ (a : Addr) (kvs : List (Key × V)), xs = [.ref a] ∧ Rd H a (.dK kvs) ∧ ∀ p, H p = none → Q (.ref p) (upd H p (.dK kvs))
def fDict : List D → Option OD
  | [.dic kvs] => some (.sh (.dic kvs))
  | _ => none
theorem new_dic {P : Wd} {p : Addr → Prop} {H : Hp} {a : Addr} {kvs : List (Key × V)} {ds : List (D × D)} {Q : VK} (hp : ∀ a, p a → H a ≠ none) (hn : H a = none) (r : RepK P (cut H p) kvs ds)
    (q : ∀ v A H', Same H H' → A.Nodup → (∀ a ∈ A, H a = none) → RepO P (cut H' fun a => p a ∨ a ∈ A) H' v (.sh (.dic ds)) A → Q v H') : Q (.ref a) (upd H a (.dK kvs)) := by
  have s : Same H (upd H a (.dK kvs)) := fun b o e => by rw [upd_ne (ne_of_none e hn)]; exact e
  refine q _ [] _ s List.nodup_nil (fun b hb => nomatch hb) (.sh (.dic (.inl (cut_of (fun z => ?_) upd_same)) (RepK.mono (fun b o e => ?_) _ _ r)))
  · rcases z with z | z
    · exact hp a z hn
    · cases z
  · obtain ⟨h1, h2⟩ := cut_some e
    refine cut_of (fun z => ?_) (s b o h2)
    rcases z with z | z
    · exact h1 z
    · cases z
theorem ad_dictC {P : Wd} : AdFA P rDictC fDict := fun p H vs a d Q hp r e q => by
  unfold fDict at e
  split at e
  · obtain ⟨v, rfl, rv⟩ := r.oneE
    cases e
    cases rv with
    | dic h1 h2 => exact ⟨_, _, rfl, rd_cut h1, fun l hn => new_dic hp hn h2 q⟩
  · cases e
section
variable {X : Cx} {B : Bs} {W : WX} {E : List Nat} {fa : En → R (List D)} {e : Expr} {pos p : Pos}
theorem f_dictC (gl : Gl X "dict") (hm : X.mg "dict" = none) (ha : PA X [e] (tA B W E fa)) (he : starEach [e] X.env = (false, eval e X.env) :: starEach [] X.env := by rfl) : PE X (.Call (.Name "dict" p) [e] [] pos) (tF B W E (opAF fDict fa)) :=
  f_callT call_dictD ad_dictC gl hm (by rfl) ha (by decide) (by decide) he
end
theorem R.bind2 {α β γ : Type} (r : R α) (f : α → R β) (g : β → R γ) : (r.bind f).bind g = r.bind fun x => (f x).bind g := by cases r <;> rfl
section
variable {X : Cx} {B : Bs} {W : WX} {E1 E2 : List Nat} {f g : En → R D} {o e : Expr} {pos : Pos}
theorem t_inD (hu : X.A.units + 64 < cLine) (hi : PE X e (tD B W E1 f)) (ho : PE X o (tD B W E2 g)) (hm : behindInMarks .In o = false := by rfl) : PT X (.Compare e [.In] [o] pos) (tT B W (tst (op2 dInD f g))) :=
  (pt_cmp (pc_din (by omega) hi ho) hm).imp fun σ H Q ⟨ρ, As, S, q⟩ => by
    unfold tst op2 at q
    rw [R.bind2] at q
    refine tD_bind S q fun a x H1 s1 S1 r1 q1 => ?_
    rw [R.bind2] at q1
    refine tD_bind S1 q1 fun b y H2 s2 S2 r2 q2 => ?_
    unfold dInD at q2
    split at q2
    · rename_i kvs
      cases ek : kOf a with
      | none => rw [ek] at q2; exact q2.elim
      | some k =>
        rw [ek] at q2
        obtain ⟨rfl, _⟩ := kOf_eq r1 ek
        cases r2 with
        | dic h1 h2 =>
          refine ⟨_, _, rfl, DGetR (rd_cut h1), ?_⟩
          rw [h2.any]
          exact ⟨_, rfl, q2 H2 (s1.trans s2)⟩
    · exact q2.elim
theorem t_notInD (hu : X.A.units + 64 < cLine) (hi : PE X e (tD B W E1 f)) (ho : PE X o (tD B W E2 g)) (hm : behindInMarks .NotIn o = false := by rfl) : PT X (.Compare e [.NotIn] [o] pos) (tT B W (tst (op2 dNotInD f g))) :=
  (pt_cmp (pc_dnotin (by omega) hi ho) hm).imp fun σ H Q ⟨ρ, As, S, q⟩ => by
    unfold tst op2 at q
    rw [R.bind2] at q
    refine tD_bind S q fun a x H1 s1 S1 r1 q1 => ?_
    rw [R.bind2] at q1
    refine tD_bind S1 q1 fun b y H2 s2 S2 r2 q2 => ?_
    unfold dNotInD at q2
    split at q2
    · rename_i kvs
      cases ek : kOf a with
      | none => rw [ek] at q2; exact q2.elim
      | some k =>
        rw [ek] at q2
        obtain ⟨rfl, _⟩ := kOf_eq r1 ek
        cases r2 with
        | dic h1 h2 =>
          refine ⟨_, _, rfl, DGetR (rd_cut h1), ?_⟩
          rw [h2.any]
          exact ⟨_, rfl, q2 H2 (s1.trans s2)⟩
    · exact q2.elim
end
/-! ## {"a": n, ..} of ints that are written out -/
def dispE (ds : List (List Nat × Int)) : En → R OD := fun _ => .ok (.sh (.dic (ds.map fun q => (D.str q.1, D.int q.2))))
section
variable {X : Cx} {B : Bs} {W : WX} {e e1 e2 : Expr} {pos : Pos}
theorem c_neg {i : Int} (h : PE X e (tC (.int i))) : PE X (.UnaryOp .USub e pos) (tC (.int (-i))) := (pe_un un_neg h).imp fun σ H Q q => ⟨i, rfl, q⟩
theorem c_pow {i j : Int} (h1 : PE X e1 (tC (.int i))) (h2 : PE X e2 (tC (.int j))) (hc : CPow i j) : PE X (.BinOp e1 .Pow e2 pos) (tC (.int (i ^ j.toNat))) := (pe_op op_pow h1 h2).imp fun σ H Q q => ⟨i, j, rfl, rfl, hc, q⟩
theorem tP_con : ∀ (kvs : List (Str × Int)) (σ : L2.St) (H : Hp) (Q : List (V × V) → Hp → Prop), Q (kvs.map fun q => (V.str q.1, V.int q.2)) H → tPairs (kvs.map fun q => (tC (.str q.1), tC (.int q.2))) σ H Q
  | [], _, _, _, h => h
  | q :: r, σ, H, Q, h => tP_con r σ H _ h
theorem rep_con {P : Wd} {G : Hp} : ∀ {kvs : List (Str × Int)} {ds : List (List Nat × Int)}, kvs.map (fun q => (q.1.cps.toList, q.2)) = ds → RepK P G (kvs.map fun q => ((Sum.inr q.1 : Key), V.int q.2)) (ds.map fun q => (D.str q.1, D.int q.2))
  | [], _, h => by subst h; exact .nil
  | q :: r, _, h => by
    subst h
    exact .cons (k := Sum.inr q.1) (.int q.2) (rep_con rfl)
theorem merge_nd : ∀ (kvs acc : List (Key × V)), ((acc ++ kvs).map (·.1)).Nodup → mergeK acc kvs = acc ++ kvs
  | [], acc, _ => by rw [List.append_nil]; rfl
  | q :: r, acc, h => by
    have : putK acc q.1 q.2 = acc ++ [q] := by
      unfold putK
      rw [if_neg]
      rw [Bool.not_eq_true, List.any_eq_false]
      intro z hz e
      have e := of_decide_eq_true e
      rw [List.map_append, List.nodup_append] at h
      exact h.2.2 z.1 (List.mem_map_of_mem hz) q.1 (by simp) e
    show mergeK (putK acc q.1 q.2) r = _
    rw [this, merge_nd r (acc ++ [q]) (by rw [List.append_assoc]; exact h), List.append_assoc]; rfl
theorem f_disp {keys : List (Option Expr)} {values : List Expr} (kvs : List (Str × Int)) (ds : List (List Nat × Int)) (h : PPs X pos keys values (kvs.map fun q => (tC (.str q.1), tC (.int q.2)))) (hall : keys.all (·.isSome) = true) (hl : keys.length = values.length) (h0 : keys ≠ [])
    (h15 : keys.length ≤ 15) (hk : kvs.length ≤ 15) (hd : kvs.map (fun q => (q.1.cps.toList, q.2)) = ds) (nd : (kvs.map (·.1)).Nodup) : PE X (.Dict keys values pos) (tF B W [] (dispE ds)) :=
  (pe_disp h hall hl h0 h15).imp fun σ H Q ⟨ρ, As, S, q⟩ => by
    intro p hn
    refine tP_con kvs σ _ _ ⟨upd_same, kvs.map (fun q => ((Sum.inr q.1 : Key), V.int q.2)), by rw [List.map_map]; rfl, by rw [List.length_map]; exact hk, ?_⟩
    rw [merge_nd _ [] (by
      rw [List.nil_append, List.map_map]
      have := nd
      rw [List.nodup_iff_pairwise_ne] at this ⊢
      rw [List.pairwise_map] at this ⊢
      exact this.imp fun hne he => hne (by injection he)), List.nil_append]
    have eu : upd (upd H p (.dK [])) p (.dK (kvs.map fun q => ((Sum.inr q.1 : Key), V.int q.2))) = upd H p (.dK (kvs.map fun q => ((Sum.inr q.1 : Key), V.int q.2))) := by
      funext b
      unfold upd
      split <;> rfl
    rw [eu]
    exact new_dic (p := hid B As []) S.hth hn (rep_con hd) (fun v A H' s nA fA r => q v A H' s nA fA r)
end
end DL
set_option Elab.async false
set_option linter.all false
set_option maxRecDepth 100000
set_option maxHeartbeats 0
namespace DL
open PySem PySem.Spec PyProof.Rows L2
/-! ## for k in d: the dict is locked meanwhile -/
structure Lk (G G' : Hp) (d : Addr) (ks : List (Key × V)) : Prop where
  ne : ∀ a, a ≠ d → G' a = G a
  g : Rd G d (.dK ks)
  g' : Rd G' d (.dK ks)
section
variable {P : Wd} {G G' H H' : Hp} {d : Addr} {ks : List (Key × V)}
theorem Lk.get (L : Lk G G' d ks) {a : Addr} {o : HO} (h : G a = some o) (h1 : o ≠ .dK ks) (h2 : ∀ o', o ≠ .frz o' (.dK ks)) : G' a = some o := by
  by_cases e : a = d
  · subst e
    rcases L.g with g | ⟨o', g⟩
    · rw [g] at h; cases h; exact absurd rfl h1
    · rw [g] at h; cases h; exact absurd rfl (h2 o')
  · rw [L.ne a e]; exact h
theorem Lk.rd (L : Lk G G' d ks) {a : Addr} {u : HO} (h : Rd G a u) (hu : ∀ o', u ≠ .frz o' (.dK ks)) : Rd G' a u := by
  by_cases e : a = d
  · subst e
    rcases L.g with g | ⟨o', g⟩
    · rcases h with h | ⟨o, h⟩
      · rw [g] at h; cases h; exact L.g'
      · rw [g] at h; cases h
    · rcases h with h | ⟨o, h⟩
      · rw [g] at h; cases h; exact absurd rfl (hu o')
      · rw [g] at h; cases h; exact L.g'
  · rcases h with h | ⟨o, h⟩
    · exact .inl (by rw [L.ne a e]; exact h)
    · exact .inr ⟨o, by rw [L.ne a e]; exact h⟩
theorem Lk.sqT (L : Lk G G' d ks) {a : Addr} {xs : List V} (h : SqT P.K G a xs) : SqT P.K G' a xs := h.imp (fun h => L.rd h fun _ => nofun) id
theorem Lk.sqL (L : Lk G G' d ks) {a : Addr} {xs : List V} (h : SqL P.K G a xs) : SqL P.K G' a xs := h.imp (fun h => L.rd h fun _ => nofun) id
mutual
theorem Rep.lk (L : Lk G G' d ks) : ∀ (x : D) (v : V), Rep P G v x → Rep P G' v x
  | .non, _, h => by cases h; exact .non
  | .bl _, _, h => by cases h; exact .bl _
  | .int _, _, h => by cases h; exact .int _
  | .str _, _, h => by cases h; exact .str _
  | .lst ds, _, h => by
    cases h with
    | lst h1 h2 => exact .lst (L.get h1 nofun fun _ => nofun) (RepL.lk L ds _ h2)
  | .tup ds, _, h => by
    cases h with
    | tup h1 h2 => exact .tup (L.sqT h1) (RepL.lk L ds _ h2)
  | .dic ds, _, h => by
    cases h with
    | dic h1 h2 => exact .dic (L.rd h1 fun _ => nofun) (RepK.lk L ds _ h2)
  | .obj c ds, _, h => by
    cases h with
    | obj h0 h1 h2 => exact .obj h0 (L.get h1 nofun fun _ => nofun) (RepF.lk L ds _ h2)
  | .exn c ds, _, h => by
    cases h with
    | exn h0 h1 h2 h3 => exact .exn h0 h1 (L.get h2 nofun fun _ => nofun) h3
  | .scr ns, _, h => by
    cases h with
    | scr h1 => exact .scr (L.sqL h1)
theorem RepL.lk (L : Lk G G' d ks) : ∀ (ds : List D) (vs : List V), RepL P G vs ds → RepL P G' vs ds
  | [], _, h => by cases h; exact .nil
  | d :: ds, _, h => by
    cases h with
    | cons h1 h2 => exact .cons (Rep.lk L d _ h1) (RepL.lk L ds _ h2)
theorem RepK.lk (L : Lk G G' d ks) : ∀ (ds : List (D × D)) (vs : List (Key × V)), RepK P G vs ds → RepK P G' vs ds
  | [], _, h => by cases h; exact .nil
  | (_, d) :: ds, _, h => by
    cases h with
    | cons h1 h2 => exact .cons (Rep.lk L d _ h1) (RepK.lk L ds _ h2)
theorem RepF.lk (L : Lk G G' d ks) : ∀ (ds : List (Str × D)) (vs : List (Str × V)), RepF P G vs ds → RepF P G' vs ds
  | [], _, h => by cases h; exact .nil
  | (_, d) :: ds, _, h => by
    cases h with
    | cons h1 h2 => exact .cons (Rep.lk L d _ h1) (RepF.lk L ds _ h2)
end
mutual
theorem RepO.lk (L : Lk G G' d ks) : ∀ (x : OD) (v : V) (A : List Addr), RepO P G H v x A → (∀ a ∈ A, H' a = H a) → RepO P G' H' v x A
  | .sh d, _, _, h, k => by
    cases h with
    | sh r => exact .sh (Rep.lk L _ _ r)
  | .lst xs, _, _, h, k => by
    cases h with
    | lst h1 h2 => exact .lst ((k _ List.mem_cons_self).trans h1) (RepOL.lk L xs _ _ h2 fun a ha => k a (List.mem_cons_of_mem _ ha))
  | .dic xs, _, _, h, k => by
    cases h with
    | dic h1 h2 => exact .dic ((k _ List.mem_cons_self).trans h1) (RepOK.lk L xs _ _ h2 fun a ha => k a (List.mem_cons_of_mem _ ha))
  | .obj c xs, _, _, h, k => by
    cases h with
    | obj h0 h1 h2 => exact .obj h0 ((k _ List.mem_cons_self).trans h1) (RepOF.lk L xs _ _ h2 fun a ha => k a (List.mem_cons_of_mem _ ha))
theorem RepOL.lk (L : Lk G G' d ks) : ∀ (x : List OD) (v : List V) (A : List Addr), RepOL P G H v x A → (∀ a ∈ A, H' a = H a) → RepOL P G' H' v x A
  | [], _, _, h, k => by cases h; exact .nil
  | x :: xs, _, _, h, k => by
    cases h with
    | cons h1 h2 => exact .cons (RepO.lk L x _ _ h1 fun a ha => k a (List.mem_append_left _ ha)) (RepOL.lk L xs _ _ h2 fun a ha => k a (List.mem_append_right _ ha))
theorem RepOK.lk (L : Lk G G' d ks) : ∀ (x : List (D × OD)) (v : List (Key × V)) (A : List Addr), RepOK P G H v x A → (∀ a ∈ A, H' a = H a) → RepOK P G' H' v x A
  | [], _, _, h, k => by cases h; exact .nil
  | (_, x) :: xs, _, _, h, k => by
    cases h with
    | cons h1 h2 => exact .cons (RepO.lk L x _ _ h1 fun a ha => k a (List.mem_append_left _ ha)) (RepOK.lk L xs _ _ h2 fun a ha => k a (List.mem_append_right _ ha))
theorem RepOF.lk (L : Lk G G' d ks) : ∀ (x : List (Str × OD)) (v : List (Str × V)) (A : List Addr), RepOF P G H v x A → (∀ a ∈ A, H' a = H a) → RepOF P G' H' v x A
  | [], _, _, h, k => by cases h; exact .nil
  | (_, x) :: xs, _, _, h, k => by
    cases h with
    | cons h1 h2 => exact .cons (RepO.lk L x _ _ h1 fun a ha => k a (List.mem_append_left _ ha)) (RepOF.lk L xs _ _ h2 fun a ha => k a (List.mem_append_right _ ha))
end
/-- the heap with what stands at d replaced by another look of the same dict -/
theorem lk_upd {p : Addr → Prop} {u : HO} (hd : Rd H d (.dK ks)) (hu : ∀ G : Hp, Rd (upd G d u) d (.dK ks)) (hp : ¬ p d) : Lk (cut H p) (cut (upd H d u) p) d ks :=
  ⟨fun a e => by
    by_cases ha : p a
    · rw [cut_in ha, cut_in ha]
    · rw [cut_out ha, cut_out ha, upd_ne e], hd.imp (fun h => cut_of hp h) fun ⟨o, h⟩ => ⟨o, cut_of hp h⟩, (hu H).imp (fun h => cut_of hp h) fun ⟨o, h⟩ => ⟨o, cut_of hp h⟩⟩
end
def LkS (i : Nat) (σ : L2.St) (H : Hp) : Prop := ∃ (d : Addr) (ks : List (Key × V)) (o : Obj), σ[i]? = some (some (.ref d)) ∧ H d = some (.frz o (.dK ks))
def keysE (i : Nat) : En → R (List D) := fun ρ => match ρ[i]? with
  | some (some (.sh (.dic kvs))) => .ok (kvs.map (·.1))
  | _ => .st
def lkF (i : Nat) (f : En → R OD) : En → R OD := fun ρ => match ρ[i]? with
  | some (some (.sh (.dic _))) => (f ρ).nox
  | _ => .st
theorem walks_keys {P : Wd} {G : Hp} {d : Addr} {o : Obj} {ks : List (Key × V)} {kvs : List (D × D)} (hd : G d = some (.frz o (.dK ks))) (r : RepK P G ks kvs) : Walks P G G (Itk d o ks) (kvs.map (·.1)) where
  go := fun i H' s h => ⟨s _ _ hd, by rw [List.length_map, ← r.len] at h; exact h⟩
  stop := fun i H' s h => ⟨s _ _ hd, by rw [List.length_map, ← r.len] at h; exact h⟩
  yld := fun i H' x H2 y s yy e => by
    obtain ⟨rfl, k, v, hk, rfl⟩ := yy
    obtain ⟨w, e1, rv⟩ := (r.keys G).getD e
    rw [List.getElem?_map, hk] at e1
    cases e1
    exact ⟨Same.refl _, _, Same.refl _, s, fun a o h => .inl h, rv⟩
abbrev Bs.b0 (B : Bs) : Bs := { B with H0 := fun _ => none }
section
variable {X : Cx} {B : Bs} {W : WX} {tg : Expr} {y : Str} {py pos : Pos} {E1 : List Nat} {f : En → R D}
theorem i_keys (i : Nat) (h0 : PE X (.Name y py) (tVar i)) : PI X tg (.Name y py) (fun σ H Rr => LkS i σ H ∧ tI B W [] [] (keysE i) σ H Rr) :=
  (pi_keys h0).imp fun σ H Rr ⟨⟨d, ks, o, e1, e2⟩, ρ, As, S, q⟩ => by
    refine ⟨.ref d, e1, d, o, rfl, .inl ⟨ks, e2, ?_⟩⟩
    unfold keysE at q
    split at q
    · rename_i kvs er
      obtain ⟨v, e3, r⟩ := S.pt i _ er
      rw [e1] at e3
      cases e3
      generalize As i = Ai at r
      cases r with
      | sh r => cases r with
        | dic h1 h2 =>
          have hk : ¬ hid B As [] d := by
            rcases h1 with h | ⟨_, h⟩
            · exact (cut_some h).1
            · exact (cut_some h).1
          rename_i ks'
          have : ks' = ks := by
            rcases rd_cut h1 with h | ⟨_, h⟩
            · rw [e2] at h; cases h
            · rw [e2] at h; cases h; rfl
          subst this
          exact q _ H (Same.refl _) (walks_keys (cut_of hk e2) h2)
    · exact q.elim
theorem f_lcK (i : Nat) {elt : Expr} {ifs : List Expr} {scope : Scope} {own : List (Str × Nat)} {bnd : D → En → Option En} {tt : En → R Bool} {Mg : List Nat} (hc : X.calm = true) (hN : X.N.Nodup) (h0 : PE X (.Name y py) (tVar i)) (ok : BlkOk X.N X.env.scope scope own)
    (hm : ∀ i ∈ Mg, i ∈ own.map (·.2)) (hg : ∀ (s : Shared) (H : Hp) (C : Addr) (cl : List (Str × Addr)) (fp : List Addr) (O : Addr → Prop), PG (X.blk s H scope (compEnvC scope cl C X.env) fp) tg (tG (B.b0.wo O) Mg bnd))
    (ht : ∀ (s : Shared) (H : Hp) (C : Addr) (cl : List (Str × Addr)) (fp : List Addr) (O : Addr → Prop), PTs (X.blk s H scope (compEnvC scope cl C X.env) fp) ifs (tT (B.b0.wo O) W0 tt))
    (he : ∀ (s : Shared) (H : Hp) (C : Addr) (cl : List (Str × Addr)) (fp : List Addr) (O : Addr → Prop), PE (X.blk s H scope (compEnvC scope cl C X.env) fp) elt (tD (B.b0.wo O) W0 E1 f)) (hs : ∀ x, foldedSetIterable (.Name y py) X.env x = pure x := by intro _; rfl) :
    PE X (.ListComp elt [⟨tg, .Name y py, ifs, 0⟩] scope pos) (tF B W (E1.filter fun i => !(own.map (·.2)).contains i) (lkF i (lcE [] (own.map (·.2)) bnd (keysE i) tt f))) := by
  have base : PE X (.ListComp elt [⟨tg, .Name y py, ifs, 0⟩] scope pos) (fun σ H Q => LkS i σ H ∧ tF B.b0 W (E1.filter fun i => !(own.map (·.2)).contains i) (lcE [] (own.map (·.2)) bnd (keysE i) tt f) σ H Q) :=
    (pe_lc hc hN (i_keys (B := B.b0) (W := W) i h0) ok (fun s H C cl fp => .ex (hg s H C cl fp)) (fun s H C cl fp => .ex (ht s H C cl fp)) (fun s H C cl fp => .ex (he s H C cl fp)) hs).imp fun σ H Q q => ⟨q.1, lc_imp hm q.2⟩
  refine ⟨fun pins s σ H Q I h => ?_⟩
  obtain ⟨ρ, As, S, h⟩ := h
  unfold lkF at h
  split at h
  · rename_i kvs er
    cases ef : lcE [] (own.map (·.2)) bnd (keysE i) tt f ρ with
    | st => rw [ef] at h; exact h.elim
    | ex c fs => rw [ef] at h; exact h.elim
    | ok od =>
      rw [ef, R.nox_ok] at h
      obtain ⟨v, e1, r⟩ := S.pt i _ er
      have S0 : Sta B.b0 σ H ρ As := ⟨S.len, S.pt, S.nd, S.dj, fun _ _ _ => .inr rfl, S.no, S.hs, S.ob, fun _ _ z => (nomatch z), fun _ z => absurd rfl z⟩
      generalize hA : As i = Ai at r
      cases r with
      | sh r => cases r with
        | @dic d ks _ h1 h2 =>
          have hk : ¬ hid B As [] d := by
            rcases h1 with h | ⟨_, h⟩
            · exact (cut_some h).1
            · exact (cut_some h).1
          rcases rd_cut h1 with hd | ⟨o, hd⟩
          · refine (pe_lock base).run pins s σ H Q I ⟨d, .dK ks, hd, True.intro, fun od' => ⟨⟨d, ks, od', e1, upd_same⟩, ρ, As, ?_, ?_⟩⟩
            · have L := lk_upd (u := .frz od' (.dK ks)) (.inl hd) (fun G => .inr ⟨od', upd_same⟩) hk
              refine ⟨S.len, fun j x e => ?_, S.nd, S.dj, fun _ _ _ => .inr rfl, S.no, fun j a ha => ?_, fun a ha => ?_, fun _ _ z => (nomatch z), fun _ z => absurd rfl z⟩
              · obtain ⟨w, e2, r2⟩ := S.pt j x e
                exact ⟨w, e2, RepO.lk L _ _ _ r2 fun a ha => upd_ne fun z => hk (.inr ⟨j, List.not_mem_nil, z ▸ ha⟩)⟩
              · by_cases z : a = d
                · rw [z, upd_same]; exact nofun
                · rw [upd_ne z]; exact S.hs j a ha
              · by_cases z : a = d
                · rw [z, upd_same]; exact nofun
                · rw [upd_ne z]; exact S.ob a ha
            · rw [ef]
              intro v A H2 s1 nA fA rA
              have hd2 : H2 d = some (.frz od' (.dK ks)) := s1 d _ upd_same
              have hdA : d ∉ A := fun z => by have := fA d z; rw [upd_same] at this; cases this
              have nod : ∀ a, a ≠ d → H a = none → (upd H d (.frz od' (.dK ks))) a = none := fun a z e => by rw [upd_ne z]; exact e
              have nh2 : ¬ (hid B As (E1.filter fun i => !(own.map (·.2)).contains i) d ∨ d ∈ A) := fun z => by
                rcases z with z | z
                · rcases z with z | ⟨j, _, z⟩
                  · exact hk (.inl z)
                  · exact hk (.inr ⟨j, List.not_mem_nil, z⟩)
                · exact hdA z
              refine ⟨hd2, h v A (upd H2 d (.dK ks)) (fun a o e => ?_) nA (fun a ha => ?_) ?_⟩
              · by_cases z : a = d
                · subst z
                  rw [hd] at e
                  cases e
                  exact upd_same
                · rw [upd_ne z]
                  exact s1 a o (by rw [upd_ne z]; exact e)
              · have := fA a ha
                rw [upd_ne (show a ≠ d from fun z => hdA (z ▸ ha))] at this
                exact this
              · exact RepO.lk (lk_upd (u := .dK ks) (.inr ⟨od', hd2⟩) (fun G => .inl upd_same) nh2) _ _ _ rA fun a ha => by rw [upd_ne (show a ≠ d from fun z => hdA (z ▸ ha))]
          · exact base.run pins s σ H Q I ⟨⟨d, ks, o, e1, hd⟩, ρ, As, S0, by rw [ef]; exact h⟩
  · exact h.elim
end
end DL
set_option Elab.async false
set_option linter.all false
set_option maxRecDepth 100000
set_option maxHeartbeats 0
namespace DL
open PySem PySem.Spec PyProof.Rows L2
/-! ## an owned list of shared things is walked -/
def OD.isSh : OD → Bool
  | .sh _ => true
  | _ => false
def itV (i : Nat) : En → R (List D) := fun ρ => match ρ[i]? with
  | some (some (.sh d)) => .ofO (seqD d)
  | some (some (.lst xs)) => if xs.all OD.isSh then .ok (xs.map OD.er) else .st
  | _ => .st
theorem RepOL.allSh {P : Wd} {G H : Hp} : ∀ {xs : List OD} {vs : List V} {A : List Addr}, RepOL P G H vs xs A → xs.all OD.isSh = true → RepL P G vs (xs.map OD.er)
  | [], _, _, h, _ => by cases h; exact .nil
  | x :: xs, _, _, h, k => by
    rw [List.all_cons, Bool.and_eq_true] at k
    cases h with
    | cons h1 h2 =>
      cases h1 with
      | sh r => exact .cons r (RepOL.allSh h2 k.2)
      | lst _ _ => cases k.1
      | dic _ _ => cases k.1
      | obj _ _ _ => cases k.1
theorem walks_own {P : Wd} {G Ge : Hp} {a : Addr} {vs : List V} {ds : List D} (ha : Rd G a (.lst vs)) (s0 : Same Ge G) (r : RepL P Ge vs ds) : Walks P G Ge (Itl P.K a) ds where
  go := fun i H' s h => by
    obtain ⟨v, e, _⟩ := r.getD (List.getElem?_eq_getElem h)
    exact ⟨vs, v, .inl (Rd.same s ha), e⟩
  stop := fun i H' s h => ⟨vs, .inl (Rd.same s ha), by rw [r.len]; exact h⟩
  yld := fun i H' x H2 d s y e => by
    obtain ⟨rfl, y⟩ := y
    obtain ⟨v, e1, rv⟩ := r.getD e
    have := y vs (.inl (Rd.same s ha))
    rw [e1] at this
    cases this
    exact ⟨Same.refl _, _, Same.refl _, s0.trans s, fun a o h => .inl h, rv⟩
theorem walks_ownT {P : Wd} {G Ge : Hp} {a : Addr} {vs : List V} {ds : List D} (ha : SqT P.K G a vs) (s0 : Same Ge G) (r : RepL P Ge vs ds) : Walks P G Ge (Itt P.K a) ds where
  go := fun i H' s h => by
    obtain ⟨v, e, _⟩ := r.getD (List.getElem?_eq_getElem h)
    exact ⟨vs, v, SqT.same s ha, e⟩
  stop := fun i H' s h => ⟨vs, SqT.same s ha, by rw [r.len]; exact h⟩
  yld := fun i H' x H2 d s y e => by
    obtain ⟨rfl, y⟩ := y
    obtain ⟨v, e1, rv⟩ := r.getD e
    have := y vs (SqT.same s ha)
    rw [e1] at this
    cases this
    exact ⟨Same.refl _, _, Same.refl _, s0.trans s, fun a o h => .inl h, rv⟩
section
variable {X : Cx} {B : Bs} {W : WX} {tg : Expr} {y : Str} {py : Pos}
theorem i_own (i : Nat) (hK : B.P.K = X.K) (h0 : PE X (.Name y py) (tVar i)) : PI X tg (.Name y py) (tI B W [i] [] (itV i)) :=
  (((pi_list h0).or (pi_tup h0)).or (pi_str h0)).imp fun σ H Q ⟨ρ, As, S, q⟩ => by
    have sm : Same (cut H (hid B As [])) (cut H (hid B As [i])) := cut_mono (Same.refl H) (hid_mono fun j hj => nomatch hj)
    unfold itV at q
    split at q
    · rename_i d er
      obtain ⟨v, e1, r⟩ := S.pt i _ er
      generalize As i = Ai at r
      cases r with
      | sh r =>
        unfold seqD at q
        split at q
        · obtain ⟨a, vs, rfl, ha, ra⟩ := r.lstE
          refine .inl (.inl ⟨_, e1, a, rfl, ⟨vs, by rw [← hK]; exact .inl (rd_cut ha)⟩, ?_⟩)
          rw [← hK]
          exact q _ H (Same.refl _) (walks_own (Rd.same sm ha) sm ra)
        · obtain ⟨a, vs, rfl, ha, ra⟩ := r.tupE
          refine .inl (.inr ⟨_, e1, a, rfl, ⟨vs, by rw [← hK]; exact sqT_cut ha⟩, ?_⟩)
          rw [← hK]
          exact q _ H (Same.refl _) (walks_ownT (SqT.same sm ha) sm ra)
        · obtain ⟨z, rfl, hz⟩ := r.tick
          refine .inr ⟨_, e1, z, rfl, q _ H (Same.refl _) ?_⟩
          have w := walks_str (P := B.P) (G := cut H (hid B As [i])) hz
          exact ⟨w.go, w.stop, fun j H' x H2 d s yy e => by
            obtain ⟨rfl, c, yy, rfl⟩ := yy
            rw [← Array.getElem?_toList, hz] at yy
            rw [List.getElem?_map, yy] at e
            cases e
            exact ⟨Same.refl _, _, Same.refl _, sm.trans s, fun a o h => .inl h, rep_of rfl⟩⟩
        · exact q.elim
    · rename_i xs er
      obtain ⟨v, e1, r⟩ := S.pt i _ er
      split at q
      · rename_i hall
        generalize hA : As i = Ai at r
        cases r with
        | @lst l vs _ A h1 h2 =>
          have hl : ¬ hid B As [i] l := fun z => by
            rcases z with z | ⟨j, hj, z⟩
            · exact S.no i l (by rw [hA]; exact List.mem_cons_self) z
            · exact hj (by rw [S.dj j i l z (by rw [hA]; exact List.mem_cons_self)]; exact List.mem_cons_self)
          refine .inl (.inl ⟨_, e1, l, rfl, ⟨vs, .inl (.inl h1)⟩, ?_⟩)
          rw [← hK]
          exact q _ H (Same.refl _) (walks_own (.inl (cut_of hl h1)) sm (RepOL.allSh h2 hall))
      · exact q.elim
    · exact q.elim
end
end DL
set_option Elab.async false
set_option linter.all false
set_option maxRecDepth 100000
namespace DL
open PySem PySem.Spec PyProof.Rows L2
theorem fl_addI : Flat2 dAddI := fun a b d e => by
  unfold dAddI at e
  split at e
  · cases e; rfl
  · cases e
section
variable {X : Cx} {B : Bs} {W : WX} {E1 E2 : List Nat} {f1 f2 : En → R D} {e1 e2 : Expr} {pos : Pos}
/-- + of ints -/
theorem d_addI (h1 : PE X e1 (tD B W E1 f1)) (h2 : PE X e2 (tD B W E2 f2)) : PE X (.BinOp e1 .Add e2 pos) (tD B W [] (op2 dAddI f1 f2)) := d_opF op_add ad_addI fl_addI h1 h2
end
end DL
set_option Elab.async false
set_option linter.all false
set_option maxRecDepth 100000
set_option maxHeartbeats 0
namespace K25
open PySem PySem.Spec PyProof.Rows L2 DL
abbrev top (i : Nat) : Stmt := PySem.Challenge.pw_heddlebook_k25_yarn_of_a_plan.main.body.getD i (.Pass ⟨0, 0, 0, 0⟩)
def l_OutOfRange : List (Str × DLX.Src) := [("label", .s "OutOfRange" [79, 117, 116, 79, 102, 82, 97, 110, 103, 101]), ("value", .p 0)]
def l_BadCloth : List (Str × DLX.Src) := [("label", .s "BadCloth" [66, 97, 100, 67, 108, 111, 116, 104]), ("row", .p 0)]
def l_Unequal : List (Str × DLX.Src) := [("label", .s "Unequal" [85, 110, 101, 113, 117, 97, 108]), ("value", .p 0)]
def tab_HeddleError : List (Str × Bool) := [("OutOfRange", true), ("BadCloth", true), ("Unequal", true)]
def tab_OutOfRange : List (Str × Bool) := [("OutOfRange", true), ("BadCloth", false), ("Unequal", false)]
def tab_BadCloth : List (Str × Bool) := [("OutOfRange", false), ("BadCloth", true), ("Unequal", false)]
def tab_Unequal : List (Str × Bool) := [("OutOfRange", false), ("BadCloth", false), ("Unequal", true)]
def exCls : Stmt → List Stmt := C8.clsBody
abbrev mi_OutOfRange : Stmt := (C8.clsBody (top 2)).getD 0 (.Pass ⟨0, 0, 0, 0⟩)
abbrev ed_OutOfRange : DLX.ExD := ⟨"OutOfRange", "OutOfRange.__init__", defArgs mi_OutOfRange, defBody mi_OutOfRange, defScope mi_OutOfRange, ["label", "value"]⟩
theorem xc_OutOfRange {P : Program} {w : World} {K : PySem.W.Frag} {mg : Str → Option Value} {base : Heap} (h : DLX.ExH P K mg ed_OutOfRange) (htop : (P.main.scope.names.lookup ("super" : Str)).isSome = false) (hms : mg "super" = none) (hany : PySem.W.nsIn K cStatics "thirdparty.any" = some none) : DLX.ExC P w K mg base "OutOfRange" 1 l_OutOfRange :=
  DLX.ExH.exc (N := ["self", "value", "__class__"]) (ps := ["value"]) h (NdefX.nscope_by (by decide +kernel)) rfl rfl rfl rfl htop hms hany (by unfold l_OutOfRange; simp) (by unfold l_OutOfRange; decide) (by unfold l_OutOfRange; decide) (by intro q hq; unfold l_OutOfRange at hq; simp only [List.mem_cons, List.not_mem_nil, or_false] at hq; rcases hq with rfl | rfl <;> first | (exact rfl) | (show _ < _; decide)) (fun _ _ _ _ _ us hl => match us, hl with | [_, _], _ => rfl)
    (fun cc cda fI A outer s H E => ⟨pe_str, (DLX.StOk.cons (ps_ost (pe_var (i := 0) rfl (Or.inl rfl)) pe_str) (by rfl) (DLX.StOk.cons (ps_ost (pe_var (i := 0) rfl (Or.inl rfl)) (pe_var (i := 1) rfl (Or.inl rfl))) (by show _ < _; decide) DLX.StOk.nil)), rfl, rfl, _, rfl⟩) (fun _ _ _ _ _ => ⟨by decide, rfl⟩)
abbrev mi_BadCloth : Stmt := (C8.clsBody (top 3)).getD 0 (.Pass ⟨0, 0, 0, 0⟩)
abbrev ed_BadCloth : DLX.ExD := ⟨"BadCloth", "BadCloth.__init__", defArgs mi_BadCloth, defBody mi_BadCloth, defScope mi_BadCloth, ["label", "row"]⟩
theorem xc_BadCloth {P : Program} {w : World} {K : PySem.W.Frag} {mg : Str → Option Value} {base : Heap} (h : DLX.ExH P K mg ed_BadCloth) (htop : (P.main.scope.names.lookup ("super" : Str)).isSome = false) (hms : mg "super" = none) (hany : PySem.W.nsIn K cStatics "thirdparty.any" = some none) : DLX.ExC P w K mg base "BadCloth" 1 l_BadCloth :=
  DLX.ExH.exc (N := ["self", "row", "__class__"]) (ps := ["row"]) h (NdefX.nscope_by (by decide +kernel)) rfl rfl rfl rfl htop hms hany (by unfold l_BadCloth; simp) (by unfold l_BadCloth; decide) (by unfold l_BadCloth; decide) (by intro q hq; unfold l_BadCloth at hq; simp only [List.mem_cons, List.not_mem_nil, or_false] at hq; rcases hq with rfl | rfl <;> first | (exact rfl) | (show _ < _; decide)) (fun _ _ _ _ _ us hl => match us, hl with | [_, _], _ => rfl)
    (fun cc cda fI A outer s H E => ⟨pe_str, (DLX.StOk.cons (ps_ost (pe_var (i := 0) rfl (Or.inl rfl)) pe_str) (by rfl) (DLX.StOk.cons (ps_ost (pe_var (i := 0) rfl (Or.inl rfl)) (pe_var (i := 1) rfl (Or.inl rfl))) (by show _ < _; decide) DLX.StOk.nil)), rfl, rfl, _, rfl⟩) (fun _ _ _ _ _ => ⟨by decide, rfl⟩)
abbrev mi_Unequal : Stmt := (C8.clsBody (top 4)).getD 0 (.Pass ⟨0, 0, 0, 0⟩)
abbrev ed_Unequal : DLX.ExD := ⟨"Unequal", "Unequal.__init__", defArgs mi_Unequal, defBody mi_Unequal, defScope mi_Unequal, ["label", "value"]⟩
theorem xc_Unequal {P : Program} {w : World} {K : PySem.W.Frag} {mg : Str → Option Value} {base : Heap} (h : DLX.ExH P K mg ed_Unequal) (htop : (P.main.scope.names.lookup ("super" : Str)).isSome = false) (hms : mg "super" = none) (hany : PySem.W.nsIn K cStatics "thirdparty.any" = some none) : DLX.ExC P w K mg base "Unequal" 1 l_Unequal :=
  DLX.ExH.exc (N := ["self", "value", "__class__"]) (ps := ["value"]) h (NdefX.nscope_by (by decide +kernel)) rfl rfl rfl rfl htop hms hany (by unfold l_Unequal; simp) (by unfold l_Unequal; decide) (by unfold l_Unequal; decide) (by intro q hq; unfold l_Unequal at hq; simp only [List.mem_cons, List.not_mem_nil, or_false] at hq; rcases hq with rfl | rfl <;> first | (exact rfl) | (show _ < _; decide)) (fun _ _ _ _ _ us hl => match us, hl with | [_, _], _ => rfl)
    (fun cc cda fI A outer s H E => ⟨pe_str, (DLX.StOk.cons (ps_ost (pe_var (i := 0) rfl (Or.inl rfl)) pe_str) (by rfl) (DLX.StOk.cons (ps_ost (pe_var (i := 0) rfl (Or.inl rfl)) (pe_var (i := 1) rfl (Or.inl rfl))) (by show _ < _; decide) DLX.StOk.nil)), rfl, rfl, _, rfl⟩) (fun _ _ _ _ _ => ⟨by decide, rfl⟩)
/-! ### _law_draw: slots 0=cell 1=limits 2=row 3=rest 4=great 5=k 6=mixed -/
def l1__law_draw : En → Out := (ifS (andT (tst (var 4)) (tst (op2 dGe (var 3) (op2 dIx (var 1) (var 5))))) (seqS (appS 2 [] (op2 dMod (opA dInt (aCons (var 3) aNil)) (op2 dIx (var 1) (var 5))))
    (setS 3 [] (op2 dDiv (var 3) (op2 dIx (var 1) (var 5))))) (seqS (setS 6 [] (op2 dMod (opA dInt (aCons (op2 dAdd (op2 dMul (opA dAbs (aCons (var 0) aNil)) (con (.int 48271))) (op2 dMul (op2 dAdd (var 5) (con (.int 1))) (con (.int 69621)))) aNil)) (con (.int 2147483647))))
    (seqS (setS 6 [] (op2 dMod (opA dInt (aCons (op2 dAdd (op2 dMul (var 6) (con (.int 16807))) (op2 dMul (op2 dAdd (var 5) (con (.int 1))) (con (.int 40692)))) aNil)) (con (.int 2147483399))))
    (appS 2 [] (op2 dMod (opA dInt (aCons (var 6) aNil)) (op2 dIx (var 1) (var 5)))))))
def b__law_draw : En → Out := (seqS (setF 2 [] (lstE aNil))
    (seqS (setS 3 [] (opA dAbs (aCons (var 0) aNil)))
    (seqS (setS 4 [] (op2 dGe (var 3) (con (.int 1000000000000000000))))
    (seqS (forS [] [5, 6] (bName 5) (rgE rgF1 (aCons (opA dLen (aCons (var 1) aNil)) aNil)) l1__law_draw)
    (retV 2)))))
def m__law_draw : List D → R OD := mOf 2 7 b__law_draw
theorem sc__law_draw : FnScope ["cell", "limits", "row", "rest", "great", "k", "mixed"] ["cell", "limits"] (defScope (top 35)) := C8.fnScope_by (by decide +kernel)
theorem t__law_draw {P : Program} {w : World} {K : PySem.W.Frag} {mg : Str → Option Value} {base : Heap} {f : Addr} (n_abs : mg "abs" = none) (n_len : mg "len" = none) (n_range : mg "range" = none) (n_int : mg "int" = none) (cdv : Value) (A : Around) (outer : List Env) (s : Shared) (H : Hp) (E : XK) (O : Addr → Prop) (hr : Room 0 (A.deeper (envOfC "_law_draw" (defScope (top 35)) s.heap.objs.size f cdv))) : PSs (cxOf (L2.CX P w) P w K mg base ["cell", "limits", "row", "rest", "great", "k", "mixed"] "_law_draw" (defScope (top 35)) f cdv A outer s H E) (defBody (top 35)) (tS ⟨⟨K, mg, none⟩, O, fun _ => False, H⟩ (fun c d _ H' => E c d H') ([2] ++ ([3] ++ ([4] ++ (([5] ++ (([2] ++ [3]) ++ ([6] ++ ([6] ++ [2])))) ++ [])))) b__law_draw) := by
  have hu := hu64 hr
  have nd := (sc__law_draw).nd
  exact (DL.s_cons (DL.s_setF 2 nd (by rfl) (by first | exact Or.inl (by rfl) | exact Or.inr (by rfl)) (DL.f_lst DL.d_anil))
    (DL.s_cons (DL.s_set 3 nd (by rfl) (by first | exact Or.inl (by rfl) | exact Or.inr (by rfl)) (DL.d_abs (by rfl) n_abs (DL.d_acons (DL.d_var 0 (pv 0)) DL.d_anil)))
    (DL.s_cons (DL.s_set 4 nd (by rfl) (by first | exact Or.inl (by rfl) | exact Or.inr (by rfl)) (DL.d_ge (DL.d_var 3 (pv 3)) DL.d_int))
    (DL.s_cons (DL.s_for [5, 6] (passes_of (by rfl)) (by rfl) (DL.i_range1 (by rfl) n_range (DL.d_acons (DL.d_len (by rfl) (by rfl) n_len (DL.d_acons (DL.d_var 1 (pv 1)) DL.d_anil)) DL.d_anil)) (DL.g_name 5 nd (by rfl) (by first | exact Or.inl (by rfl) | exact Or.inr (by rfl)))
    (DL.s_one (DL.s_if (DL.d_and (DL.t_of (DL.d_var 4 (pv 4))) (DL.t_and1 (DL.t_ge (DL.d_var 3 (pv 3)) (DL.d_ix (by rfl) (fun _ _ => (by rfl)) (DL.d_var 1 (pv 1)) (DL.d_var 5 (pv 5)))))).pt (DL.s_cons (DL.s_app 2 (pv 2) (DL.d_mod (DL.d_toInt (by rfl) n_int (DL.d_acons (DL.d_var 3 (pv 3)) DL.d_anil)) (DL.d_ix (by rfl) (fun _ _ => (by rfl)) (DL.d_var 1 (pv 1)) (DL.d_var 5 (pv 5)))))
    (DL.s_one (DL.s_set 3 nd (by rfl) (by first | exact Or.inl (by rfl) | exact Or.inr (by rfl)) (DL.d_div (DL.d_var 3 (pv 3)) (DL.d_ix (by rfl) (fun _ _ => (by rfl)) (DL.d_var 1 (pv 1)) (DL.d_var 5 (pv 5))))))) (DL.s_cons (DL.s_set 6 nd (by rfl) (by first | exact Or.inl (by rfl) | exact Or.inr (by rfl)) (DL.d_mod (DL.d_toInt (by rfl) n_int (DL.d_acons (DL.d_add (DL.d_mul (DL.d_abs (by rfl) n_abs (DL.d_acons (DL.d_var 0 (pv 0)) DL.d_anil)) DL.d_int) (DL.d_mul (DL.d_add (DL.d_var 5 (pv 5)) DL.d_int) DL.d_int)) DL.d_anil)) DL.d_int))
    (DL.s_cons (DL.s_set 6 nd (by rfl) (by first | exact Or.inl (by rfl) | exact Or.inr (by rfl)) (DL.d_mod (DL.d_toInt (by rfl) n_int (DL.d_acons (DL.d_add (DL.d_mul (DL.d_var 6 (pv 6)) DL.d_int) (DL.d_mul (DL.d_add (DL.d_var 5 (pv 5)) DL.d_int) DL.d_int)) DL.d_anil)) DL.d_int))
    (DL.s_one (DL.s_app 2 (pv 2) (DL.d_mod (DL.d_toInt (by rfl) n_int (DL.d_acons (DL.d_var 6 (pv 6)) DL.d_anil)) (DL.d_ix (by rfl) (fun _ _ => (by rfl)) (DL.d_var 1 (pv 1)) (DL.d_var 5 (pv 5)))))))))) (by decide))
    (DL.s_one (DL.s_retV 2 (fun _ z => z) (pv 2)))))))
theorem bi__law_draw {K : PySem.W.Frag} {f : Addr} {fd : FuncData} (F : FunD K "_law_draw" "_law_draw" (defArgs (top 35)) (defBody (top 35)) (defScope (top 35)) [] [] f fd) : Binds K fd ["cell", "limits"] [] := FunD.bindsN F fun _ _ _ _ _ _ us hl => match us, hl with | [_, _], _ => rfl
theorem ok__law_draw {P : Program} {w : World} {K : PySem.W.Frag} {mg : Str → Option Value} {base : Heap} {f : Addr} {fd : FuncData} (F : FunD K "_law_draw" "_law_draw" (defArgs (top 35)) (defBody (top 35)) (defScope (top 35)) [] [] f fd) (hg : mg "_law_draw" = some (.ref f)) (n_abs : mg "abs" = none) (n_len : mg "len" = none) (n_range : mg "range" = none) (n_int : mg "int" = none) : DefOk P w K mg base "_law_draw" 1 2 m__law_draw :=
  def_ok F hg sc__law_draw rfl (bi__law_draw F) (t__law_draw n_abs n_len n_range n_int)
/-! ### _law_cloth: slots 0=cell 1=most_picks 2=most_ends 3=d 4=picks 5=ends 6=rows 7=k 8=bits 9=e 10=bit -/
def l1__law_cloth : En → Out := (seqS (setF 8 (([] ++ ([] ++ [7])) ++ ([] ++ [])) (callE m__law_draw (aCons (op2 dAdd (op2 dDiv (var 0) (con (.int 7))) (op2 dMul (con (.int 31)) (var 7))) (aCons (erE (lcE [] [9] (bName 9) (rgE rgF1 (aCons (var 5) aNil)) tYesD (con (.int 4)))) aNil))))
    (appS 6 [] (strOp dJoin (con (.str [])) (erE (lcE [8] [10] (bName 10) (itE (var 8)) tYesD (op2 dIx (con (.str [46, 35])) (opA dInt (aCons (orV (op2 dLt (var 10) (con (.int 2))) (andV (op2 dEq (var 10) (con (.int 2))) (op2 dGt (op2 dIx (var 3) (con (.int 2))) (con (.int 3))))) aNil))))))))
def b__law_cloth : En → Out := (seqS (setF 3 ([0] ++ (([1] ++ ([2] ++ ([] ++ []))) ++ [])) (callE m__law_draw (aCons (var 0) (aCons (erE (lstE (aCons (var 1) (aCons (var 2) (aCons (con (.int 6)) aNil))))) aNil))))
    (seqS (setS 4 ([] ++ ([3] ++ [])) (op2 dAdd (con (.int 1)) (op2 dIx (var 3) (con (.int 0)))))
    (seqS (setS 5 ([] ++ ([3] ++ [])) (op2 dAdd (con (.int 1)) (op2 dIx (var 3) (con (.int 1)))))
    (seqS (setF 6 [] (lstE aNil))
    (seqS (forS [] [8] (bName 7) (rgE rgF1 (aCons (var 4) aNil)) l1__law_cloth)
    (seqS (ifS (tst (op2 dEq (op2 dIx (var 3) (con (.int 2))) (con (.int 0)))) (setF 6 ((([6] ++ []) ++ []) ++ [4]) (op2F fRep (erE (lstE (aCons (op2 dIx (var 6) (con (.int 0))) aNil))) (var 4))) nxS)
    (seqS (ifS (tst (op2 dEq (op2 dIx (var 3) (con (.int 2))) (con (.int 1)))) (setF 6 [] (lcE [] [7] (bName 7) (rgE rgF1 (aCons (var 4) aNil)) tYesD (strOp dJoin (con (.str [])) (erE (lcE [] [9] (bName 9) (rgE rgF1 (aCons (var 5) aNil)) tYesD (op2 dIx (con (.str [46, 35])) (op2 dMod (opA dInt (aCons (op2 dAdd (var 7) (var 9)) aNil)) (con (.int 2))))))))) nxS)
    (seqS (ifS (andT (tst (op2 dEq (op2 dIx (var 3) (con (.int 2))) (con (.int 2)))) (tst (op2 dGt (var 4) (con (.int 1))))) (setF 6 ([6] ++ [6]) (op2F fCat (sliceE (var 6) pN (pI (op2 dAdd (con (.int 1)) (op2 dDiv (var 4) (con (.int 2)))))) (sliceE (var 6) pN (pI (op2 dSub (op2 dSub (var 4) (con (.int 1))) (op2 dDiv (var 4) (con (.int 2)))))))) nxS)
    (retV 6)))))))))
def m__law_cloth : List D → R OD := mOf 3 11 b__law_cloth
theorem sc__law_cloth : FnScope ["cell", "most_picks", "most_ends", "d", "picks", "ends", "rows", "k", "bits", "e", "bit"] ["cell", "most_picks", "most_ends"] (defScope (top 37)) := C8.fnScope_by (by decide +kernel)
theorem t__law_cloth {P : Program} {w : World} {K : PySem.W.Frag} {mg : Str → Option Value} {base : Heap} {f : Addr} (c__law_draw : DefOk P w K mg base "_law_draw" 1 2 m__law_draw) (n_range : mg "range" = none) (n_int : mg "int" = none) (cdv : Value) (A : Around) (outer : List Env) (s : Shared) (H : Hp) (E : XK) (O : Addr → Prop) (hr : Room 1 (A.deeper (envOfC "_law_cloth" (defScope (top 37)) s.heap.objs.size f cdv))) : PSs (cxOf (L2.CX P w) P w K mg base ["cell", "most_picks", "most_ends", "d", "picks", "ends", "rows", "k", "bits", "e", "bit"] "_law_cloth" (defScope (top 37)) f cdv A outer s H E) (defBody (top 37)) (tS ⟨⟨K, mg, none⟩, O, fun _ => False, H⟩ (fun c d _ H' => E c d H') ([3] ++ ([4] ++ ([5] ++ ([6] ++ (([7] ++ ([8] ++ [6])) ++ (([6] ++ []) ++ (([6] ++ []) ++ (([6] ++ []) ++ [])))))))) b__law_cloth) := by
  have hu := hu64 hr
  have nd := (sc__law_cloth).nd
  exact (DL.s_cons (DL.s_setF 3 nd (by rfl) (by first | exact Or.inl (by rfl) | exact Or.inr (by rfl)) (DL.f_fn c__law_draw hr (by decide) (takes_of (by rfl) (by rfl) (by rfl) (by rfl)) (by rfl) (DL.d_acons (DL.d_var 0 (pv 0)) (DL.d_acons (DL.d_ofF (DL.f_lst (DL.d_acons (DL.d_var 1 (pv 1)) (DL.d_acons (DL.d_var 2 (pv 2)) (DL.d_acons DL.d_int DL.d_anil))))) DL.d_anil)) (DL.len_cons (DL.len_cons DL.len_nil))))
    (DL.s_cons (DL.s_set 4 nd (by rfl) (by first | exact Or.inl (by rfl) | exact Or.inr (by rfl)) (DL.d_add DL.d_int (DL.d_ix (by rfl) (fun _ _ => (by rfl)) (DL.d_var 3 (pv 3)) DL.d_int)))
    (DL.s_cons (DL.s_set 5 nd (by rfl) (by first | exact Or.inl (by rfl) | exact Or.inr (by rfl)) (DL.d_add DL.d_int (DL.d_ix (by rfl) (fun _ _ => (by rfl)) (DL.d_var 3 (pv 3)) DL.d_int)))
    (DL.s_cons (DL.s_setF 6 nd (by rfl) (by first | exact Or.inl (by rfl) | exact Or.inr (by rfl)) (DL.f_lst DL.d_anil))
    (DL.s_cons (DL.s_for [8] (passes_of (by rfl)) (by rfl) (DL.i_range1 (by rfl) n_range (DL.d_acons (DL.d_var 4 (pv 4)) DL.d_anil)) (DL.g_name 7 nd (by rfl) (by first | exact Or.inl (by rfl) | exact Or.inr (by rfl)))
    (DL.s_cons (DL.s_setF 8 nd (by rfl) (by first | exact Or.inl (by rfl) | exact Or.inr (by rfl)) (DL.f_fn c__law_draw hr (by decide) (takes_of (by rfl) (by rfl) (by rfl) (by rfl)) (by rfl) (DL.d_acons (DL.d_add (DL.d_div (DL.d_var 0 (pv 0)) DL.d_int) (DL.d_mul DL.d_int (DL.d_var 7 (pv 7)))) (DL.d_acons (DL.d_ofF (DL.f_lc (by rfl) nd (own := [("e", 9)]) (E1 := []) (DL.i_range1 (by rfl) n_range (DL.d_acons (DL.d_var 5 (pv 5)) DL.d_anil)) (blkOk_by (N := ["cell", "most_picks", "most_ends", "d", "picks", "ends", "rows", "k", "bits", "e", "bit"]) (sc := (defScope (top 37))) (by decide +kernel)) (by decide) (fun _ _ _ _ _ _ => (DL.g_name 9 nd (by rfl) (by first | exact Or.inl (by rfl) | exact Or.inr (by rfl)))) (fun _ _ _ _ _ _ => DL.t_nil) (fun _ _ _ _ _ _ => DL.d_int))) DL.d_anil)) (DL.len_cons (DL.len_cons DL.len_nil))))
    (DL.s_one (DL.s_app 6 (pv 6) (DL.d_join (by rfl) (DL.d_str [] (by rfl)) (DL.d_ofF (DL.f_lc (by rfl) nd (own := [("bit", 10)]) (E1 := ([] ++ [])) (DL.i_any (by rfl) (DL.d_var 8 (pv 8))) (blkOk_by (N := ["cell", "most_picks", "most_ends", "d", "picks", "ends", "rows", "k", "bits", "e", "bit"]) (sc := (defScope (top 37))) (by decide +kernel)) (by decide) (fun _ _ _ _ _ _ => (DL.g_name 10 nd (by rfl) (by first | exact Or.inl (by rfl) | exact Or.inr (by rfl)))) (fun _ _ _ _ _ _ => DL.t_nil) (fun _ _ _ _ _ _ => (DL.d_ix (by rfl) (fun _ _ => (by rfl)) (DL.d_str [46, 35] (by rfl)) (DL.d_toInt (by rfl) n_int (DL.d_acons (DL.v_or (DL.d_lt (DL.d_var 10 (pv 10)) DL.d_int) (DL.d_one (DL.v_and (DL.d_eq (by rfl) hu (DL.d_var 10 (pv 10)) DL.d_int) (DL.d_one (DL.d_gt (DL.d_ix (by rfl) (fun _ _ => (by rfl)) (DL.d_var 3 (pv 3)) DL.d_int) DL.d_int))))) DL.d_anil)))))))))) (by decide))
    (DL.s_cons (DL.s_if (DL.t_eq (by rfl) hu (DL.d_ix (by rfl) (fun _ _ => (by rfl)) (DL.d_var 3 (pv 3)) DL.d_int) DL.d_int) (DL.s_one (DL.s_setF 6 nd (by rfl) (by first | exact Or.inl (by rfl) | exact Or.inr (by rfl)) (DL.f_rep (DL.d_ofF (DL.f_lst (DL.d_acons (DL.d_ix (by rfl) (fun _ _ => (by rfl)) (DL.d_var 6 (pv 6)) DL.d_int) DL.d_anil))) (DL.d_var 4 (pv 4))))) DL.s_nil)
    (DL.s_cons (DL.s_if (DL.t_eq (by rfl) hu (DL.d_ix (by rfl) (fun _ _ => (by rfl)) (DL.d_var 3 (pv 3)) DL.d_int) DL.d_int) (DL.s_one (DL.s_setLc (i := 6) (hN := nd) (hy := (by rfl)) (hyl := (by rfl)) (hsw := (sw_true (by rfl) (by rfl) (by rfl) (by decide +kernel))) (hc := (by rfl)) (own := [("k", 7)]) (E1 := []) (DL.i_range1 (by rfl) n_range (DL.d_acons (DL.d_var 4 (pv 4)) DL.d_anil)) (blkOk_by (N := ["cell", "most_picks", "most_ends", "d", "picks", "ends", "rows", "k", "bits", "e", "bit"]) (sc := (defScope (top 37))) (by decide +kernel)) (by decide) (fun _ _ _ _ _ _ => (DL.g_name 7 nd (by rfl) (by first | exact Or.inl (by rfl) | exact Or.inr (by rfl)))) (fun _ _ _ _ _ _ => DL.t_nil) (fun _ _ _ _ _ _ => (DL.d_join (by rfl) (DL.d_str [] (by rfl)) (DL.d_ofF (DL.f_lc (by rfl) nd (own := [("e", 9)]) (E1 := ([] ++ [])) (DL.i_range1 (by rfl) n_range (DL.d_acons (DL.d_var 5 (pv 5)) DL.d_anil)) (blkOk_by (by rfl)) (by decide) (fun _ _ _ _ _ _ => (DL.g_name 9 nd (by rfl) (by first | exact Or.inl (by rfl) | exact Or.inr (by rfl)))) (fun _ _ _ _ _ _ => DL.t_nil) (fun _ _ _ _ _ _ => (DL.d_ix (by rfl) (fun _ _ => (by rfl)) (DL.d_str [46, 35] (by rfl)) (DL.d_mod (DL.d_toInt (by rfl) n_int (DL.d_acons (DL.d_add (DL.d_var 7 (pv 7)) (DL.d_var 9 (pv 9))) DL.d_anil)) DL.d_int))))))))) DL.s_nil)
    (DL.s_cons (DL.s_if (DL.d_and (DL.t_eq (by rfl) hu (DL.d_ix (by rfl) (fun _ _ => (by rfl)) (DL.d_var 3 (pv 3)) DL.d_int) DL.d_int) (DL.t_and1 (DL.t_gt (DL.d_var 4 (pv 4)) DL.d_int))).pt (DL.s_one (DL.s_setF 6 nd (by rfl) (by first | exact Or.inl (by rfl) | exact Or.inr (by rfl)) (DL.f_cat (DL.d_sl (by rfl) (DL.d_var 6 (pv 6)) DL.p_none (DL.p_some (DL.d_add DL.d_int (DL.d_div (DL.d_var 4 (pv 4)) DL.d_int)))) (DL.d_sl (by rfl) (DL.d_var 6 (pv 6)) DL.p_none (DL.p_some (DL.d_sub (DL.d_sub (DL.d_var 4 (pv 4)) DL.d_int) (DL.d_div (DL.d_var 4 (pv 4)) DL.d_int))))))) DL.s_nil)
    (DL.s_one (DL.s_retV 6 (fun _ z => z) (pv 6)))))))))))
theorem bi__law_cloth {K : PySem.W.Frag} {f : Addr} {fd : FuncData} (F : FunD K "_law_cloth" "_law_cloth" (defArgs (top 37)) (defBody (top 37)) (defScope (top 37)) [] [] f fd) : Binds K fd ["cell", "most_picks", "most_ends"] [] := FunD.bindsN F fun _ _ _ _ _ _ us hl => match us, hl with | [_, _, _], _ => rfl
theorem ok__law_cloth {P : Program} {w : World} {K : PySem.W.Frag} {mg : Str → Option Value} {base : Heap} {f : Addr} {fd : FuncData} (F : FunD K "_law_cloth" "_law_cloth" (defArgs (top 37)) (defBody (top 37)) (defScope (top 37)) [] [] f fd) (hg : mg "_law_cloth" = some (.ref f)) (c__law_draw : DefOk P w K mg base "_law_draw" 1 2 m__law_draw) (n_range : mg "range" = none) (n_int : mg "int" = none) : DefOk P w K mg base "_law_cloth" 2 3 m__law_cloth :=
  def_ok F hg sc__law_cloth rfl (bi__law_cloth F) (t__law_cloth c__law_draw n_range n_int)
abbrev mi_Plan____init__ : Stmt := (C8.clsBody (top 21)).getD 0 (.Pass ⟨0, 0, 0, 0⟩)
/-! ### check_cloth: slots 0=cloth 1=at 2=row 3=one -/
def l1_check_cloth : En → Out := (seqS (setS 2 ([0] ++ [1]) (op2 dIx (var 0) (var 1)))
    (seqS (ifS (orT (tst (op2 dLt (opA dLen (aCons (var 2) aNil)) (con (.int 1)))) (orT (tst (op2 dGt (opA dLen (aCons (var 2) aNil)) (con (.int 60)))) (tst (op2 dNe (opA dLen (aCons (var 2) aNil)) (opA dLen (aCons (op2 dIx (var 0) (con (.int 0))) aNil)))))) (DLX.raiseS "BadCloth" 1 l_BadCloth (aCons (var 1) aNil)) nxS)
    (ifS (tst (op2 dGt (opA dLen (aCons (erE (lcE [2] [3] (bName 3) (itE (var 2)) (tst (op2 dNotIn (var 3) (tupE (aCons (con (.str [35])) (aCons (con (.str [46])) aNil))))) (var 3))) aNil)) (con (.int 0)))) (DLX.raiseS "BadCloth" 1 l_BadCloth (aCons (var 1) aNil)) nxS)))
def b_check_cloth : En → Out := (seqS (ifS (tst (op2 dEq (opA dLen (aCons (var 0) aNil)) (con (.int 0)))) (DLX.raiseS "BadCloth" 1 l_BadCloth (aCons (con (.int 0)) aNil)) nxS)
    (seqS (ifS (tst (op2 dGt (opA dLen (aCons (var 0) aNil)) (con (.int 60)))) (DLX.raiseS "BadCloth" 1 l_BadCloth (aCons (con (.int 60)) aNil)) nxS)
    (forS [] [1, 2] (bName 1) (rgE rgF1 (aCons (opA dLen (aCons (var 0) aNil)) aNil)) l1_check_cloth)))
def m_check_cloth : List D → R OD := mOf 1 4 b_check_cloth
theorem sc_check_cloth : FnScope ["cloth", "at", "row", "one"] ["cloth"] (defScope (top 12)) := C8.fnScope_by (by decide +kernel)
theorem t_check_cloth {P : Program} {w : World} {K : PySem.W.Frag} {mg : Str → Option Value} {base : Heap} {f : Addr} (n_len : mg "len" = none) (n_range : mg "range" = none) (g_MOST : ∃ t, mg "MOST" = some (.int 60 t)) (g_OVER : ∃ t, mg "OVER" = some (.str "#" t)) (g_UNDER : ∃ t, mg "UNDER" = some (.str "." t)) (x_BadCloth : DLX.ExC P w K mg base "BadCloth" 1 l_BadCloth) (cdv : Value) (A : Around) (outer : List Env) (s : Shared) (H : Hp) (E : XK) (O : Addr → Prop) (hr : Room 2 (A.deeper (envOfC "check_cloth" (defScope (top 12)) s.heap.objs.size f cdv))) : PSs (cxOf (L2.CX P w) P w K mg base ["cloth", "at", "row", "one"] "check_cloth" (defScope (top 12)) f cdv A outer s H E) (defBody (top 12)) (tS ⟨⟨K, mg, none⟩, O, fun _ => False, H⟩ (fun c d _ H' => E c d H') (([] ++ []) ++ (([] ++ []) ++ ([1] ++ ([2] ++ (([] ++ []) ++ ([] ++ [])))))) b_check_cloth) := by
  have hu := hu64 hr
  have nd := (sc_check_cloth).nd
  exact (DL.s_cons (DL.s_if (DL.t_eq (by rfl) hu (DL.d_len (by rfl) (by rfl) n_len (DL.d_acons (DL.d_var 0 (pv 0)) DL.d_anil)) DL.d_int) (DL.s_one (DLX.s_raise x_BadCloth hr (by decide) (by rfl) (takes_of (by rfl) (by rfl) (by rfl) (by rfl)) (by rfl) (DL.d_acons DL.d_int DL.d_anil))) DL.s_nil)
    (DL.s_cons (DL.s_if (DL.t_gt (DL.d_len (by rfl) (by rfl) n_len (DL.d_acons (DL.d_var 0 (pv 0)) DL.d_anil)) (DL.d_globI (by rfl) g_MOST)) (DL.s_one (DLX.s_raise x_BadCloth hr (by decide) (by rfl) (takes_of (by rfl) (by rfl) (by rfl) (by rfl)) (by rfl) (DL.d_acons (DL.d_globI (by rfl) g_MOST) DL.d_anil))) DL.s_nil)
    (DL.s_one (DL.s_for [1, 2] (passes_of (by rfl)) (by rfl) (DL.i_range1 (by rfl) n_range (DL.d_acons (DL.d_len (by rfl) (by rfl) n_len (DL.d_acons (DL.d_var 0 (pv 0)) DL.d_anil)) DL.d_anil)) (DL.g_name 1 nd (by rfl) (by first | exact Or.inl (by rfl) | exact Or.inr (by rfl)))
    (DL.s_cons (DL.s_set 2 nd (by rfl) (by first | exact Or.inl (by rfl) | exact Or.inr (by rfl)) (DL.d_ix (by rfl) (fun _ _ => (by rfl)) (DL.d_var 0 (pv 0)) (DL.d_var 1 (pv 1))))
    (DL.s_cons (DL.s_if (DL.d_or (DL.t_lt (DL.d_len (by rfl) (by rfl) n_len (DL.d_acons (DL.d_var 2 (pv 2)) DL.d_anil)) DL.d_int) (DL.d_or (DL.t_gt (DL.d_len (by rfl) (by rfl) n_len (DL.d_acons (DL.d_var 2 (pv 2)) DL.d_anil)) (DL.d_globI (by rfl) g_MOST)) (DL.t_or1 (DL.t_ne (by rfl) hu (DL.d_len (by rfl) (by rfl) n_len (DL.d_acons (DL.d_var 2 (pv 2)) DL.d_anil)) (DL.d_len (by rfl) (by rfl) n_len (DL.d_acons (DL.d_ix (by rfl) (fun _ _ => (by rfl)) (DL.d_var 0 (pv 0)) DL.d_int) DL.d_anil)))))).pt (DL.s_one (DLX.s_raise x_BadCloth hr (by decide) (by rfl) (takes_of (by rfl) (by rfl) (by rfl) (by rfl)) (by rfl) (DL.d_acons (DL.d_var 1 (pv 1)) DL.d_anil))) DL.s_nil)
    (DL.s_one (DL.s_if (DL.t_gt (DL.d_len (by rfl) (by rfl) n_len (DL.d_acons (DL.d_ofF (DL.f_lc (by rfl) nd (own := [("one", 3)]) (E1 := [3]) (DL.i_any (by rfl) (DL.d_var 2 (pv 2))) (blkOk_by (N := ["cloth", "at", "row", "one"]) (sc := (defScope (top 12))) (by decide +kernel)) (by decide) (fun _ _ _ _ _ _ => (DL.g_name 3 nd (by rfl) (by first | exact Or.inl (by rfl) | exact Or.inr (by rfl)))) (fun _ _ _ _ _ _ => (DL.t_one (DL.t_notIn (by rfl) hu (DL.d_var 3 (pv 3)) (DL.d_tup (DL.d_acons (DL.d_globS (by rfl) g_OVER [35] (by rfl)) (DL.d_acons (DL.d_globS (by rfl) g_UNDER [46] (by rfl)) DL.d_anil)))))) (fun _ _ _ _ _ _ => (DL.d_var 3 (pv 3))))) DL.d_anil)) DL.d_int) (DL.s_one (DLX.s_raise x_BadCloth hr (by decide) (by rfl) (takes_of (by rfl) (by rfl) (by rfl) (by rfl)) (by rfl) (DL.d_acons (DL.d_var 1 (pv 1)) DL.d_anil))) DL.s_nil)))) (by decide)))))
theorem bi_check_cloth {K : PySem.W.Frag} {f : Addr} {fd : FuncData} (F : FunD K "check_cloth" "check_cloth" (defArgs (top 12)) (defBody (top 12)) (defScope (top 12)) [] [] f fd) : Binds K fd ["cloth"] [] := FunD.bindsN F fun _ _ _ _ _ _ us hl => match us, hl with | [_], _ => rfl
theorem ok_check_cloth {P : Program} {w : World} {K : PySem.W.Frag} {mg : Str → Option Value} {base : Heap} {f : Addr} {fd : FuncData} (F : FunD K "check_cloth" "check_cloth" (defArgs (top 12)) (defBody (top 12)) (defScope (top 12)) [] [] f fd) (hg : mg "check_cloth" = some (.ref f)) (n_len : mg "len" = none) (n_range : mg "range" = none) (g_MOST : ∃ t, mg "MOST" = some (.int 60 t)) (g_OVER : ∃ t, mg "OVER" = some (.str "#" t)) (g_UNDER : ∃ t, mg "UNDER" = some (.str "." t)) (x_BadCloth : DLX.ExC P w K mg base "BadCloth" 1 l_BadCloth) : DefOk P w K mg base "check_cloth" 3 1 m_check_cloth :=
  def_ok F hg sc_check_cloth rfl (bi_check_cloth F) (t_check_cloth n_len n_range g_MOST g_OVER g_UNDER x_BadCloth)
/-! ### check_between: slots 0=value 1=least 2=most -/
def b_check_between : En → Out := (ifS (orT (tst (op2 dLt (var 0) (var 1))) (tst (op2 dGt (var 0) (var 2)))) (DLX.raiseS "OutOfRange" 1 l_OutOfRange (aCons (var 0) aNil)) nxS)
def m_check_between : List D → R OD := mOf 3 3 b_check_between
theorem sc_check_between : FnScope ["value", "least", "most"] ["value", "least", "most"] (defScope (top 6)) := C8.fnScope_by (by decide +kernel)
theorem t_check_between {P : Program} {w : World} {K : PySem.W.Frag} {mg : Str → Option Value} {base : Heap} {f : Addr} (x_OutOfRange : DLX.ExC P w K mg base "OutOfRange" 1 l_OutOfRange) (cdv : Value) (A : Around) (outer : List Env) (s : Shared) (H : Hp) (E : XK) (O : Addr → Prop) (hr : Room 2 (A.deeper (envOfC "check_between" (defScope (top 6)) s.heap.objs.size f cdv))) : PSs (cxOf (L2.CX P w) P w K mg base ["value", "least", "most"] "check_between" (defScope (top 6)) f cdv A outer s H E) (defBody (top 6)) (tS ⟨⟨K, mg, none⟩, O, fun _ => False, H⟩ (fun c d _ H' => E c d H') ([] ++ []) b_check_between) := by
  have hu := hu64 hr
  have nd := (sc_check_between).nd
  exact (DL.s_one (DL.s_if (DL.d_or (DL.t_lt (DL.d_var 0 (pv 0)) (DL.d_var 1 (pv 1))) (DL.t_or1 (DL.t_gt (DL.d_var 0 (pv 0)) (DL.d_var 2 (pv 2))))).pt (DL.s_one (DLX.s_raise x_OutOfRange hr (by decide) (by rfl) (takes_of (by rfl) (by rfl) (by rfl) (by rfl)) (by rfl) (DL.d_acons (DL.d_var 0 (pv 0)) DL.d_anil))) DL.s_nil))
theorem bi_check_between {K : PySem.W.Frag} {f : Addr} {fd : FuncData} (F : FunD K "check_between" "check_between" (defArgs (top 6)) (defBody (top 6)) (defScope (top 6)) [] [] f fd) : Binds K fd ["value", "least", "most"] [] := FunD.bindsN F fun _ _ _ _ _ _ us hl => match us, hl with | [_, _, _], _ => rfl
theorem ok_check_between {P : Program} {w : World} {K : PySem.W.Frag} {mg : Str → Option Value} {base : Heap} {f : Addr} {fd : FuncData} (F : FunD K "check_between" "check_between" (defArgs (top 6)) (defBody (top 6)) (defScope (top 6)) [] [] f fd) (hg : mg "check_between" = some (.ref f)) (x_OutOfRange : DLX.ExC P w K mg base "OutOfRange" 1 l_OutOfRange) : DefOk P w K mg base "check_between" 3 3 m_check_between :=
  def_ok F hg sc_check_between rfl (bi_check_between F) (t_check_between x_OutOfRange)
/-! ### Plan: slots 0=self 1=cloth 2=warp 3=weft 4=sett 5=beat 6=ends_times 7=picks_times 8=warp_take 9=weft_take 10=waste -/
def b_Plan : InR := (inPre (exprS (erE (callE m_check_cloth (aCons (var 1) aNil))))
    (inPre (ifS (tst (op2 dNe (opA dLen (aCons (var 2) aNil)) (opA dLen (aCons (op2 dIx (var 1) (con (.int 0))) aNil)))) (DLX.raiseS "Unequal" 1 l_Unequal (aCons (opA dLen (aCons (var 2) aNil)) aNil)) nxS)
    (inPre (ifS (tst (op2 dNe (opA dLen (aCons (var 3) aNil)) (opA dLen (aCons (var 1) aNil)))) (DLX.raiseS "Unequal" 1 l_Unequal (aCons (opA dLen (aCons (var 3) aNil)) aNil)) nxS)
    (inPre (exprS (erE (callE m_check_between (aCons (var 4) (aCons (con (.int 10)) (aCons (con (.int 400)) aNil))))))
    (inPre (exprS (erE (callE m_check_between (aCons (var 5) (aCons (con (.int 10)) (aCons (con (.int 400)) aNil))))))
    (inPre (exprS (erE (callE m_check_between (aCons (var 6) (aCons (con (.int 1)) (aCons (con (.int 1000)) aNil))))))
    (inPre (exprS (erE (callE m_check_between (aCons (var 7) (aCons (con (.int 1)) (aCons (con (.int 1000)) aNil))))))
    (inPre (exprS (erE (callE m_check_between (aCons (var 8) (aCons (con (.int 0)) (aCons (con (.int 500)) aNil))))))
    (inPre (exprS (erE (callE m_check_between (aCons (var 9) (aCons (con (.int 0)) (aCons (con (.int 500)) aNil))))))
    (inPre (exprS (erE (callE m_check_between (aCons (var 10) (aCons (con (.int 0)) (aCons (con (.int 5000)) aNil))))))
    (inFld "cloth" (erE (opAF fList (aCons (var 1) aNil)))
    (inFld "warp" (erE (opAF fList (aCons (var 2) aNil)))
    (inFld "weft" (erE (opAF fList (aCons (var 3) aNil)))
    (inFld "sett" (var 4)
    (inFld "beat" (var 5)
    (inFld "ends_times" (var 6)
    (inFld "picks_times" (var 7)
    (inFld "warp_take" (var 8)
    (inFld "weft_take" (var 9)
    (inFld "waste" (var 10)
    inNil))))))))))))))))))))
def m_Plan : List D → R D := mIn "Plan" 10 11 b_Plan
theorem sc_Plan : FnScope ["self", "cloth", "warp", "weft", "sett", "beat", "ends_times", "picks_times", "warp_take", "weft_take", "waste"] ["self", "cloth", "warp", "weft", "sett", "beat", "ends_times", "picks_times", "warp_take", "weft_take", "waste"] (defScope mi_Plan____init__) := C8.fnScope_by (by decide +kernel)
theorem t_Plan {P : Program} {w : World} {K : PySem.W.Frag} {mg : Str → Option Value} {base : Heap} {f : Addr} (c_check_cloth : DefOk P w K mg base "check_cloth" 3 1 m_check_cloth) (c_check_between : DefOk P w K mg base "check_between" 3 3 m_check_between) (n_len : mg "len" = none) (n_list : mg "list" = none) (g_LEAST_SETT : ∃ t, mg "LEAST_SETT" = some (.int 10 t)) (g_MOST_SETT : ∃ t, mg "MOST_SETT" = some (.int 400 t)) (g_MOST_TIMES : ∃ t, mg "MOST_TIMES" = some (.int 1000 t)) (g_MOST_TAKE : ∃ t, mg "MOST_TAKE" = some (.int 500 t)) (g_MOST_WASTE : ∃ t, mg "MOST_WASTE" = some (.int 5000 t)) (x_Unequal : DLX.ExC P w K mg base "Unequal" 1 l_Unequal) {C : Addr} (hcl : Cls K C) (hno : ∀ f ∈ (["cloth", "warp", "weft", "sett", "beat", "ends_times", "picks_times", "warp_take", "weft_take", "waste"] : List PySem.Str), NoAttr K C f) (cdv : Value) (A : Around) (outer : List Env) (s : Shared) (H : Hp) (E : XK) (O : Addr → Prop) (a : Addr) (hr : Room 3 (A.deeper (envOfC "Plan.__init__" (defScope mi_Plan____init__) s.heap.objs.size f cdv))) : PSs (cxOf (L2.CX P w) P w K mg base ["self", "cloth", "warp", "weft", "sett", "beat", "ends_times", "picks_times", "warp_take", "weft_take", "waste"] "Plan.__init__" (defScope mi_Plan____init__) f cdv A outer s H E) (defBody mi_Plan____init__) (tIn ⟨⟨K, mg, none⟩, O, fun b => b = a, H⟩ (fun c d _ H' => E c d H') a C b_Plan) := by
  have hu := hu64 hr
  have nd := (sc_Plan).nd
  exact (in_pre (DL.s_expr (DL.d_ofF (DL.f_fn c_check_cloth hr (by decide) (takes_of (by rfl) (by rfl) (by rfl) (by rfl)) (by rfl) (DL.d_acons (DL.d_var 1 (pv 1)) DL.d_anil) (DL.len_cons DL.len_nil)))) (by decide)
    (in_pre (DL.s_if (DL.t_ne (by rfl) hu (DL.d_len (by rfl) (by rfl) n_len (DL.d_acons (DL.d_var 2 (pv 2)) DL.d_anil)) (DL.d_len (by rfl) (by rfl) n_len (DL.d_acons (DL.d_ix (by rfl) (fun _ _ => (by rfl)) (DL.d_var 1 (pv 1)) DL.d_int) DL.d_anil))) (DL.s_one (DLX.s_raise x_Unequal hr (by decide) (by rfl) (takes_of (by rfl) (by rfl) (by rfl) (by rfl)) (by rfl) (DL.d_acons (DL.d_len (by rfl) (by rfl) n_len (DL.d_acons (DL.d_var 2 (pv 2)) DL.d_anil)) DL.d_anil))) DL.s_nil) (by decide)
    (in_pre (DL.s_if (DL.t_ne (by rfl) hu (DL.d_len (by rfl) (by rfl) n_len (DL.d_acons (DL.d_var 3 (pv 3)) DL.d_anil)) (DL.d_len (by rfl) (by rfl) n_len (DL.d_acons (DL.d_var 1 (pv 1)) DL.d_anil))) (DL.s_one (DLX.s_raise x_Unequal hr (by decide) (by rfl) (takes_of (by rfl) (by rfl) (by rfl) (by rfl)) (by rfl) (DL.d_acons (DL.d_len (by rfl) (by rfl) n_len (DL.d_acons (DL.d_var 3 (pv 3)) DL.d_anil)) DL.d_anil))) DL.s_nil) (by decide)
    (in_pre (DL.s_expr (DL.d_ofF (DL.f_fn c_check_between hr (by decide) (takes_of (by rfl) (by rfl) (by rfl) (by rfl)) (by rfl) (DL.d_acons (DL.d_var 4 (pv 4)) (DL.d_acons (DL.d_globI (by rfl) g_LEAST_SETT) (DL.d_acons (DL.d_globI (by rfl) g_MOST_SETT) DL.d_anil))) (DL.len_cons (DL.len_cons (DL.len_cons DL.len_nil)))))) (by decide)
    (in_pre (DL.s_expr (DL.d_ofF (DL.f_fn c_check_between hr (by decide) (takes_of (by rfl) (by rfl) (by rfl) (by rfl)) (by rfl) (DL.d_acons (DL.d_var 5 (pv 5)) (DL.d_acons (DL.d_globI (by rfl) g_LEAST_SETT) (DL.d_acons (DL.d_globI (by rfl) g_MOST_SETT) DL.d_anil))) (DL.len_cons (DL.len_cons (DL.len_cons DL.len_nil)))))) (by decide)
    (in_pre (DL.s_expr (DL.d_ofF (DL.f_fn c_check_between hr (by decide) (takes_of (by rfl) (by rfl) (by rfl) (by rfl)) (by rfl) (DL.d_acons (DL.d_var 6 (pv 6)) (DL.d_acons DL.d_int (DL.d_acons (DL.d_globI (by rfl) g_MOST_TIMES) DL.d_anil))) (DL.len_cons (DL.len_cons (DL.len_cons DL.len_nil)))))) (by decide)
    (in_pre (DL.s_expr (DL.d_ofF (DL.f_fn c_check_between hr (by decide) (takes_of (by rfl) (by rfl) (by rfl) (by rfl)) (by rfl) (DL.d_acons (DL.d_var 7 (pv 7)) (DL.d_acons DL.d_int (DL.d_acons (DL.d_globI (by rfl) g_MOST_TIMES) DL.d_anil))) (DL.len_cons (DL.len_cons (DL.len_cons DL.len_nil)))))) (by decide)
    (in_pre (DL.s_expr (DL.d_ofF (DL.f_fn c_check_between hr (by decide) (takes_of (by rfl) (by rfl) (by rfl) (by rfl)) (by rfl) (DL.d_acons (DL.d_var 8 (pv 8)) (DL.d_acons DL.d_int (DL.d_acons (DL.d_globI (by rfl) g_MOST_TAKE) DL.d_anil))) (DL.len_cons (DL.len_cons (DL.len_cons DL.len_nil)))))) (by decide)
    (in_pre (DL.s_expr (DL.d_ofF (DL.f_fn c_check_between hr (by decide) (takes_of (by rfl) (by rfl) (by rfl) (by rfl)) (by rfl) (DL.d_acons (DL.d_var 9 (pv 9)) (DL.d_acons DL.d_int (DL.d_acons (DL.d_globI (by rfl) g_MOST_TAKE) DL.d_anil))) (DL.len_cons (DL.len_cons (DL.len_cons DL.len_nil)))))) (by decide)
    (in_pre (DL.s_expr (DL.d_ofF (DL.f_fn c_check_between hr (by decide) (takes_of (by rfl) (by rfl) (by rfl) (by rfl)) (by rfl) (DL.d_acons (DL.d_var 10 (pv 10)) (DL.d_acons DL.d_int (DL.d_acons (DL.d_globI (by rfl) g_MOST_WASTE) DL.d_anil))) (DL.len_cons (DL.len_cons (DL.len_cons DL.len_nil)))))) (by decide)
    (in_fld (pv 0) (DL.d_ofF (DL.f_list (by rfl) (by rfl) n_list (DL.d_acons (DL.d_var 1 (pv 1)) DL.d_anil))) hcl (hno "cloth" (by decide))
    (in_fld (pv 0) (DL.d_ofF (DL.f_list (by rfl) (by rfl) n_list (DL.d_acons (DL.d_var 2 (pv 2)) DL.d_anil))) hcl (hno "warp" (by decide))
    (in_fld (pv 0) (DL.d_ofF (DL.f_list (by rfl) (by rfl) n_list (DL.d_acons (DL.d_var 3 (pv 3)) DL.d_anil))) hcl (hno "weft" (by decide))
    (in_fld (pv 0) (DL.d_var 4 (pv 4)) hcl (hno "sett" (by decide))
    (in_fld (pv 0) (DL.d_var 5 (pv 5)) hcl (hno "beat" (by decide))
    (in_fld (pv 0) (DL.d_var 6 (pv 6)) hcl (hno "ends_times" (by decide))
    (in_fld (pv 0) (DL.d_var 7 (pv 7)) hcl (hno "picks_times" (by decide))
    (in_fld (pv 0) (DL.d_var 8 (pv 8)) hcl (hno "warp_take" (by decide))
    (in_fld (pv 0) (DL.d_var 9 (pv 9)) hcl (hno "weft_take" (by decide))
    (in_fld (pv 0) (DL.d_var 10 (pv 10)) hcl (hno "waste" (by decide))
    in_nil))))))))))))))))))))
theorem bi_Plan {K : PySem.W.Frag} {f : Addr} {fd : FuncData} (F : FunD K "__init__" "Plan.__init__" (defArgs mi_Plan____init__) (defBody mi_Plan____init__) (defScope mi_Plan____init__) [] [] f fd) : Binds K fd ["self", "cloth", "warp", "weft", "sett", "beat", "ends_times", "picks_times", "warp_take", "weft_take", "waste"] [] := FunD.bindsN F fun _ _ _ _ _ _ us hl => match us, hl with | [_, _, _, _, _, _, _, _, _, _, _], _ => rfl
theorem ok_Plan {P : Program} {w : World} {K : PySem.W.Frag} {mg : Str → Option Value} {base : Heap} {f : Addr} {fd : FuncData} (F : FunD K "__init__" "Plan.__init__" (defArgs mi_Plan____init__) (defBody mi_Plan____init__) (defScope mi_Plan____init__) [] [] f fd) (c_check_cloth : DefOk P w K mg base "check_cloth" 3 1 m_check_cloth) (c_check_between : DefOk P w K mg base "check_between" 3 3 m_check_between) (n_len : mg "len" = none) (n_list : mg "list" = none) (g_LEAST_SETT : ∃ t, mg "LEAST_SETT" = some (.int 10 t)) (g_MOST_SETT : ∃ t, mg "MOST_SETT" = some (.int 400 t)) (g_MOST_TIMES : ∃ t, mg "MOST_TIMES" = some (.int 1000 t)) (g_MOST_TAKE : ∃ t, mg "MOST_TAKE" = some (.int 500 t)) (g_MOST_WASTE : ∃ t, mg "MOST_WASTE" = some (.int 5000 t)) (x_Unequal : DLX.ExC P w K mg base "Unequal" 1 l_Unequal) {C : Addr} (hcl : Cls K C) (hno : ∀ f ∈ (["cloth", "warp", "weft", "sett", "beat", "ends_times", "picks_times", "warp_take", "weft_take", "waste"] : List PySem.Str), NoAttr K C f) (hg : mg "Plan" = some (.ref C)) (hM : Mk K C f) : ObjC P w K mg base "Plan" 4 10 m_Plan :=
  DL.init_ok F hg hM sc_Plan rfl (bi_Plan F) (t_Plan c_check_cloth c_check_between n_len n_list g_LEAST_SETT g_MOST_SETT g_MOST_TIMES g_MOST_TAKE g_MOST_WASTE x_Unequal hcl hno)
/-! ### _law_made: slots 0=cloth 1=warp 2=weft 3=numbers 4=e -/
def b__law_made : En → Out := (DLX.tryS (retS ([] ++ (([0] ++ ([1] ++ ([2] ++ (([3] ++ []) ++ (([3] ++ []) ++ (([3] ++ []) ++ (([3] ++ []) ++ (([3] ++ []) ++ (([3] ++ []) ++ (([3] ++ []) ++ [])))))))))) ++ [])) (tupE (aCons (con (.str [118, 97, 108, 117, 101])) (aCons (newE m_Plan (aCons (var 0) (aCons (var 1) (aCons (var 2) (aCons (op2 dIx (var 3) (con (.int 0))) (aCons (op2 dIx (var 3) (con (.int 1))) (aCons (op2 dIx (var 3) (con (.int 2))) (aCons (op2 dIx (var 3) (con (.int 3))) (aCons (op2 dIx (var 3) (con (.int 4))) (aCons (op2 dIx (var 3) (con (.int 5))) (aCons (op2 dIx (var 3) (con (.int 6))) aNil))))))))))) aNil)))) [⟨tab_BadCloth, some (4, "BadCloth"), (retS ([] ++ ([] ++ [])) (tupE (aCons (con (.str [99, 108, 111, 116, 104])) (aCons (DLX.fldE "row" 4) aNil))))⟩, ⟨tab_Unequal, some (4, "Unequal"), (retS ([] ++ ([] ++ [])) (tupE (aCons (con (.str [117, 110, 101, 113, 117, 97, 108])) (aCons (DLX.fldE "value" 4) aNil))))⟩, ⟨tab_OutOfRange, some (4, "OutOfRange"), (retS ([] ++ ([] ++ [])) (tupE (aCons (con (.str [114, 97, 110, 103, 101])) (aCons (DLX.fldE "value" 4) aNil))))⟩, ⟨tab_HeddleError, none, (retS ([] ++ ([] ++ [])) (tupE (aCons (con (.str [111, 116, 104, 101, 114])) (aCons (con (.int 0)) aNil))))⟩])
def m__law_made : List D → R OD := mOf 4 5 b__law_made
theorem sc__law_made : FnScope ["cloth", "warp", "weft", "numbers", "e"] ["cloth", "warp", "weft", "numbers"] (defScope (top 38)) := C8.fnScope_by (by decide +kernel)
theorem t__law_made {P : Program} {w : World} {K : PySem.W.Frag} {mg : Str → Option Value} {base : Heap} {f : Addr} (o_Plan : ObjC P w K mg base "Plan" 4 10 m_Plan) (h_BadCloth : ∃ D : Addr, mg "BadCloth" = some (.ref D) ∧ DLX.TabOk K mg tab_BadCloth (.ref D)) (h_Unequal : ∃ D : Addr, mg "Unequal" = some (.ref D) ∧ DLX.TabOk K mg tab_Unequal (.ref D)) (h_OutOfRange : ∃ D : Addr, mg "OutOfRange" = some (.ref D) ∧ DLX.TabOk K mg tab_OutOfRange (.ref D)) (h_HeddleError : ∃ D : Addr, mg "HeddleError" = some (.ref D) ∧ DLX.TabOk K mg tab_HeddleError (.ref D)) (y_BadCloth : ∀ C : Addr, mg "BadCloth" = some (.ref C) → XfC K C ∧ ∀ f ∈ [("label" : Str), ("row" : Str)], PySem.W.findIn K (.ref C) f = some none) (y_Unequal : ∀ C : Addr, mg "Unequal" = some (.ref C) → XfC K C ∧ ∀ f ∈ [("label" : Str), ("value" : Str)], PySem.W.findIn K (.ref C) f = some none) (y_OutOfRange : ∀ C : Addr, mg "OutOfRange" = some (.ref C) → XfC K C ∧ ∀ f ∈ [("label" : Str), ("value" : Str)], PySem.W.findIn K (.ref C) f = some none) (cdv : Value) (A : Around) (outer : List Env) (s : Shared) (H : Hp) (E : XK) (O : Addr → Prop) (hr : Room 5 (A.deeper (envOfC "_law_made" (defScope (top 38)) s.heap.objs.size f cdv))) : PSs (cxOf (L2.CX P w) P w K mg base ["cloth", "warp", "weft", "numbers", "e"] "_law_made" (defScope (top 38)) f cdv A outer s H E) (defBody (top 38)) (tS ⟨⟨K, mg, none⟩, O, fun _ => False, H⟩ (fun c d _ H' => E c d H') ([] ++ ((((((([] ++ [4]) ++ []) ++ [4]) ++ []) ++ [4]) ++ []) ++ [])) b__law_made) := by
  have hu := hu64 hr
  have nd := (sc__law_made).nd
  obtain ⟨D_BadCloth, m_BadCloth, htab_BadCloth⟩ := h_BadCloth
  obtain ⟨D_Unequal, m_Unequal, htab_Unequal⟩ := h_Unequal
  obtain ⟨D_OutOfRange, m_OutOfRange, htab_OutOfRange⟩ := h_OutOfRange
  obtain ⟨D_HeddleError, m_HeddleError, htab_HeddleError⟩ := h_HeddleError
  exact (DL.s_one (DLX.s_try ((((((([] ++ [4]) ++ []) ++ [4]) ++ []) ++ [4]) ++ []) ++ []) nd (takes_of (by rfl) (by rfl) (by rfl) (by rfl)) (fun W_ pn_ xe_ tk_ po_ => (DL.s_one (DL.s_ret (DL.d_tup (DL.d_acons (DL.d_str [118, 97, 108, 117, 101] (by rfl)) (DL.d_acons (DL.d_new o_Plan hr (by decide) (tk_) (by rfl) (DL.d_acons (DL.d_var 0 (pv 0)) (DL.d_acons (DL.d_var 1 (pv 1)) (DL.d_acons (DL.d_var 2 (pv 2)) (DL.d_acons (DL.d_ix (by rfl) (fun _ _ => (by rfl)) (DL.d_var 3 (pv 3)) DL.d_int) (DL.d_acons (DL.d_ix (by rfl) (fun _ _ => (by rfl)) (DL.d_var 3 (pv 3)) DL.d_int) (DL.d_acons (DL.d_ix (by rfl) (fun _ _ => (by rfl)) (DL.d_var 3 (pv 3)) DL.d_int) (DL.d_acons (DL.d_ix (by rfl) (fun _ _ => (by rfl)) (DL.d_var 3 (pv 3)) DL.d_int) (DL.d_acons (DL.d_ix (by rfl) (fun _ _ => (by rfl)) (DL.d_var 3 (pv 3)) DL.d_int) (DL.d_acons (DL.d_ix (by rfl) (fun _ _ => (by rfl)) (DL.d_var 3 (pv 3)) DL.d_int) (DL.d_acons (DL.d_ix (by rfl) (fun _ _ => (by rfl)) (DL.d_var 3 (pv 3)) DL.d_int) DL.d_anil)))))))))) (DL.len_cons (DL.len_cons (DL.len_cons (DL.len_cons (DL.len_cons (DL.len_cons (DL.len_cons (DL.len_cons (DL.len_cons (DL.len_cons DL.len_nil))))))))))) DL.d_anil))))))
    (DLX.HdOk.as (i := 4) (by rfl) (by decide) m_BadCloth htab_BadCloth (by decide) (by decide) (by rfl) (by rfl) (fun a_ oe_ C_ dx_ pn_ hm_ hz_ hf_ => (DL.s_one (DL.s_ret (DL.d_tup (DL.d_acons (DL.d_str [99, 108, 111, 116, 104] (by rfl)) (DL.d_acons (DLX.d_xf (y_BadCloth C_ hm_).1 ((y_BadCloth C_ hm_).2 "row" (by decide)) hz_ hf_ (pv 4)) DL.d_anil)))))) (DLX.HdOk.as (i := 4) (by rfl) (by decide) m_Unequal htab_Unequal (by decide) (by decide) (by rfl) (by rfl) (fun a_ oe_ C_ dx_ pn_ hm_ hz_ hf_ => (DL.s_one (DL.s_ret (DL.d_tup (DL.d_acons (DL.d_str [117, 110, 101, 113, 117, 97, 108] (by rfl)) (DL.d_acons (DLX.d_xf (y_Unequal C_ hm_).1 ((y_Unequal C_ hm_).2 "value" (by decide)) hz_ hf_ (pv 4)) DL.d_anil)))))) (DLX.HdOk.as (i := 4) (by rfl) (by decide) m_OutOfRange htab_OutOfRange (by decide) (by decide) (by rfl) (by rfl) (fun a_ oe_ C_ dx_ pn_ hm_ hz_ hf_ => (DL.s_one (DL.s_ret (DL.d_tup (DL.d_acons (DL.d_str [114, 97, 110, 103, 101] (by rfl)) (DL.d_acons (DLX.d_xf (y_OutOfRange C_ hm_).1 ((y_OutOfRange C_ hm_).2 "value" (by decide)) hz_ hf_ (pv 4)) DL.d_anil)))))) (DLX.HdOk.one (by rfl) (by decide) m_HeddleError htab_HeddleError (by decide) (fun a_ oe_ cls_ d_ pn_ hz_ hf_ => (DL.s_one (DL.s_ret (DL.d_tup (DL.d_acons (DL.d_str [111, 116, 104, 101, 114] (by rfl)) (DL.d_acons DL.d_int DL.d_anil)))))) DLX.HdOk.nil))))))
theorem bi__law_made {K : PySem.W.Frag} {f : Addr} {fd : FuncData} (F : FunD K "_law_made" "_law_made" (defArgs (top 38)) (defBody (top 38)) (defScope (top 38)) [] [] f fd) : Binds K fd ["cloth", "warp", "weft", "numbers"] [] := FunD.bindsN F fun _ _ _ _ _ _ us hl => match us, hl with | [_, _, _, _], _ => rfl
theorem ok__law_made {P : Program} {w : World} {K : PySem.W.Frag} {mg : Str → Option Value} {base : Heap} {f : Addr} {fd : FuncData} (F : FunD K "_law_made" "_law_made" (defArgs (top 38)) (defBody (top 38)) (defScope (top 38)) [] [] f fd) (hg : mg "_law_made" = some (.ref f)) (o_Plan : ObjC P w K mg base "Plan" 4 10 m_Plan) (h_BadCloth : ∃ D : Addr, mg "BadCloth" = some (.ref D) ∧ DLX.TabOk K mg tab_BadCloth (.ref D)) (h_Unequal : ∃ D : Addr, mg "Unequal" = some (.ref D) ∧ DLX.TabOk K mg tab_Unequal (.ref D)) (h_OutOfRange : ∃ D : Addr, mg "OutOfRange" = some (.ref D) ∧ DLX.TabOk K mg tab_OutOfRange (.ref D)) (h_HeddleError : ∃ D : Addr, mg "HeddleError" = some (.ref D) ∧ DLX.TabOk K mg tab_HeddleError (.ref D)) (y_BadCloth : ∀ C : Addr, mg "BadCloth" = some (.ref C) → XfC K C ∧ ∀ f ∈ [("label" : Str), ("row" : Str)], PySem.W.findIn K (.ref C) f = some none) (y_Unequal : ∀ C : Addr, mg "Unequal" = some (.ref C) → XfC K C ∧ ∀ f ∈ [("label" : Str), ("value" : Str)], PySem.W.findIn K (.ref C) f = some none) (y_OutOfRange : ∀ C : Addr, mg "OutOfRange" = some (.ref C) → XfC K C ∧ ∀ f ∈ [("label" : Str), ("value" : Str)], PySem.W.findIn K (.ref C) f = some none) : DefOk P w K mg base "_law_made" 6 4 m__law_made :=
  def_ok F hg sc__law_made rfl (bi__law_made F) (t__law_made o_Plan h_BadCloth h_Unequal h_OutOfRange h_HeddleError y_BadCloth y_Unequal y_OutOfRange)
/-! ### _law_up: slots 0=a 1=b -/
def b__law_up : En → Out := (retS [] (op2 dDiv (op2 dSub (op2 dAdd (var 0) (var 1)) (con (.int 1))) (var 1)))
def m__law_up : List D → R OD := mOf 2 2 b__law_up
theorem sc__law_up : FnScope ["a", "b"] ["a", "b"] (defScope (top 39)) := C8.fnScope_by (by decide +kernel)
theorem t__law_up {P : Program} {w : World} {K : PySem.W.Frag} {mg : Str → Option Value} {base : Heap} {f : Addr} (cdv : Value) (A : Around) (outer : List Env) (s : Shared) (H : Hp) (E : XK) (O : Addr → Prop) (hr : Room 0 (A.deeper (envOfC "_law_up" (defScope (top 39)) s.heap.objs.size f cdv))) : PSs (cxOf (L2.CX P w) P w K mg base ["a", "b"] "_law_up" (defScope (top 39)) f cdv A outer s H E) (defBody (top 39)) (tS ⟨⟨K, mg, none⟩, O, fun _ => False, H⟩ (fun c d _ H' => E c d H') [] b__law_up) := by
  have hu := hu64 hr
  have nd := (sc__law_up).nd
  exact (DL.s_one (DL.s_ret (DL.d_div (DL.d_sub (DL.d_add (DL.d_var 0 (pv 0)) (DL.d_var 1 (pv 1))) DL.d_int) (DL.d_var 1 (pv 1)))))
theorem bi__law_up {K : PySem.W.Frag} {f : Addr} {fd : FuncData} (F : FunD K "_law_up" "_law_up" (defArgs (top 39)) (defBody (top 39)) (defScope (top 39)) [] [] f fd) : Binds K fd ["a", "b"] [] := FunD.bindsN F fun _ _ _ _ _ _ us hl => match us, hl with | [_, _], _ => rfl
theorem ok__law_up {P : Program} {w : World} {K : PySem.W.Frag} {mg : Str → Option Value} {base : Heap} {f : Addr} {fd : FuncData} (F : FunD K "_law_up" "_law_up" (defArgs (top 39)) (defBody (top 39)) (defScope (top 39)) [] [] f fd) (hg : mg "_law_up" = some (.ref f)) : DefOk P w K mg base "_law_up" 1 2 m__law_up :=
  def_ok F hg sc__law_up rfl (bi__law_up F) (t__law_up )
/-! ### _law_yarn: slots 0=cloth 1=warp 2=weft 3=numbers 4=wide 5=long 6=end 7=pick 8=rows 9=colour 10=ends 11=picks 12=row 13=one -/
def l1__law_yarn : En → Out := (ifS (tst (op2 dNotIn (var 9) (erE (lcE [] [12] (bName 12) (itV 8) tYesD (op2 dIx (var 12) (con (.int 0))))))) (seqS (setS 10 ([] ++ ([3] ++ [])) (op2 dMul (opA dLen (aCons (erE (lcE [1] [13] (bName 13) (itE (var 1)) (tst (op2 dEq (var 13) (var 9))) (var 13))) aNil)) (op2 dIx (var 3) (con (.int 2)))))
    (seqS (setS 11 ([] ++ ([3] ++ [])) (op2 dMul (opA dLen (aCons (erE (lcE [2] [13] (bName 13) (itE (var 2)) (tst (op2 dEq (var 13) (var 9))) (var 13))) aNil)) (op2 dIx (var 3) (con (.int 3)))))
    (appS 8 ([9] ++ ((([10] ++ [6]) ++ ([11] ++ [7])) ++ [])) (tupE (aCons (var 9) (aCons (op2 dAdd (op2 dMul (var 10) (var 6)) (op2 dMul (var 11) (var 7))) aNil)))))) nxS)
def b__law_yarn : En → Out := (seqS (setS 4 ((([] ++ ([3] ++ [])) ++ []) ++ (([3] ++ []) ++ [])) (erE (callE m__law_up (aCons (op2 dMul (op2 dMul (opA dLen (aCons (var 1) aNil)) (op2 dIx (var 3) (con (.int 2)))) (con (.int 1000))) (aCons (op2 dIx (var 3) (con (.int 0))) aNil)))))
    (seqS (setS 5 ((([] ++ ([3] ++ [])) ++ []) ++ (([3] ++ []) ++ [])) (erE (callE m__law_up (aCons (op2 dMul (op2 dMul (opA dLen (aCons (var 2) aNil)) (op2 dIx (var 3) (con (.int 3)))) (con (.int 1000))) (aCons (op2 dIx (var 3) (con (.int 1))) aNil)))))
    (seqS (setS 6 ((([5] ++ ([] ++ ([3] ++ []))) ++ ([] ++ [])) ++ ([3] ++ [])) (op2 dAdd (erE (callE m__law_up (aCons (op2 dMul (var 5) (op2 dAdd (con (.int 1000)) (op2 dIx (var 3) (con (.int 4))))) (aCons (con (.int 10000)) aNil)))) (op2 dIx (var 3) (con (.int 6)))))
    (seqS (setS 7 (([4] ++ ([] ++ ([3] ++ []))) ++ ([] ++ [])) (erE (callE m__law_up (aCons (op2 dMul (var 4) (op2 dAdd (con (.int 1000)) (op2 dIx (var 3) (con (.int 5))))) (aCons (con (.int 10000)) aNil)))))
    (seqS (setF 8 [] (lstE aNil))
    (seqS (forS ([1] ++ [2]) [9, 10, 11, 12, 13] (bName 9) (itE (op2 dAdd (var 1) (var 2))) l1__law_yarn)
    (frzS [8] (retS ([4] ++ ([5] ++ ([8] ++ []))) (tupE (aCons (var 4) (aCons (var 5) (aCons (var 8) aNil))))))))))))
def m__law_yarn : List D → R OD := mOf 4 14 b__law_yarn
theorem sc__law_yarn : FnScope ["cloth", "warp", "weft", "numbers", "wide", "long", "end", "pick", "rows", "colour", "ends", "picks", "row", "one"] ["cloth", "warp", "weft", "numbers"] (defScope (top 40)) := C8.fnScope_by (by decide +kernel)
theorem t__law_yarn {P : Program} {w : World} {K : PySem.W.Frag} {mg : Str → Option Value} {base : Heap} {f : Addr} (c__law_up : DefOk P w K mg base "_law_up" 1 2 m__law_up) (n_len : mg "len" = none) (cdv : Value) (A : Around) (outer : List Env) (s : Shared) (H : Hp) (E : XK) (O : Addr → Prop) (hr : Room 1 (A.deeper (envOfC "_law_yarn" (defScope (top 40)) s.heap.objs.size f cdv))) : PSs (cxOf (L2.CX P w) P w K mg base ["cloth", "warp", "weft", "numbers", "wide", "long", "end", "pick", "rows", "colour", "ends", "picks", "row", "one"] "_law_yarn" (defScope (top 40)) f cdv A outer s H E) (defBody (top 40)) (tS ⟨⟨K, mg, none⟩, O, fun _ => False, H⟩ (fun c d _ H' => E c d H') ([4] ++ ([5] ++ ([6] ++ ([7] ++ ([8] ++ (([9] ++ (([10] ++ ([11] ++ [8])) ++ [])) ++ [])))))) b__law_yarn) := by
  have hu := hu64 hr
  have nd := (sc__law_yarn).nd
  exact (DL.s_cons (DL.s_set 4 nd (by rfl) (by first | exact Or.inl (by rfl) | exact Or.inr (by rfl)) (DL.d_ofF (DL.f_fn c__law_up hr (by decide) (takes_of (by rfl) (by rfl) (by rfl) (by rfl)) (by rfl) (DL.d_acons (DL.d_mul (DL.d_mul (DL.d_len (by rfl) (by rfl) n_len (DL.d_acons (DL.d_var 1 (pv 1)) DL.d_anil)) (DL.d_ix (by rfl) (fun _ _ => (by rfl)) (DL.d_var 3 (pv 3)) DL.d_int)) DL.d_int) (DL.d_acons (DL.d_ix (by rfl) (fun _ _ => (by rfl)) (DL.d_var 3 (pv 3)) DL.d_int) DL.d_anil)) (DL.len_cons (DL.len_cons DL.len_nil)))))
    (DL.s_cons (DL.s_set 5 nd (by rfl) (by first | exact Or.inl (by rfl) | exact Or.inr (by rfl)) (DL.d_ofF (DL.f_fn c__law_up hr (by decide) (takes_of (by rfl) (by rfl) (by rfl) (by rfl)) (by rfl) (DL.d_acons (DL.d_mul (DL.d_mul (DL.d_len (by rfl) (by rfl) n_len (DL.d_acons (DL.d_var 2 (pv 2)) DL.d_anil)) (DL.d_ix (by rfl) (fun _ _ => (by rfl)) (DL.d_var 3 (pv 3)) DL.d_int)) DL.d_int) (DL.d_acons (DL.d_ix (by rfl) (fun _ _ => (by rfl)) (DL.d_var 3 (pv 3)) DL.d_int) DL.d_anil)) (DL.len_cons (DL.len_cons DL.len_nil)))))
    (DL.s_cons (DL.s_set 6 nd (by rfl) (by first | exact Or.inl (by rfl) | exact Or.inr (by rfl)) (DL.d_add (DL.d_ofF (DL.f_fn c__law_up hr (by decide) (takes_of (by rfl) (by rfl) (by rfl) (by rfl)) (by rfl) (DL.d_acons (DL.d_mul (DL.d_var 5 (pv 5)) (DL.d_add DL.d_int (DL.d_ix (by rfl) (fun _ _ => (by rfl)) (DL.d_var 3 (pv 3)) DL.d_int))) (DL.d_acons DL.d_int DL.d_anil)) (DL.len_cons (DL.len_cons DL.len_nil)))) (DL.d_ix (by rfl) (fun _ _ => (by rfl)) (DL.d_var 3 (pv 3)) DL.d_int)))
    (DL.s_cons (DL.s_set 7 nd (by rfl) (by first | exact Or.inl (by rfl) | exact Or.inr (by rfl)) (DL.d_ofF (DL.f_fn c__law_up hr (by decide) (takes_of (by rfl) (by rfl) (by rfl) (by rfl)) (by rfl) (DL.d_acons (DL.d_mul (DL.d_var 4 (pv 4)) (DL.d_add DL.d_int (DL.d_ix (by rfl) (fun _ _ => (by rfl)) (DL.d_var 3 (pv 3)) DL.d_int))) (DL.d_acons DL.d_int DL.d_anil)) (DL.len_cons (DL.len_cons DL.len_nil)))))
    (DL.s_cons (DL.s_setF 8 nd (by rfl) (by first | exact Or.inl (by rfl) | exact Or.inr (by rfl)) (DL.f_lst DL.d_anil))
    (DL.s_cons (DL.s_for [9, 10, 11, 12, 13] (passes_of (by rfl)) (by rfl) (DL.i_any (by rfl) (DL.d_add (DL.d_var 1 (pv 1)) (DL.d_var 2 (pv 2)))) (DL.g_name 9 nd (by rfl) (by first | exact Or.inl (by rfl) | exact Or.inr (by rfl)))
    (DL.s_one (DL.s_if (DL.t_notIn (by rfl) hu (DL.d_var 9 (pv 9)) (DL.d_ofF (DL.f_lc (by rfl) nd (own := [("row", 12)]) (E1 := ([12] ++ [])) (DL.i_own 8 (by rfl) (pv 8)) (blkOk_by (N := ["cloth", "warp", "weft", "numbers", "wide", "long", "end", "pick", "rows", "colour", "ends", "picks", "row", "one"]) (sc := (defScope (top 40))) (by decide +kernel)) (by decide) (fun _ _ _ _ _ _ => (DL.g_name 12 nd (by rfl) (by first | exact Or.inl (by rfl) | exact Or.inr (by rfl)))) (fun _ _ _ _ _ _ => DL.t_nil) (fun _ _ _ _ _ _ => (DL.d_ix (by rfl) (fun _ _ => (by rfl)) (DL.d_var 12 (pv 12)) DL.d_int))))) (DL.s_cons (DL.s_set 10 nd (by rfl) (by first | exact Or.inl (by rfl) | exact Or.inr (by rfl)) (DL.d_mul (DL.d_len (by rfl) (by rfl) n_len (DL.d_acons (DL.d_ofF (DL.f_lc (by rfl) nd (own := [("one", 13)]) (E1 := [13]) (DL.i_any (by rfl) (DL.d_var 1 (pv 1))) (blkOk_by (N := ["cloth", "warp", "weft", "numbers", "wide", "long", "end", "pick", "rows", "colour", "ends", "picks", "row", "one"]) (sc := (defScope (top 40))) (by decide +kernel)) (by decide) (fun _ _ _ _ _ _ => (DL.g_name 13 nd (by rfl) (by first | exact Or.inl (by rfl) | exact Or.inr (by rfl)))) (fun _ _ _ _ _ _ => (DL.t_one (DL.t_eq (by rfl) hu (DL.d_var 13 (pv 13)) (DL.d_var 9 (pv 9))))) (fun _ _ _ _ _ _ => (DL.d_var 13 (pv 13))))) DL.d_anil)) (DL.d_ix (by rfl) (fun _ _ => (by rfl)) (DL.d_var 3 (pv 3)) DL.d_int)))
    (DL.s_cons (DL.s_set 11 nd (by rfl) (by first | exact Or.inl (by rfl) | exact Or.inr (by rfl)) (DL.d_mul (DL.d_len (by rfl) (by rfl) n_len (DL.d_acons (DL.d_ofF (DL.f_lc (by rfl) nd (own := [("one", 13)]) (E1 := [13]) (DL.i_any (by rfl) (DL.d_var 2 (pv 2))) (blkOk_by (N := ["cloth", "warp", "weft", "numbers", "wide", "long", "end", "pick", "rows", "colour", "ends", "picks", "row", "one"]) (sc := (defScope (top 40))) (by decide +kernel)) (by decide) (fun _ _ _ _ _ _ => (DL.g_name 13 nd (by rfl) (by first | exact Or.inl (by rfl) | exact Or.inr (by rfl)))) (fun _ _ _ _ _ _ => (DL.t_one (DL.t_eq (by rfl) hu (DL.d_var 13 (pv 13)) (DL.d_var 9 (pv 9))))) (fun _ _ _ _ _ _ => (DL.d_var 13 (pv 13))))) DL.d_anil)) (DL.d_ix (by rfl) (fun _ _ => (by rfl)) (DL.d_var 3 (pv 3)) DL.d_int)))
    (DL.s_one (DL.s_app 8 (pv 8) (DL.d_tup (DL.d_acons (DL.d_var 9 (pv 9)) (DL.d_acons (DL.d_add (DL.d_mul (DL.d_var 10 (pv 10)) (DL.d_var 6 (pv 6))) (DL.d_mul (DL.d_var 11 (pv 11)) (DL.d_var 7 (pv 7)))) DL.d_anil))))))) DL.s_nil)) (by decide))
    (DL.s_one (DL.s_frz [8] (DL.s_ret (DL.d_tup (DL.d_acons (DL.d_var 4 (pv 4)) (DL.d_acons (DL.d_var 5 (pv 5)) (DL.d_acons (DL.d_var 8 (pv 8)) DL.d_anil)))))))))))))
theorem bi__law_yarn {K : PySem.W.Frag} {f : Addr} {fd : FuncData} (F : FunD K "_law_yarn" "_law_yarn" (defArgs (top 40)) (defBody (top 40)) (defScope (top 40)) [] [] f fd) : Binds K fd ["cloth", "warp", "weft", "numbers"] [] := FunD.bindsN F fun _ _ _ _ _ _ us hl => match us, hl with | [_, _, _, _], _ => rfl
theorem ok__law_yarn {P : Program} {w : World} {K : PySem.W.Frag} {mg : Str → Option Value} {base : Heap} {f : Addr} {fd : FuncData} (F : FunD K "_law_yarn" "_law_yarn" (defArgs (top 40)) (defBody (top 40)) (defScope (top 40)) [] [] f fd) (hg : mg "_law_yarn" = some (.ref f)) (c__law_up : DefOk P w K mg base "_law_up" 1 2 m__law_up) (n_len : mg "len" = none) : DefOk P w K mg base "_law_yarn" 2 4 m__law_yarn :=
  def_ok F hg sc__law_yarn rfl (bi__law_yarn F) (t__law_yarn c__law_up n_len)
/-! ### _law_cell: slots 0=script 1=k -/
def b__law_cell : En → Out := (seqS (ifS (tst (op2 dLt (var 1) (opA dLen (aCons (var 0) aNil)))) (retS ([0] ++ [1]) (op2 dIx (var 0) (var 1))) nxS)
    (retS [] (con (.int 0))))
def m__law_cell : List D → R OD := mOf 2 2 b__law_cell
theorem sc__law_cell : FnScope ["script", "k"] ["script", "k"] (defScope (top 34)) := C8.fnScope_by (by decide +kernel)
theorem t__law_cell {P : Program} {w : World} {K : PySem.W.Frag} {mg : Str → Option Value} {base : Heap} {f : Addr} (n_len : mg "len" = none) (cdv : Value) (A : Around) (outer : List Env) (s : Shared) (H : Hp) (E : XK) (O : Addr → Prop) (hr : Room 0 (A.deeper (envOfC "_law_cell" (defScope (top 34)) s.heap.objs.size f cdv))) : PSs (cxOf (L2.CX P w) P w K mg base ["script", "k"] "_law_cell" (defScope (top 34)) f cdv A outer s H E) (defBody (top 34)) (tS ⟨⟨K, mg, none⟩, O, fun _ => False, H⟩ (fun c d _ H' => E c d H') (([] ++ []) ++ []) b__law_cell) := by
  have hu := hu64 hr
  have nd := (sc__law_cell).nd
  exact (DL.s_cons (DL.s_if (DL.t_lt (DL.d_var 1 (pv 1)) (DL.d_len (by rfl) (by rfl) n_len (DL.d_acons (DL.d_var 0 (pv 0)) DL.d_anil))) (DL.s_one (DL.s_ret (DL.d_ix (by rfl) (fun _ _ => (by rfl)) (DL.d_var 0 (pv 0)) (DL.d_var 1 (pv 1))))) DL.s_nil)
    (DL.s_one (DL.s_ret DL.d_int)))
theorem bi__law_cell {K : PySem.W.Frag} {f : Addr} {fd : FuncData} (F : FunD K "_law_cell" "_law_cell" (defArgs (top 34)) (defBody (top 34)) (defScope (top 34)) [] [] f fd) : Binds K fd ["script", "k"] [] := FunD.bindsN F fun _ _ _ _ _ _ us hl => match us, hl with | [_, _], _ => rfl
theorem ok__law_cell {P : Program} {w : World} {K : PySem.W.Frag} {mg : Str → Option Value} {base : Heap} {f : Addr} {fd : FuncData} (F : FunD K "_law_cell" "_law_cell" (defArgs (top 34)) (defBody (top 34)) (defScope (top 34)) [] [] f fd) (hg : mg "_law_cell" = some (.ref f)) (n_len : mg "len" = none) : DefOk P w K mg base "_law_cell" 1 2 m__law_cell :=
  def_ok F hg sc__law_cell rfl (bi__law_cell F) (t__law_cell n_len)
/-! ### divided_up: slots 0=a 1=b -/
def b_divided_up : En → Out := (retS [] (op1 dNeg (op2 dDiv (op1 dNeg (var 0)) (var 1))))
def m_divided_up : List D → R OD := mOf 2 2 b_divided_up
theorem sc_divided_up : FnScope ["a", "b"] ["a", "b"] (defScope (top 7)) := C8.fnScope_by (by decide +kernel)
theorem t_divided_up {P : Program} {w : World} {K : PySem.W.Frag} {mg : Str → Option Value} {base : Heap} {f : Addr} (cdv : Value) (A : Around) (outer : List Env) (s : Shared) (H : Hp) (E : XK) (O : Addr → Prop) (hr : Room 0 (A.deeper (envOfC "divided_up" (defScope (top 7)) s.heap.objs.size f cdv))) : PSs (cxOf (L2.CX P w) P w K mg base ["a", "b"] "divided_up" (defScope (top 7)) f cdv A outer s H E) (defBody (top 7)) (tS ⟨⟨K, mg, none⟩, O, fun _ => False, H⟩ (fun c d _ H' => E c d H') [] b_divided_up) := by
  have hu := hu64 hr
  have nd := (sc_divided_up).nd
  exact (DL.s_one (DL.s_ret (DL.d_neg (DL.d_div (DL.d_neg (DL.d_var 0 (pv 0))) (DL.d_var 1 (pv 1))))))
theorem bi_divided_up {K : PySem.W.Frag} {f : Addr} {fd : FuncData} (F : FunD K "divided_up" "divided_up" (defArgs (top 7)) (defBody (top 7)) (defScope (top 7)) [] [] f fd) : Binds K fd ["a", "b"] [] := FunD.bindsN F fun _ _ _ _ _ _ us hl => match us, hl with | [_, _], _ => rfl
theorem ok_divided_up {P : Program} {w : World} {K : PySem.W.Frag} {mg : Str → Option Value} {base : Heap} {f : Addr} {fd : FuncData} (F : FunD K "divided_up" "divided_up" (defArgs (top 7)) (defBody (top 7)) (defScope (top 7)) [] [] f fd) (hg : mg "divided_up" = some (.ref f)) : DefOk P w K mg base "divided_up" 1 2 m_divided_up :=
  def_ok F hg sc_divided_up rfl (bi_divided_up F) (t_divided_up )
/-! ### taken: slots 0=tenths 1=take -/
def b_taken : En → Out := (retF (([0] ++ ([] ++ [1])) ++ (([] ++ []) ++ [])) (callE m_divided_up (aCons (op2 dMul (var 0) (op2 dAdd (con (.int 1000)) (var 1))) (aCons (op2 dMul (con (.int 10)) (con (.int 1000))) aNil))))
def m_taken : List D → R OD := mOf 2 2 b_taken
theorem sc_taken : FnScope ["tenths", "take"] ["tenths", "take"] (defScope (top 25)) := C8.fnScope_by (by decide +kernel)
theorem t_taken {P : Program} {w : World} {K : PySem.W.Frag} {mg : Str → Option Value} {base : Heap} {f : Addr} (c_divided_up : DefOk P w K mg base "divided_up" 1 2 m_divided_up) (g_THOUSAND : ∃ t, mg "THOUSAND" = some (.int 1000 t)) (g_TENTHS : ∃ t, mg "TENTHS" = some (.int 10 t)) (cdv : Value) (A : Around) (outer : List Env) (s : Shared) (H : Hp) (E : XK) (O : Addr → Prop) (hr : Room 1 (A.deeper (envOfC "taken" (defScope (top 25)) s.heap.objs.size f cdv))) : PSs (cxOf (L2.CX P w) P w K mg base ["tenths", "take"] "taken" (defScope (top 25)) f cdv A outer s H E) (defBody (top 25)) (tS ⟨⟨K, mg, none⟩, O, fun _ => False, H⟩ (fun c d _ H' => E c d H') [] b_taken) := by
  have hu := hu64 hr
  have nd := (sc_taken).nd
  exact (DL.s_one (DL.s_retF (DL.f_fn c_divided_up hr (by decide) (takes_of (by rfl) (by rfl) (by rfl) (by rfl)) (by rfl) (DL.d_acons (DL.d_mul (DL.d_var 0 (pv 0)) (DL.d_add (DL.d_globI (by rfl) g_THOUSAND) (DL.d_var 1 (pv 1)))) (DL.d_acons (DL.d_mul (DL.d_globI (by rfl) g_TENTHS) (DL.d_globI (by rfl) g_THOUSAND)) DL.d_anil)) (DL.len_cons (DL.len_cons DL.len_nil)))))
theorem bi_taken {K : PySem.W.Frag} {f : Addr} {fd : FuncData} (F : FunD K "taken" "taken" (defArgs (top 25)) (defBody (top 25)) (defScope (top 25)) [] [] f fd) : Binds K fd ["tenths", "take"] [] := FunD.bindsN F fun _ _ _ _ _ _ us hl => match us, hl with | [_, _], _ => rfl
theorem ok_taken {P : Program} {w : World} {K : PySem.W.Frag} {mg : Str → Option Value} {base : Heap} {f : Addr} {fd : FuncData} (F : FunD K "taken" "taken" (defArgs (top 25)) (defBody (top 25)) (defScope (top 25)) [] [] f fd) (hg : mg "taken" = some (.ref f)) (c_divided_up : DefOk P w K mg base "divided_up" 1 2 m_divided_up) (g_THOUSAND : ∃ t, mg "THOUSAND" = some (.int 1000 t)) (g_TENTHS : ∃ t, mg "TENTHS" = some (.int 10 t)) : DefOk P w K mg base "taken" 2 2 m_taken :=
  def_ok F hg sc_taken rfl (bi_taken F) (t_taken c_divided_up g_THOUSAND g_TENTHS)
/-! ### width_of: slots 0=plan -/
def b_width_of : En → Out := (retF ((([] ++ [0]) ++ []) ++ ([0] ++ [])) (callE m_divided_up (aCons (op2 dMul (op2 dMul (opA dLen (aCons (op1 (fldO ["Plan"] "warp") (var 0)) aNil)) (op1 (fldO ["Plan"] "ends_times") (var 0))) (con (.int 1000))) (aCons (op1 (fldO ["Plan"] "sett") (var 0)) aNil))))
def m_width_of : List D → R OD := mOf 1 1 b_width_of
theorem sc_width_of : FnScope ["plan"] ["plan"] (defScope (top 22)) := C8.fnScope_by (by decide +kernel)
theorem t_width_of {P : Program} {w : World} {K : PySem.W.Frag} {mg : Str → Option Value} {base : Heap} {f : Addr} (c_divided_up : DefOk P w K mg base "divided_up" 1 2 m_divided_up) (q_Plan : FldC K mg "Plan" ["cloth", "warp", "weft", "sett", "beat", "ends_times", "picks_times", "warp_take", "weft_take", "waste"]) (n_len : mg "len" = none) (g_THOUSAND : ∃ t, mg "THOUSAND" = some (.int 1000 t)) (cdv : Value) (A : Around) (outer : List Env) (s : Shared) (H : Hp) (E : XK) (O : Addr → Prop) (hr : Room 1 (A.deeper (envOfC "width_of" (defScope (top 22)) s.heap.objs.size f cdv))) : PSs (cxOf (L2.CX P w) P w K mg base ["plan"] "width_of" (defScope (top 22)) f cdv A outer s H E) (defBody (top 22)) (tS ⟨⟨K, mg, none⟩, O, fun _ => False, H⟩ (fun c d _ H' => E c d H') [] b_width_of) := by
  have hu := hu64 hr
  have nd := (sc_width_of).nd
  exact (DL.s_one (DL.s_retF (DL.f_fn c_divided_up hr (by decide) (takes_of (by rfl) (by rfl) (by rfl) (by rfl)) (by rfl) (DL.d_acons (DL.d_mul (DL.d_mul (DL.d_len (by rfl) (by rfl) n_len (DL.d_acons (DL.d_fld ["Plan"] (fld_cons q_Plan (by decide) fld_nil) (DL.d_var 0 (pv 0))) DL.d_anil)) (DL.d_fld ["Plan"] (fld_cons q_Plan (by decide) fld_nil) (DL.d_var 0 (pv 0)))) (DL.d_globI (by rfl) g_THOUSAND)) (DL.d_acons (DL.d_fld ["Plan"] (fld_cons q_Plan (by decide) fld_nil) (DL.d_var 0 (pv 0))) DL.d_anil)) (DL.len_cons (DL.len_cons DL.len_nil)))))
theorem bi_width_of {K : PySem.W.Frag} {f : Addr} {fd : FuncData} (F : FunD K "width_of" "width_of" (defArgs (top 22)) (defBody (top 22)) (defScope (top 22)) [] [] f fd) : Binds K fd ["plan"] [] := FunD.bindsN F fun _ _ _ _ _ _ us hl => match us, hl with | [_], _ => rfl
theorem ok_width_of {P : Program} {w : World} {K : PySem.W.Frag} {mg : Str → Option Value} {base : Heap} {f : Addr} {fd : FuncData} (F : FunD K "width_of" "width_of" (defArgs (top 22)) (defBody (top 22)) (defScope (top 22)) [] [] f fd) (hg : mg "width_of" = some (.ref f)) (c_divided_up : DefOk P w K mg base "divided_up" 1 2 m_divided_up) (q_Plan : FldC K mg "Plan" ["cloth", "warp", "weft", "sett", "beat", "ends_times", "picks_times", "warp_take", "weft_take", "waste"]) (n_len : mg "len" = none) (g_THOUSAND : ∃ t, mg "THOUSAND" = some (.int 1000 t)) : DefOk P w K mg base "width_of" 2 1 m_width_of :=
  def_ok F hg sc_width_of rfl (bi_width_of F) (t_width_of c_divided_up q_Plan n_len g_THOUSAND)
/-! ### length_with: slots 0=plan 1=times -/
def b_length_with : En → Out := (retF ((([] ++ [1]) ++ []) ++ ([0] ++ [])) (callE m_divided_up (aCons (op2 dMul (op2 dMul (opA dLen (aCons (op1 (fldO ["Plan"] "weft") (var 0)) aNil)) (var 1)) (con (.int 1000))) (aCons (op1 (fldO ["Plan"] "beat") (var 0)) aNil))))
def m_length_with : List D → R OD := mOf 2 2 b_length_with
theorem sc_length_with : FnScope ["plan", "times"] ["plan", "times"] (defScope (top 23)) := C8.fnScope_by (by decide +kernel)
theorem t_length_with {P : Program} {w : World} {K : PySem.W.Frag} {mg : Str → Option Value} {base : Heap} {f : Addr} (c_divided_up : DefOk P w K mg base "divided_up" 1 2 m_divided_up) (q_Plan : FldC K mg "Plan" ["cloth", "warp", "weft", "sett", "beat", "ends_times", "picks_times", "warp_take", "weft_take", "waste"]) (n_len : mg "len" = none) (g_THOUSAND : ∃ t, mg "THOUSAND" = some (.int 1000 t)) (cdv : Value) (A : Around) (outer : List Env) (s : Shared) (H : Hp) (E : XK) (O : Addr → Prop) (hr : Room 1 (A.deeper (envOfC "length_with" (defScope (top 23)) s.heap.objs.size f cdv))) : PSs (cxOf (L2.CX P w) P w K mg base ["plan", "times"] "length_with" (defScope (top 23)) f cdv A outer s H E) (defBody (top 23)) (tS ⟨⟨K, mg, none⟩, O, fun _ => False, H⟩ (fun c d _ H' => E c d H') [] b_length_with) := by
  have hu := hu64 hr
  have nd := (sc_length_with).nd
  exact (DL.s_one (DL.s_retF (DL.f_fn c_divided_up hr (by decide) (takes_of (by rfl) (by rfl) (by rfl) (by rfl)) (by rfl) (DL.d_acons (DL.d_mul (DL.d_mul (DL.d_len (by rfl) (by rfl) n_len (DL.d_acons (DL.d_fld ["Plan"] (fld_cons q_Plan (by decide) fld_nil) (DL.d_var 0 (pv 0))) DL.d_anil)) (DL.d_var 1 (pv 1))) (DL.d_globI (by rfl) g_THOUSAND)) (DL.d_acons (DL.d_fld ["Plan"] (fld_cons q_Plan (by decide) fld_nil) (DL.d_var 0 (pv 0))) DL.d_anil)) (DL.len_cons (DL.len_cons DL.len_nil)))))
theorem bi_length_with {K : PySem.W.Frag} {f : Addr} {fd : FuncData} (F : FunD K "length_with" "length_with" (defArgs (top 23)) (defBody (top 23)) (defScope (top 23)) [] [] f fd) : Binds K fd ["plan", "times"] [] := FunD.bindsN F fun _ _ _ _ _ _ us hl => match us, hl with | [_, _], _ => rfl
theorem ok_length_with {P : Program} {w : World} {K : PySem.W.Frag} {mg : Str → Option Value} {base : Heap} {f : Addr} {fd : FuncData} (F : FunD K "length_with" "length_with" (defArgs (top 23)) (defBody (top 23)) (defScope (top 23)) [] [] f fd) (hg : mg "length_with" = some (.ref f)) (c_divided_up : DefOk P w K mg base "divided_up" 1 2 m_divided_up) (q_Plan : FldC K mg "Plan" ["cloth", "warp", "weft", "sett", "beat", "ends_times", "picks_times", "warp_take", "weft_take", "waste"]) (n_len : mg "len" = none) (g_THOUSAND : ∃ t, mg "THOUSAND" = some (.int 1000 t)) : DefOk P w K mg base "length_with" 2 2 m_length_with :=
  def_ok F hg sc_length_with rfl (bi_length_with F) (t_length_with c_divided_up q_Plan n_len g_THOUSAND)
/-! ### yarn_with: slots 0=plan 1=times 2=end 3=pick 4=sums 5=colour -/
def l1_yarn_with : En → Out := (putS 4 (([4] ++ ([5] ++ [])) ++ ([2] ++ [0])) (op2 dAdd (getE2 (var 4) (var 5) (con (.int 0))) (op2 dMul (var 2) (op1 (fldO ["Plan"] "ends_times") (var 0)))) (var 5))
def l2_yarn_with : En → Out := (putS 4 (([4] ++ ([5] ++ [])) ++ ([3] ++ [1])) (op2 dAdd (getE2 (var 4) (var 5) (con (.int 0))) (op2 dMul (var 3) (var 1))) (var 5))
def b_yarn_with : En → Out := (seqS (setS 2 ((([0] ++ ([1] ++ [])) ++ ([0] ++ [])) ++ [0]) (op2 dAdd (erE (callE m_taken (aCons (erE (callE m_length_with (aCons (var 0) (aCons (var 1) aNil)))) (aCons (op1 (fldO ["Plan"] "warp_take") (var 0)) aNil)))) (op1 (fldO ["Plan"] "waste") (var 0))))
    (seqS (setS 3 (([0] ++ []) ++ ([0] ++ [])) (erE (callE m_taken (aCons (erE (callE m_width_of (aCons (var 0) aNil))) (aCons (op1 (fldO ["Plan"] "weft_take") (var 0)) aNil)))))
    (seqS (setF 4 [] (fun _ => .ok (.dic [])))
    (seqS (forS [0] [5] (bName 5) (itE (op1 (fldO ["Plan"] "warp") (var 0))) l1_yarn_with)
    (seqS (forS [0] [5] (bName 5) (itE (op1 (fldO ["Plan"] "weft") (var 0))) l2_yarn_with)
    (retV 4))))))
def m_yarn_with : List D → R OD := mOf 2 6 b_yarn_with
theorem sc_yarn_with : FnScope ["plan", "times", "end", "pick", "sums", "colour"] ["plan", "times"] (defScope (top 26)) := C8.fnScope_by (by decide +kernel)
theorem t_yarn_with {P : Program} {w : World} {K : PySem.W.Frag} {mg : Str → Option Value} {base : Heap} {f : Addr} (c_taken : DefOk P w K mg base "taken" 2 2 m_taken) (c_length_with : DefOk P w K mg base "length_with" 2 2 m_length_with) (c_width_of : DefOk P w K mg base "width_of" 2 1 m_width_of) (q_Plan : FldC K mg "Plan" ["cloth", "warp", "weft", "sett", "beat", "ends_times", "picks_times", "warp_take", "weft_take", "waste"]) (cdv : Value) (A : Around) (outer : List Env) (s : Shared) (H : Hp) (E : XK) (O : Addr → Prop) (hr : Room 2 (A.deeper (envOfC "yarn_with" (defScope (top 26)) s.heap.objs.size f cdv))) : PSs (cxOf (L2.CX P w) P w K mg base ["plan", "times", "end", "pick", "sums", "colour"] "yarn_with" (defScope (top 26)) f cdv A outer s H E) (defBody (top 26)) (tS ⟨⟨K, mg, none⟩, O, fun _ => False, H⟩ (fun c d _ H' => E c d H') ([2] ++ ([3] ++ ([4] ++ (([5] ++ [4]) ++ (([5] ++ [4]) ++ []))))) b_yarn_with) := by
  have hu := hu64 hr
  have nd := (sc_yarn_with).nd
  exact (DL.s_cons (DL.s_set 2 nd (by rfl) (by first | exact Or.inl (by rfl) | exact Or.inr (by rfl)) (DL.d_add (DL.d_ofF (DL.f_fn c_taken hr (by decide) (takes_of (by rfl) (by rfl) (by rfl) (by rfl)) (by rfl) (DL.d_acons (DL.d_ofF (DL.f_fn c_length_with hr (by decide) (takes_of (by rfl) (by rfl) (by rfl) (by rfl)) (by rfl) (DL.d_acons (DL.d_var 0 (pv 0)) (DL.d_acons (DL.d_var 1 (pv 1)) DL.d_anil)) (DL.len_cons (DL.len_cons DL.len_nil)))) (DL.d_acons (DL.d_fld ["Plan"] (fld_cons q_Plan (by decide) fld_nil) (DL.d_var 0 (pv 0))) DL.d_anil)) (DL.len_cons (DL.len_cons DL.len_nil)))) (DL.d_fld ["Plan"] (fld_cons q_Plan (by decide) fld_nil) (DL.d_var 0 (pv 0)))))
    (DL.s_cons (DL.s_set 3 nd (by rfl) (by first | exact Or.inl (by rfl) | exact Or.inr (by rfl)) (DL.d_ofF (DL.f_fn c_taken hr (by decide) (takes_of (by rfl) (by rfl) (by rfl) (by rfl)) (by rfl) (DL.d_acons (DL.d_ofF (DL.f_fn c_width_of hr (by decide) (takes_of (by rfl) (by rfl) (by rfl) (by rfl)) (by rfl) (DL.d_acons (DL.d_var 0 (pv 0)) DL.d_anil) (DL.len_cons DL.len_nil))) (DL.d_acons (DL.d_fld ["Plan"] (fld_cons q_Plan (by decide) fld_nil) (DL.d_var 0 (pv 0))) DL.d_anil)) (DL.len_cons (DL.len_cons DL.len_nil)))))
    (DL.s_cons (DL.s_setF 4 nd (by rfl) (by first | exact Or.inl (by rfl) | exact Or.inr (by rfl)) DL.f_dnew)
    (DL.s_cons (DL.s_for [5] (passes_of (by rfl)) (by rfl) (DL.i_any (by rfl) (DL.d_fld ["Plan"] (fld_cons q_Plan (by decide) fld_nil) (DL.d_var 0 (pv 0)))) (DL.g_name 5 nd (by rfl) (by first | exact Or.inl (by rfl) | exact Or.inr (by rfl)))
    (DL.s_one (DL.s_put 4 hu (pv 4) (DL.d_add (DL.d_get2 hu (DL.d_var 4 (pv 4)) (DL.d_var 5 (pv 5)) DL.d_int) (DL.d_mul (DL.d_var 2 (pv 2)) (DL.d_fld ["Plan"] (fld_cons q_Plan (by decide) fld_nil) (DL.d_var 0 (pv 0))))) (DL.d_var 5 (pv 5)))) (by decide))
    (DL.s_cons (DL.s_for [5] (passes_of (by rfl)) (by rfl) (DL.i_any (by rfl) (DL.d_fld ["Plan"] (fld_cons q_Plan (by decide) fld_nil) (DL.d_var 0 (pv 0)))) (DL.g_name 5 nd (by rfl) (by first | exact Or.inl (by rfl) | exact Or.inr (by rfl)))
    (DL.s_one (DL.s_put 4 hu (pv 4) (DL.d_add (DL.d_get2 hu (DL.d_var 4 (pv 4)) (DL.d_var 5 (pv 5)) DL.d_int) (DL.d_mul (DL.d_var 3 (pv 3)) (DL.d_var 1 (pv 1)))) (DL.d_var 5 (pv 5)))) (by decide))
    (DL.s_one (DL.s_retV 4 (fun _ z => z) (pv 4))))))))
theorem bi_yarn_with {K : PySem.W.Frag} {f : Addr} {fd : FuncData} (F : FunD K "yarn_with" "yarn_with" (defArgs (top 26)) (defBody (top 26)) (defScope (top 26)) [] [] f fd) : Binds K fd ["plan", "times"] [] := FunD.bindsN F fun _ _ _ _ _ _ us hl => match us, hl with | [_, _], _ => rfl
theorem ok_yarn_with {P : Program} {w : World} {K : PySem.W.Frag} {mg : Str → Option Value} {base : Heap} {f : Addr} {fd : FuncData} (F : FunD K "yarn_with" "yarn_with" (defArgs (top 26)) (defBody (top 26)) (defScope (top 26)) [] [] f fd) (hg : mg "yarn_with" = some (.ref f)) (c_taken : DefOk P w K mg base "taken" 2 2 m_taken) (c_length_with : DefOk P w K mg base "length_with" 2 2 m_length_with) (c_width_of : DefOk P w K mg base "width_of" 2 1 m_width_of) (q_Plan : FldC K mg "Plan" ["cloth", "warp", "weft", "sett", "beat", "ends_times", "picks_times", "warp_take", "weft_take", "waste"]) : DefOk P w K mg base "yarn_with" 3 2 m_yarn_with :=
  def_ok F hg sc_yarn_with rfl (bi_yarn_with F) (t_yarn_with c_taken c_length_with c_width_of q_Plan)
/-! ### is_enough: slots 0=plan 1=times 2=stock 3=sums 4=colour -/
def b_is_enough : En → Out := (seqS (setS 3 ([0] ++ ([1] ++ [])) (erE (callE m_yarn_with (aCons (var 0) (aCons (var 1) aNil)))))
    (retS [] (op2 dNotIn (con (.bl false)) (erE (lkF 3 (lcE [] [4] (bName 4) (keysE 3) tYesD (op2 dLe (op2 dGetD (var 3) (var 4)) (getE2 (var 2) (var 4) (con (.int 0))))))))))
def m_is_enough : List D → R OD := mOf 3 5 b_is_enough
theorem sc_is_enough : FnScope ["plan", "times", "stock", "sums", "colour"] ["plan", "times", "stock"] (defScope (top 31)) := C8.fnScope_by (by decide +kernel)
theorem t_is_enough {P : Program} {w : World} {K : PySem.W.Frag} {mg : Str → Option Value} {base : Heap} {f : Addr} (c_yarn_with : DefOk P w K mg base "yarn_with" 3 2 m_yarn_with) (cdv : Value) (A : Around) (outer : List Env) (s : Shared) (H : Hp) (E : XK) (O : Addr → Prop) (hr : Room 3 (A.deeper (envOfC "is_enough" (defScope (top 31)) s.heap.objs.size f cdv))) : PSs (cxOf (L2.CX P w) P w K mg base ["plan", "times", "stock", "sums", "colour"] "is_enough" (defScope (top 31)) f cdv A outer s H E) (defBody (top 31)) (tS ⟨⟨K, mg, none⟩, O, fun _ => False, H⟩ (fun c d _ H' => E c d H') ([3] ++ []) b_is_enough) := by
  have hu := hu64 hr
  have nd := (sc_is_enough).nd
  exact (DL.s_cons (DL.s_set 3 nd (by rfl) (by first | exact Or.inl (by rfl) | exact Or.inr (by rfl)) (DL.d_ofF (DL.f_fn c_yarn_with hr (by decide) (takes_of (by rfl) (by rfl) (by rfl) (by rfl)) (by rfl) (DL.d_acons (DL.d_var 0 (pv 0)) (DL.d_acons (DL.d_var 1 (pv 1)) DL.d_anil)) (DL.len_cons (DL.len_cons DL.len_nil)))))
    (DL.s_one (DL.s_ret (DL.d_notIn (by rfl) hu DL.d_bl (DL.d_ofF (DL.f_lcK 3 (by rfl) nd (own := [("colour", 4)]) (E1 := []) (pv 3) (blkOk_by (N := ["plan", "times", "stock", "sums", "colour"]) (sc := (defScope (top 31))) (by decide +kernel)) (by decide) (fun _ _ _ _ _ _ => (DL.g_name 4 nd (by rfl) (by first | exact Or.inl (by rfl) | exact Or.inr (by rfl)))) (fun _ _ _ _ _ _ => DL.t_nil) (fun _ _ _ _ _ _ => (DL.d_le (DL.d_dget hu (DL.d_var 3 (pv 3)) (DL.d_var 4 (pv 4))) (DL.d_get2 hu (DL.d_var 2 (pv 2)) (DL.d_var 4 (pv 4)) DL.d_int)))))))))
theorem bi_is_enough {K : PySem.W.Frag} {f : Addr} {fd : FuncData} (F : FunD K "is_enough" "is_enough" (defArgs (top 31)) (defBody (top 31)) (defScope (top 31)) [] [] f fd) : Binds K fd ["plan", "times", "stock"] [] := FunD.bindsN F fun _ _ _ _ _ _ us hl => match us, hl with | [_, _, _], _ => rfl
theorem ok_is_enough {P : Program} {w : World} {K : PySem.W.Frag} {mg : Str → Option Value} {base : Heap} {f : Addr} {fd : FuncData} (F : FunD K "is_enough" "is_enough" (defArgs (top 31)) (defBody (top 31)) (defScope (top 31)) [] [] f fd) (hg : mg "is_enough" = some (.ref f)) (c_yarn_with : DefOk P w K mg base "yarn_with" 3 2 m_yarn_with) : DefOk P w K mg base "is_enough" 4 3 m_is_enough :=
  def_ok F hg sc_is_enough rfl (bi_is_enough F) (t_is_enough c_yarn_with)
/-! ### greatest_times: slots 0=plan 1=stock 2=colour 3=low 4=high 5=middle -/
def l1_greatest_times : En → Out := (ifS (tst (op2 dLt (op2 dGetD (var 1) (var 2)) (con (.int 0)))) (DLX.raiseS "OutOfRange" 1 l_OutOfRange (aCons (op2 dGetD (var 1) (var 2)) aNil)) nxS)
def l2_greatest_times : En → Out := (seqS (setS 5 [] (op2 dDiv (op2 dAdd (var 3) (var 4)) (con (.int 2))))
    (ifS (tst (erE (callE m_is_enough (aCons (var 0) (aCons (var 5) (aCons (var 1) aNil)))))) (setS 3 [5] (var 5)) (setS 4 [5] (var 5))))
def b_greatest_times : En → Out := (seqS (forS (([1] ++ []) ++ []) [2] (bName 2) (itE (erE (opAF fSortedS (aCons (erE (opAF fListD (aCons (var 1) aNil))) aNil)))) l1_greatest_times)
    (seqS (setS 3 [] (con (.int 0)))
    (seqS (setS 4 ([] ++ []) (op2 dAdd (con (.int 1000)) (con (.int 1))))
    (seqS (whS [5] (tst (op2 dLt (op2 dAdd (var 3) (con (.int 1))) (var 4))) l2_greatest_times 100000)
    (retS [3] (var 3))))))
def m_greatest_times : List D → R OD := mOf 2 6 b_greatest_times
theorem sc_greatest_times : FnScope ["plan", "stock", "colour", "low", "high", "middle"] ["plan", "stock"] (defScope (top 32)) := C8.fnScope_by (by decide +kernel)
theorem t_greatest_times {P : Program} {w : World} {K : PySem.W.Frag} {mg : Str → Option Value} {base : Heap} {f : Addr} (c_is_enough : DefOk P w K mg base "is_enough" 4 3 m_is_enough) (n_list : mg "list" = none) (n_sorted : mg "sorted" = none) (g_MOST_TIMES : ∃ t, mg "MOST_TIMES" = some (.int 1000 t)) (x_OutOfRange : DLX.ExC P w K mg base "OutOfRange" 1 l_OutOfRange) (cdv : Value) (A : Around) (outer : List Env) (s : Shared) (H : Hp) (E : XK) (O : Addr → Prop) (hr : Room 4 (A.deeper (envOfC "greatest_times" (defScope (top 32)) s.heap.objs.size f cdv))) : PSs (cxOf (L2.CX P w) P w K mg base ["plan", "stock", "colour", "low", "high", "middle"] "greatest_times" (defScope (top 32)) f cdv A outer s H E) (defBody (top 32)) (tS ⟨⟨K, mg, none⟩, O, fun _ => False, H⟩ (fun c d _ H' => E c d H') (([2] ++ ([] ++ [])) ++ ([3] ++ ([4] ++ (([5] ++ ([3] ++ [4])) ++ [])))) b_greatest_times) := by
  have hu := hu64 hr
  have nd := (sc_greatest_times).nd
  exact (DL.s_cons (DL.s_for [2] (passes_of (by rfl)) (by rfl) (DL.i_any (by rfl) (DL.d_ofF (DL.f_sortedS (by rfl) (by rfl) n_sorted (DL.d_acons (DL.d_ofF (DL.f_listD (by rfl) (by rfl) (by rfl) n_list (DL.d_acons (DL.d_var 1 (pv 1)) DL.d_anil))) DL.d_anil)))) (DL.g_name 2 nd (by rfl) (by first | exact Or.inl (by rfl) | exact Or.inr (by rfl)))
    (DL.s_one (DL.s_if (DL.t_lt (DL.d_dget hu (DL.d_var 1 (pv 1)) (DL.d_var 2 (pv 2))) DL.d_int) (DL.s_one (DLX.s_raise x_OutOfRange hr (by decide) (by rfl) (takes_of (by rfl) (by rfl) (by rfl) (by rfl)) (by rfl) (DL.d_acons (DL.d_dget hu (DL.d_var 1 (pv 1)) (DL.d_var 2 (pv 2))) DL.d_anil))) DL.s_nil)) (by decide))
    (DL.s_cons (DL.s_set 3 nd (by rfl) (by first | exact Or.inl (by rfl) | exact Or.inr (by rfl)) DL.d_int)
    (DL.s_cons (DL.s_set 4 nd (by rfl) (by first | exact Or.inl (by rfl) | exact Or.inr (by rfl)) (DL.d_add (DL.d_globI (by rfl) g_MOST_TIMES) DL.d_int))
    (DL.s_cons (DL.s_while [5] 100000 (passes_of (by rfl)) (DL.t_lt (DL.d_add (DL.d_var 3 (pv 3)) DL.d_int) (DL.d_var 4 (pv 4)))
    (DL.s_cons (DL.s_set 5 nd (by rfl) (by first | exact Or.inl (by rfl) | exact Or.inr (by rfl)) (DL.d_div (DL.d_add (DL.d_var 3 (pv 3)) (DL.d_var 4 (pv 4))) DL.d_int))
    (DL.s_one (DL.s_if (DL.t_of (DL.d_ofF (DL.f_fn c_is_enough hr (by decide) (takes_of (by rfl) (by rfl) (by rfl) (by rfl)) (by rfl) (DL.d_acons (DL.d_var 0 (pv 0)) (DL.d_acons (DL.d_var 5 (pv 5)) (DL.d_acons (DL.d_var 1 (pv 1)) DL.d_anil))) (DL.len_cons (DL.len_cons (DL.len_cons DL.len_nil)))))) (DL.s_one (DL.s_set 3 nd (by rfl) (by first | exact Or.inl (by rfl) | exact Or.inr (by rfl)) (DL.d_var 5 (pv 5)))) (DL.s_one (DL.s_set 4 nd (by rfl) (by first | exact Or.inl (by rfl) | exact Or.inr (by rfl)) (DL.d_var 5 (pv 5))))))))
    (DL.s_one (DL.s_ret (DL.d_var 3 (pv 3))))))))
theorem bi_greatest_times {K : PySem.W.Frag} {f : Addr} {fd : FuncData} (F : FunD K "greatest_times" "greatest_times" (defArgs (top 32)) (defBody (top 32)) (defScope (top 32)) [] [] f fd) : Binds K fd ["plan", "stock"] [] := FunD.bindsN F fun _ _ _ _ _ _ us hl => match us, hl with | [_, _], _ => rfl
theorem ok_greatest_times {P : Program} {w : World} {K : PySem.W.Frag} {mg : Str → Option Value} {base : Heap} {f : Addr} {fd : FuncData} (F : FunD K "greatest_times" "greatest_times" (defArgs (top 32)) (defBody (top 32)) (defScope (top 32)) [] [] f fd) (hg : mg "greatest_times" = some (.ref f)) (c_is_enough : DefOk P w K mg base "is_enough" 4 3 m_is_enough) (n_list : mg "list" = none) (n_sorted : mg "sorted" = none) (g_MOST_TIMES : ∃ t, mg "MOST_TIMES" = some (.int 1000 t)) (x_OutOfRange : DLX.ExC P w K mg base "OutOfRange" 1 l_OutOfRange) : DefOk P w K mg base "greatest_times" 5 2 m_greatest_times :=
  def_ok F hg sc_greatest_times rfl (bi_greatest_times F) (t_greatest_times c_is_enough n_list n_sorted g_MOST_TIMES x_OutOfRange)
/-! ### _law_stock: slots 0=plan 1=e -/
def b__law_stock : En → Out := (DLX.tryS (seqS (exprS (erE (callE m_greatest_times (aCons (var 0) (aCons (erE (dispE [([114, 101, 100], -5), ([98, 108, 117, 101], -4)])) aNil)))))
    (retS [] (con .non))) [⟨tab_OutOfRange, some (1, "OutOfRange"), (retS [] (DLX.fldE "value" 1))⟩])
def m__law_stock : List D → R OD := mOf 1 2 b__law_stock
theorem sc__law_stock : FnScope ["plan", "e"] ["plan"] (defScope (top 42)) := C8.fnScope_by (by decide +kernel)
theorem t__law_stock {P : Program} {w : World} {K : PySem.W.Frag} {mg : Str → Option Value} {base : Heap} {f : Addr} (c_greatest_times : DefOk P w K mg base "greatest_times" 5 2 m_greatest_times) (h_OutOfRange : ∃ D : Addr, mg "OutOfRange" = some (.ref D) ∧ DLX.TabOk K mg tab_OutOfRange (.ref D)) (y_OutOfRange : ∀ C : Addr, mg "OutOfRange" = some (.ref C) → XfC K C ∧ ∀ f ∈ [("label" : Str), ("value" : Str)], PySem.W.findIn K (.ref C) f = some none) (cdv : Value) (A : Around) (outer : List Env) (s : Shared) (H : Hp) (E : XK) (O : Addr → Prop) (hr : Room 5 (A.deeper (envOfC "_law_stock" (defScope (top 42)) s.heap.objs.size f cdv))) : PSs (cxOf (L2.CX P w) P w K mg base ["plan", "e"] "_law_stock" (defScope (top 42)) f cdv A outer s H E) (defBody (top 42)) (tS ⟨⟨K, mg, none⟩, O, fun _ => False, H⟩ (fun c d _ H' => E c d H') (([] ++ []) ++ (([] ++ [1]) ++ [])) b__law_stock) := by
  have hu := hu64 hr
  have nd := (sc__law_stock).nd
  obtain ⟨D_OutOfRange, m_OutOfRange, htab_OutOfRange⟩ := h_OutOfRange
  exact (DL.s_one (DLX.s_try (([] ++ [1]) ++ []) nd (takes_of (by rfl) (by rfl) (by rfl) (by rfl)) (fun W_ pn_ xe_ tk_ po_ => (DL.s_cons (DL.s_expr (DL.d_ofF (DL.f_fn c_greatest_times hr (by decide) (tk_) (by rfl) (DL.d_acons (DL.d_var 0 (pv 0)) (DL.d_acons (DL.d_ofF (DL.f_disp [(("red" : Str), ((-5) : Int)), (("blue" : Str), ((-4) : Int))] [([114, 101, 100], -5), ([98, 108, 117, 101], -4)] (pps_cons pe_str (c_neg pe_int) (pps_cons pe_str (c_neg pe_int) pps_nil)) (by rfl) (by rfl) (by simp) (by decide) (by decide) (by rfl) (by decide))) DL.d_anil)) (DL.len_cons (DL.len_cons DL.len_nil)))))
    (DL.s_one (DL.s_ret DL.d_non))))
    (DLX.HdOk.as (i := 1) (by rfl) (by decide) m_OutOfRange htab_OutOfRange (by decide) (by decide) (by rfl) (by rfl) (fun a_ oe_ C_ dx_ pn_ hm_ hz_ hf_ => (DL.s_one (DL.s_ret (DLX.d_xf (y_OutOfRange C_ hm_).1 ((y_OutOfRange C_ hm_).2 "value" (by decide)) hz_ hf_ (pv 1))))) DLX.HdOk.nil)))
theorem bi__law_stock {K : PySem.W.Frag} {f : Addr} {fd : FuncData} (F : FunD K "_law_stock" "_law_stock" (defArgs (top 42)) (defBody (top 42)) (defScope (top 42)) [] [] f fd) : Binds K fd ["plan"] [] := FunD.bindsN F fun _ _ _ _ _ _ us hl => match us, hl with | [_], _ => rfl
theorem ok__law_stock {P : Program} {w : World} {K : PySem.W.Frag} {mg : Str → Option Value} {base : Heap} {f : Addr} {fd : FuncData} (F : FunD K "_law_stock" "_law_stock" (defArgs (top 42)) (defBody (top 42)) (defScope (top 42)) [] [] f fd) (hg : mg "_law_stock" = some (.ref f)) (c_greatest_times : DefOk P w K mg base "greatest_times" 5 2 m_greatest_times) (h_OutOfRange : ∃ D : Addr, mg "OutOfRange" = some (.ref D) ∧ DLX.TabOk K mg tab_OutOfRange (.ref D)) (y_OutOfRange : ∀ C : Addr, mg "OutOfRange" = some (.ref C) → XfC K C ∧ ∀ f ∈ [("label" : Str), ("value" : Str)], PySem.W.findIn K (.ref C) f = some none) : DefOk P w K mg base "_law_stock" 6 1 m__law_stock :=
  def_ok F hg sc__law_stock rfl (bi__law_stock F) (t__law_stock c_greatest_times h_OutOfRange y_OutOfRange)
/-! ### length_of: slots 0=plan -/
def b_length_of : En → Out := (retF ([0] ++ ([0] ++ [])) (callE m_length_with (aCons (var 0) (aCons (op1 (fldO ["Plan"] "picks_times") (var 0)) aNil))))
def m_length_of : List D → R OD := mOf 1 1 b_length_of
theorem sc_length_of : FnScope ["plan"] ["plan"] (defScope (top 24)) := C8.fnScope_by (by decide +kernel)
theorem t_length_of {P : Program} {w : World} {K : PySem.W.Frag} {mg : Str → Option Value} {base : Heap} {f : Addr} (c_length_with : DefOk P w K mg base "length_with" 2 2 m_length_with) (q_Plan : FldC K mg "Plan" ["cloth", "warp", "weft", "sett", "beat", "ends_times", "picks_times", "warp_take", "weft_take", "waste"]) (cdv : Value) (A : Around) (outer : List Env) (s : Shared) (H : Hp) (E : XK) (O : Addr → Prop) (hr : Room 2 (A.deeper (envOfC "length_of" (defScope (top 24)) s.heap.objs.size f cdv))) : PSs (cxOf (L2.CX P w) P w K mg base ["plan"] "length_of" (defScope (top 24)) f cdv A outer s H E) (defBody (top 24)) (tS ⟨⟨K, mg, none⟩, O, fun _ => False, H⟩ (fun c d _ H' => E c d H') [] b_length_of) := by
  have hu := hu64 hr
  have nd := (sc_length_of).nd
  exact (DL.s_one (DL.s_retF (DL.f_fn c_length_with hr (by decide) (takes_of (by rfl) (by rfl) (by rfl) (by rfl)) (by rfl) (DL.d_acons (DL.d_var 0 (pv 0)) (DL.d_acons (DL.d_fld ["Plan"] (fld_cons q_Plan (by decide) fld_nil) (DL.d_var 0 (pv 0))) DL.d_anil)) (DL.len_cons (DL.len_cons DL.len_nil)))))
theorem bi_length_of {K : PySem.W.Frag} {f : Addr} {fd : FuncData} (F : FunD K "length_of" "length_of" (defArgs (top 24)) (defBody (top 24)) (defScope (top 24)) [] [] f fd) : Binds K fd ["plan"] [] := FunD.bindsN F fun _ _ _ _ _ _ us hl => match us, hl with | [_], _ => rfl
theorem ok_length_of {P : Program} {w : World} {K : PySem.W.Frag} {mg : Str → Option Value} {base : Heap} {f : Addr} {fd : FuncData} (F : FunD K "length_of" "length_of" (defArgs (top 24)) (defBody (top 24)) (defScope (top 24)) [] [] f fd) (hg : mg "length_of" = some (.ref f)) (c_length_with : DefOk P w K mg base "length_with" 2 2 m_length_with) (q_Plan : FldC K mg "Plan" ["cloth", "warp", "weft", "sett", "beat", "ends_times", "picks_times", "warp_take", "weft_take", "waste"]) : DefOk P w K mg base "length_of" 3 1 m_length_of :=
  def_ok F hg sc_length_of rfl (bi_length_of F) (t_length_of c_length_with q_Plan)
/-! ### _law_whole: slots 0=x -/
def b__law_whole : En → Out := (retS [] (andV (op1 (isD .int) (var 0)) (notV (op1 (isD .bool) (var 0)))))
def m__law_whole : List D → R OD := mOf 1 1 b__law_whole
theorem sc__law_whole : FnScope ["x"] ["x"] (defScope (top 36)) := C8.fnScope_by (by decide +kernel)
theorem t__law_whole {P : Program} {w : World} {K : PySem.W.Frag} {mg : Str → Option Value} {base : Heap} {f : Addr} (n_isinstance : mg "isinstance" = none) (n_int : mg "int" = none) (n_bool : mg "bool" = none) (cdv : Value) (A : Around) (outer : List Env) (s : Shared) (H : Hp) (E : XK) (O : Addr → Prop) (hr : Room 0 (A.deeper (envOfC "_law_whole" (defScope (top 36)) s.heap.objs.size f cdv))) : PSs (cxOf (L2.CX P w) P w K mg base ["x"] "_law_whole" (defScope (top 36)) f cdv A outer s H E) (defBody (top 36)) (tS ⟨⟨K, mg, none⟩, O, fun _ => False, H⟩ (fun c d _ H' => E c d H') [] b__law_whole) := by
  have hu := hu64 hr
  have nd := (sc__law_whole).nd
  exact (DL.s_one (DL.s_ret (DL.v_and (DL.d_isi .int (by rfl) (by rfl) n_isinstance (by rfl) n_int (by rfl) (DL.d_var 0 (pv 0))) (DL.d_one (DL.d_notV (DL.d_isi .bool (by rfl) (by rfl) n_isinstance (by rfl) n_bool (by rfl) (DL.d_var 0 (pv 0))))))))
theorem bi__law_whole {K : PySem.W.Frag} {f : Addr} {fd : FuncData} (F : FunD K "_law_whole" "_law_whole" (defArgs (top 36)) (defBody (top 36)) (defScope (top 36)) [] [] f fd) : Binds K fd ["x"] [] := FunD.bindsN F fun _ _ _ _ _ _ us hl => match us, hl with | [_], _ => rfl
theorem ok__law_whole {P : Program} {w : World} {K : PySem.W.Frag} {mg : Str → Option Value} {base : Heap} {f : Addr} {fd : FuncData} (F : FunD K "_law_whole" "_law_whole" (defArgs (top 36)) (defBody (top 36)) (defScope (top 36)) [] [] f fd) (hg : mg "_law_whole" = some (.ref f)) (n_isinstance : mg "isinstance" = none) (n_int : mg "int" = none) (n_bool : mg "bool" = none) : DefOk P w K mg base "_law_whole" 1 1 m__law_whole :=
  def_ok F hg sc__law_whole rfl (bi__law_whole F) (t__law_whole n_isinstance n_int n_bool)
/-! ### yarn_of: slots 0=plan 1=sums 2=colour -/
def b_yarn_of : En → Out := (seqS (setS 1 ([0] ++ ([0] ++ [])) (erE (callE m_yarn_with (aCons (var 0) (aCons (op1 (fldO ["Plan"] "picks_times") (var 0)) aNil)))))
    (retF [1] (lkF 1 (lcE [] [2] (bName 2) (keysE 1) tYesD (tupE (aCons (var 2) (aCons (op2 dGetD (var 1) (var 2)) aNil)))))))
def m_yarn_of : List D → R OD := mOf 1 3 b_yarn_of
theorem sc_yarn_of : FnScope ["plan", "sums", "colour"] ["plan"] (defScope (top 27)) := C8.fnScope_by (by decide +kernel)
theorem t_yarn_of {P : Program} {w : World} {K : PySem.W.Frag} {mg : Str → Option Value} {base : Heap} {f : Addr} (c_yarn_with : DefOk P w K mg base "yarn_with" 3 2 m_yarn_with) (q_Plan : FldC K mg "Plan" ["cloth", "warp", "weft", "sett", "beat", "ends_times", "picks_times", "warp_take", "weft_take", "waste"]) (cdv : Value) (A : Around) (outer : List Env) (s : Shared) (H : Hp) (E : XK) (O : Addr → Prop) (hr : Room 3 (A.deeper (envOfC "yarn_of" (defScope (top 27)) s.heap.objs.size f cdv))) : PSs (cxOf (L2.CX P w) P w K mg base ["plan", "sums", "colour"] "yarn_of" (defScope (top 27)) f cdv A outer s H E) (defBody (top 27)) (tS ⟨⟨K, mg, none⟩, O, fun _ => False, H⟩ (fun c d _ H' => E c d H') ([1] ++ []) b_yarn_of) := by
  have hu := hu64 hr
  have nd := (sc_yarn_of).nd
  exact (DL.s_cons (DL.s_set 1 nd (by rfl) (by first | exact Or.inl (by rfl) | exact Or.inr (by rfl)) (DL.d_ofF (DL.f_fn c_yarn_with hr (by decide) (takes_of (by rfl) (by rfl) (by rfl) (by rfl)) (by rfl) (DL.d_acons (DL.d_var 0 (pv 0)) (DL.d_acons (DL.d_fld ["Plan"] (fld_cons q_Plan (by decide) fld_nil) (DL.d_var 0 (pv 0))) DL.d_anil)) (DL.len_cons (DL.len_cons DL.len_nil)))))
    (DL.s_one (DL.s_retF (DL.f_lcK 1 (by rfl) nd (own := [("colour", 2)]) (E1 := ([2] ++ (([1] ++ [2]) ++ []))) (pv 1) (blkOk_by (N := ["plan", "sums", "colour"]) (sc := (defScope (top 27))) (by decide +kernel)) (by decide) (fun _ _ _ _ _ _ => (DL.g_name 2 nd (by rfl) (by first | exact Or.inl (by rfl) | exact Or.inr (by rfl)))) (fun _ _ _ _ _ _ => DL.t_nil) (fun _ _ _ _ _ _ => (DL.d_tup (DL.d_acons (DL.d_var 2 (pv 2)) (DL.d_acons (DL.d_dget hu (DL.d_var 1 (pv 1)) (DL.d_var 2 (pv 2))) DL.d_anil))))))))
theorem bi_yarn_of {K : PySem.W.Frag} {f : Addr} {fd : FuncData} (F : FunD K "yarn_of" "yarn_of" (defArgs (top 27)) (defBody (top 27)) (defScope (top 27)) [] [] f fd) : Binds K fd ["plan"] [] := FunD.bindsN F fun _ _ _ _ _ _ us hl => match us, hl with | [_], _ => rfl
theorem ok_yarn_of {P : Program} {w : World} {K : PySem.W.Frag} {mg : Str → Option Value} {base : Heap} {f : Addr} {fd : FuncData} (F : FunD K "yarn_of" "yarn_of" (defArgs (top 27)) (defBody (top 27)) (defScope (top 27)) [] [] f fd) (hg : mg "yarn_of" = some (.ref f)) (c_yarn_with : DefOk P w K mg base "yarn_with" 3 2 m_yarn_with) (q_Plan : FldC K mg "Plan" ["cloth", "warp", "weft", "sett", "beat", "ends_times", "picks_times", "warp_take", "weft_take", "waste"]) : DefOk P w K mg base "yarn_of" 4 1 m_yarn_of :=
  def_ok F hg sc_yarn_of rfl (bi_yarn_of F) (t_yarn_of c_yarn_with q_Plan)
/-! ### runs_of: slots 0=colours 1=runs 2=colour -/
def l1_runs_of : En → Out := (ifS (andT (tst (op2 dGt (opA dLen (aCons (var 1) aNil)) (con (.int 0)))) (tst (op2 dEq (op2 dIx (op2 dIx (var 1) (op1 dNeg (con (.int 1)))) (con (.int 0))) (var 2)))) (subS 1 ([2] ++ ([] ++ [])) (tupE (aCons (var 2) (aCons (op2 dAddI (op2 dIx (op2 dIx (var 1) (op1 dNeg (con (.int 1)))) (con (.int 1))) (con (.int 1))) aNil))) (op1 dNeg (con (.int 1)))) (appS 1 ([2] ++ ([] ++ [])) (tupE (aCons (var 2) (aCons (con (.int 1)) aNil)))))
def b_runs_of : En → Out := (seqS (setF 1 [] (lstE aNil))
    (seqS (forS [0] [2] (bName 2) (itE (var 0)) l1_runs_of)
    (retV 1)))
def m_runs_of : List D → R OD := mOf 1 3 b_runs_of
theorem sc_runs_of : FnScope ["colours", "runs", "colour"] ["colours"] (defScope (top 28)) := C8.fnScope_by (by decide +kernel)
theorem t_runs_of {P : Program} {w : World} {K : PySem.W.Frag} {mg : Str → Option Value} {base : Heap} {f : Addr} (n_len : mg "len" = none) (cdv : Value) (A : Around) (outer : List Env) (s : Shared) (H : Hp) (E : XK) (O : Addr → Prop) (hr : Room 0 (A.deeper (envOfC "runs_of" (defScope (top 28)) s.heap.objs.size f cdv))) : PSs (cxOf (L2.CX P w) P w K mg base ["colours", "runs", "colour"] "runs_of" (defScope (top 28)) f cdv A outer s H E) (defBody (top 28)) (tS ⟨⟨K, mg, none⟩, O, fun _ => False, H⟩ (fun c d _ H' => E c d H') ([1] ++ (([2] ++ ([1] ++ [1])) ++ [])) b_runs_of) := by
  have hu := hu64 hr
  have nd := (sc_runs_of).nd
  exact (DL.s_cons (DL.s_setF 1 nd (by rfl) (by first | exact Or.inl (by rfl) | exact Or.inr (by rfl)) (DL.f_lst DL.d_anil))
    (DL.s_cons (DL.s_for [2] (passes_of (by rfl)) (by rfl) (DL.i_any (by rfl) (DL.d_var 0 (pv 0))) (DL.g_name 2 nd (by rfl) (by first | exact Or.inl (by rfl) | exact Or.inr (by rfl)))
    (DL.s_one (DL.s_if (DL.d_and (DL.t_gt (DL.d_len (by rfl) (by rfl) n_len (DL.d_acons (DL.d_var 1 (pv 1)) DL.d_anil)) DL.d_int) (DL.t_and1 (DL.t_eq (by rfl) hu (DL.d_ix (by rfl) (fun _ _ => (by rfl)) (DL.d_ix (by rfl) (fun _ _ => (by rfl)) (DL.d_var 1 (pv 1)) (DL.d_neg DL.d_int)) DL.d_int) (DL.d_var 2 (pv 2))))).pt (DL.s_one (DL.s_sub 1 (pv 1) (DL.d_tup (DL.d_acons (DL.d_var 2 (pv 2)) (DL.d_acons (DL.d_addI (DL.d_ix (by rfl) (fun _ _ => (by rfl)) (DL.d_ix (by rfl) (fun _ _ => (by rfl)) (DL.d_var 1 (pv 1)) (DL.d_neg DL.d_int)) DL.d_int) DL.d_int) DL.d_anil))) (DL.d_neg DL.d_int))) (DL.s_one (DL.s_app 1 (pv 1) (DL.d_tup (DL.d_acons (DL.d_var 2 (pv 2)) (DL.d_acons DL.d_int DL.d_anil))))))) (by decide))
    (DL.s_one (DL.s_retV 1 (fun _ z => z) (pv 1)))))
theorem bi_runs_of {K : PySem.W.Frag} {f : Addr} {fd : FuncData} (F : FunD K "runs_of" "runs_of" (defArgs (top 28)) (defBody (top 28)) (defScope (top 28)) [] [] f fd) : Binds K fd ["colours"] [] := FunD.bindsN F fun _ _ _ _ _ _ us hl => match us, hl with | [_], _ => rfl
theorem ok_runs_of {P : Program} {w : World} {K : PySem.W.Frag} {mg : Str → Option Value} {base : Heap} {f : Addr} {fd : FuncData} (F : FunD K "runs_of" "runs_of" (defArgs (top 28)) (defBody (top 28)) (defScope (top 28)) [] [] f fd) (hg : mg "runs_of" = some (.ref f)) (n_len : mg "len" = none) : DefOk P w K mg base "runs_of" 1 1 m_runs_of :=
  def_ok F hg sc_runs_of rfl (bi_runs_of F) (t_runs_of n_len)
/-! ### warp_order: slots 0=plan -/
def b_warp_order : En → Out := (retF (([0] ++ [0]) ++ []) (callE m_runs_of (aCons (op2 dMul (op1 (fldO ["Plan"] "warp") (var 0)) (op1 (fldO ["Plan"] "ends_times") (var 0))) aNil)))
def m_warp_order : List D → R OD := mOf 1 1 b_warp_order
theorem sc_warp_order : FnScope ["plan"] ["plan"] (defScope (top 29)) := C8.fnScope_by (by decide +kernel)
theorem t_warp_order {P : Program} {w : World} {K : PySem.W.Frag} {mg : Str → Option Value} {base : Heap} {f : Addr} (c_runs_of : DefOk P w K mg base "runs_of" 1 1 m_runs_of) (q_Plan : FldC K mg "Plan" ["cloth", "warp", "weft", "sett", "beat", "ends_times", "picks_times", "warp_take", "weft_take", "waste"]) (cdv : Value) (A : Around) (outer : List Env) (s : Shared) (H : Hp) (E : XK) (O : Addr → Prop) (hr : Room 1 (A.deeper (envOfC "warp_order" (defScope (top 29)) s.heap.objs.size f cdv))) : PSs (cxOf (L2.CX P w) P w K mg base ["plan"] "warp_order" (defScope (top 29)) f cdv A outer s H E) (defBody (top 29)) (tS ⟨⟨K, mg, none⟩, O, fun _ => False, H⟩ (fun c d _ H' => E c d H') [] b_warp_order) := by
  have hu := hu64 hr
  have nd := (sc_warp_order).nd
  exact (DL.s_one (DL.s_retF (DL.f_fn c_runs_of hr (by decide) (takes_of (by rfl) (by rfl) (by rfl) (by rfl)) (by rfl) (DL.d_acons (DL.d_mul (DL.d_fld ["Plan"] (fld_cons q_Plan (by decide) fld_nil) (DL.d_var 0 (pv 0))) (DL.d_fld ["Plan"] (fld_cons q_Plan (by decide) fld_nil) (DL.d_var 0 (pv 0)))) DL.d_anil) (DL.len_cons DL.len_nil))))
theorem bi_warp_order {K : PySem.W.Frag} {f : Addr} {fd : FuncData} (F : FunD K "warp_order" "warp_order" (defArgs (top 29)) (defBody (top 29)) (defScope (top 29)) [] [] f fd) : Binds K fd ["plan"] [] := FunD.bindsN F fun _ _ _ _ _ _ us hl => match us, hl with | [_], _ => rfl
theorem ok_warp_order {P : Program} {w : World} {K : PySem.W.Frag} {mg : Str → Option Value} {base : Heap} {f : Addr} {fd : FuncData} (F : FunD K "warp_order" "warp_order" (defArgs (top 29)) (defBody (top 29)) (defScope (top 29)) [] [] f fd) (hg : mg "warp_order" = some (.ref f)) (c_runs_of : DefOk P w K mg base "runs_of" 1 1 m_runs_of) (q_Plan : FldC K mg "Plan" ["cloth", "warp", "weft", "sett", "beat", "ends_times", "picks_times", "warp_take", "weft_take", "waste"]) : DefOk P w K mg base "warp_order" 2 1 m_warp_order :=
  def_ok F hg sc_warp_order rfl (bi_warp_order F) (t_warp_order c_runs_of q_Plan)
/-! ### _law_runs: slots 0=colours 1=times 2=rows 3=colour -/
def l1__law_runs : En → Out := (ifS (andT (tst (op2 dGt (opA dLen (aCons (var 2) aNil)) (con (.int 0)))) (tst (op2 dEq (op2 dIx (op2 dIx (var 2) (op2 dSub (opA dLen (aCons (var 2) aNil)) (con (.int 1)))) (con (.int 0))) (var 3)))) (subS 2 ([3] ++ ([] ++ [])) (tupE (aCons (var 3) (aCons (op2 dAddI (op2 dIx (op2 dIx (var 2) (op2 dSub (opA dLen (aCons (var 2) aNil)) (con (.int 1)))) (con (.int 1))) (con (.int 1))) aNil))) (op2 dSub (opA dLen (aCons (var 2) aNil)) (con (.int 1)))) (appS 2 ([3] ++ ([] ++ [])) (tupE (aCons (var 3) (aCons (con (.int 1)) aNil)))))
def b__law_runs : En → Out := (seqS (setF 2 [] (lstE aNil))
    (seqS (forS ([0] ++ [1]) [3] (bName 3) (itE (op2 dMul (var 0) (var 1))) l1__law_runs)
    (retV 2)))
def m__law_runs : List D → R OD := mOf 2 4 b__law_runs
theorem sc__law_runs : FnScope ["colours", "times", "rows", "colour"] ["colours", "times"] (defScope (top 41)) := C8.fnScope_by (by decide +kernel)
theorem t__law_runs {P : Program} {w : World} {K : PySem.W.Frag} {mg : Str → Option Value} {base : Heap} {f : Addr} (n_len : mg "len" = none) (cdv : Value) (A : Around) (outer : List Env) (s : Shared) (H : Hp) (E : XK) (O : Addr → Prop) (hr : Room 0 (A.deeper (envOfC "_law_runs" (defScope (top 41)) s.heap.objs.size f cdv))) : PSs (cxOf (L2.CX P w) P w K mg base ["colours", "times", "rows", "colour"] "_law_runs" (defScope (top 41)) f cdv A outer s H E) (defBody (top 41)) (tS ⟨⟨K, mg, none⟩, O, fun _ => False, H⟩ (fun c d _ H' => E c d H') ([2] ++ (([3] ++ ([2] ++ [2])) ++ [])) b__law_runs) := by
  have hu := hu64 hr
  have nd := (sc__law_runs).nd
  exact (DL.s_cons (DL.s_setF 2 nd (by rfl) (by first | exact Or.inl (by rfl) | exact Or.inr (by rfl)) (DL.f_lst DL.d_anil))
    (DL.s_cons (DL.s_for [3] (passes_of (by rfl)) (by rfl) (DL.i_any (by rfl) (DL.d_mul (DL.d_var 0 (pv 0)) (DL.d_var 1 (pv 1)))) (DL.g_name 3 nd (by rfl) (by first | exact Or.inl (by rfl) | exact Or.inr (by rfl)))
    (DL.s_one (DL.s_if (DL.d_and (DL.t_gt (DL.d_len (by rfl) (by rfl) n_len (DL.d_acons (DL.d_var 2 (pv 2)) DL.d_anil)) DL.d_int) (DL.t_and1 (DL.t_eq (by rfl) hu (DL.d_ix (by rfl) (fun _ _ => (by rfl)) (DL.d_ix (by rfl) (fun _ _ => (by rfl)) (DL.d_var 2 (pv 2)) (DL.d_sub (DL.d_len (by rfl) (by rfl) n_len (DL.d_acons (DL.d_var 2 (pv 2)) DL.d_anil)) DL.d_int)) DL.d_int) (DL.d_var 3 (pv 3))))).pt (DL.s_one (DL.s_sub 2 (pv 2) (DL.d_tup (DL.d_acons (DL.d_var 3 (pv 3)) (DL.d_acons (DL.d_addI (DL.d_ix (by rfl) (fun _ _ => (by rfl)) (DL.d_ix (by rfl) (fun _ _ => (by rfl)) (DL.d_var 2 (pv 2)) (DL.d_sub (DL.d_len (by rfl) (by rfl) n_len (DL.d_acons (DL.d_var 2 (pv 2)) DL.d_anil)) DL.d_int)) DL.d_int) DL.d_int) DL.d_anil))) (DL.d_sub (DL.d_len (by rfl) (by rfl) n_len (DL.d_acons (DL.d_var 2 (pv 2)) DL.d_anil)) DL.d_int))) (DL.s_one (DL.s_app 2 (pv 2) (DL.d_tup (DL.d_acons (DL.d_var 3 (pv 3)) (DL.d_acons DL.d_int DL.d_anil))))))) (by decide))
    (DL.s_one (DL.s_retV 2 (fun _ z => z) (pv 2)))))
theorem bi__law_runs {K : PySem.W.Frag} {f : Addr} {fd : FuncData} (F : FunD K "_law_runs" "_law_runs" (defArgs (top 41)) (defBody (top 41)) (defScope (top 41)) [] [] f fd) : Binds K fd ["colours", "times"] [] := FunD.bindsN F fun _ _ _ _ _ _ us hl => match us, hl with | [_, _], _ => rfl
theorem ok__law_runs {P : Program} {w : World} {K : PySem.W.Frag} {mg : Str → Option Value} {base : Heap} {f : Addr} {fd : FuncData} (F : FunD K "_law_runs" "_law_runs" (defArgs (top 41)) (defBody (top 41)) (defScope (top 41)) [] [] f fd) (hg : mg "_law_runs" = some (.ref f)) (n_len : mg "len" = none) : DefOk P w K mg base "_law_runs" 1 2 m__law_runs :=
  def_ok F hg sc__law_runs rfl (bi__law_runs F) (t__law_runs n_len)
/-! ### weft_order: slots 0=plan -/
def b_weft_order : En → Out := (retF (([0] ++ [0]) ++ []) (callE m_runs_of (aCons (op2 dMul (op1 (fldO ["Plan"] "weft") (var 0)) (op1 (fldO ["Plan"] "picks_times") (var 0))) aNil)))
def m_weft_order : List D → R OD := mOf 1 1 b_weft_order
theorem sc_weft_order : FnScope ["plan"] ["plan"] (defScope (top 30)) := C8.fnScope_by (by decide +kernel)
theorem t_weft_order {P : Program} {w : World} {K : PySem.W.Frag} {mg : Str → Option Value} {base : Heap} {f : Addr} (c_runs_of : DefOk P w K mg base "runs_of" 1 1 m_runs_of) (q_Plan : FldC K mg "Plan" ["cloth", "warp", "weft", "sett", "beat", "ends_times", "picks_times", "warp_take", "weft_take", "waste"]) (cdv : Value) (A : Around) (outer : List Env) (s : Shared) (H : Hp) (E : XK) (O : Addr → Prop) (hr : Room 1 (A.deeper (envOfC "weft_order" (defScope (top 30)) s.heap.objs.size f cdv))) : PSs (cxOf (L2.CX P w) P w K mg base ["plan"] "weft_order" (defScope (top 30)) f cdv A outer s H E) (defBody (top 30)) (tS ⟨⟨K, mg, none⟩, O, fun _ => False, H⟩ (fun c d _ H' => E c d H') [] b_weft_order) := by
  have hu := hu64 hr
  have nd := (sc_weft_order).nd
  exact (DL.s_one (DL.s_retF (DL.f_fn c_runs_of hr (by decide) (takes_of (by rfl) (by rfl) (by rfl) (by rfl)) (by rfl) (DL.d_acons (DL.d_mul (DL.d_fld ["Plan"] (fld_cons q_Plan (by decide) fld_nil) (DL.d_var 0 (pv 0))) (DL.d_fld ["Plan"] (fld_cons q_Plan (by decide) fld_nil) (DL.d_var 0 (pv 0)))) DL.d_anil) (DL.len_cons DL.len_nil))))
theorem bi_weft_order {K : PySem.W.Frag} {f : Addr} {fd : FuncData} (F : FunD K "weft_order" "weft_order" (defArgs (top 30)) (defBody (top 30)) (defScope (top 30)) [] [] f fd) : Binds K fd ["plan"] [] := FunD.bindsN F fun _ _ _ _ _ _ us hl => match us, hl with | [_], _ => rfl
theorem ok_weft_order {P : Program} {w : World} {K : PySem.W.Frag} {mg : Str → Option Value} {base : Heap} {f : Addr} {fd : FuncData} (F : FunD K "weft_order" "weft_order" (defArgs (top 30)) (defBody (top 30)) (defScope (top 30)) [] [] f fd) (hg : mg "weft_order" = some (.ref f)) (c_runs_of : DefOk P w K mg base "runs_of" 1 1 m_runs_of) (q_Plan : FldC K mg "Plan" ["cloth", "warp", "weft", "sett", "beat", "ends_times", "picks_times", "warp_take", "weft_take", "waste"]) : DefOk P w K mg base "weft_order" 2 1 m_weft_order :=
  def_ok F hg sc_weft_order rfl (bi_weft_order F) (t_weft_order c_runs_of q_Plan)
/-! ### law: slots 0=script 1=cloth 2=names 3=warp 4=weft 5=d 6=numbers 7=told 8=plan 9=due 10=times 11=stock 12=more 13=row 14=at 15=best 16=k 17=bad 18=spoilt 19=one 20=e -/
def l1_law : En → Out := (putS 11 ([13] ++ []) (op2 dIx (var 13) (con (.int 1))) (op2 dIx (var 13) (con (.int 0))))
def l2_law : En → Out := (seqS (setF 12 ([6] ++ []) (opAF fList (aCons (var 6) aNil)))
    (seqS (subS 12 [16] (var 16) (con (.int 3)))
    (frzS [12] (ifS (tst (op2 dEq (opA dLen (aCons (erE (lcE (([1] ++ ([3] ++ ([4] ++ ([12] ++ [])))) ++ []) [13] (bName 13) (itE (op2 dIx (erE (callE m__law_yarn (aCons (var 1) (aCons (var 3) (aCons (var 4) (aCons (var 12) aNil)))))) (con (.int 2)))) (tst (op2 dGt (op2 dIx (var 13) (con (.int 1))) (getE2 (var 11) (op2 dIx (var 13) (con (.int 0))) (con (.int 0))))) (var 13))) aNil)) (con (.int 0)))) (setS 15 [16] (var 16)) nxS))))
def b_law : En → Out := (seqS (setS 1 ([] ++ ([] ++ ([] ++ []))) (erE (callE m__law_cloth (aCons (opA dAbs (aCons (erE (callE m__law_cell (aCons (var 0) (aCons (con (.int 0)) aNil)))) aNil)) (aCons (con (.int 5)) (aCons (con (.int 5)) aNil))))))
    (seqS (setS 2 ([] ++ ([] ++ ([] ++ []))) (erE (lstE (aCons (con (.str [114, 101, 100])) (aCons (con (.str [98, 108, 117, 101])) (aCons (con (.str [103, 111, 108, 100])) aNil))))))
    (seqS (shS [3] (setF 3 [2] (lcE (([0] ++ ([] ++ [])) ++ ([] ++ [])) [19] (bName 19) (itE (erE (callE m__law_draw (aCons (erE (callE m__law_cell (aCons (var 0) (aCons (con (.int 1)) aNil)))) (aCons (erE (lcE ([1] ++ []) [20] (bName 20) (itE (op2 dIx (var 1) (con (.int 0)))) tYesD (con (.int 3)))) aNil))))) tYesD (op2 dIx (var 2) (var 19)))))
    (seqS (shS [4] (setF 4 [2] (lcE (([0] ++ ([] ++ [])) ++ ([] ++ [])) [19] (bName 19) (itE (erE (callE m__law_draw (aCons (erE (callE m__law_cell (aCons (var 0) (aCons (con (.int 2)) aNil)))) (aCons (erE (lcE [1] [13] (bName 13) (itE (var 1)) tYesD (con (.int 3)))) aNil))))) tYesD (op2 dIx (var 2) (var 19)))))
    (seqS (setS 5 (([0] ++ ([] ++ [])) ++ (([] ++ ([] ++ ([] ++ ([] ++ ([] ++ ([] ++ ([] ++ []))))))) ++ [])) (erE (callE m__law_draw (aCons (erE (callE m__law_cell (aCons (var 0) (aCons (con (.int 3)) aNil)))) (aCons (erE (lstE (aCons (con (.int 391)) (aCons (con (.int 391)) (aCons (con (.int 9)) (aCons (con (.int 9)) (aCons (con (.int 501)) (aCons (con (.int 501)) (aCons (con (.int 5001)) aNil))))))))) aNil)))))
    (seqS (setS 6 (([] ++ ([5] ++ [])) ++ (([] ++ ([5] ++ [])) ++ (([] ++ ([5] ++ [])) ++ (([] ++ ([5] ++ [])) ++ (([5] ++ []) ++ (([5] ++ []) ++ (([5] ++ []) ++ []))))))) (erE (lstE (aCons (op2 dAdd (con (.int 10)) (op2 dIx (var 5) (con (.int 0)))) (aCons (op2 dAdd (con (.int 10)) (op2 dIx (var 5) (con (.int 1)))) (aCons (op2 dAdd (con (.int 1)) (op2 dIx (var 5) (con (.int 2)))) (aCons (op2 dAdd (con (.int 1)) (op2 dIx (var 5) (con (.int 3)))) (aCons (op2 dIx (var 5) (con (.int 4))) (aCons (op2 dIx (var 5) (con (.int 5))) (aCons (op2 dIx (var 5) (con (.int 6))) aNil))))))))))
    (seqS (setS 7 (([1] ++ []) ++ (([3] ++ []) ++ (([4] ++ []) ++ ([6] ++ [])))) (erE (callE m__law_made (aCons (erE (opAF fList (aCons (var 1) aNil))) (aCons (erE (opAF fList (aCons (var 3) aNil))) (aCons (erE (opAF fList (aCons (var 4) aNil))) (aCons (var 6) aNil)))))))
    (seqS (ifS (tst (op2 dNe (op2 dIx (var 7) (con (.int 0))) (con (.str [118, 97, 108, 117, 101])))) (retS [] (con (.bl false))) nxS)
    (seqS (setS 8 ([7] ++ []) (op2 dIx (var 7) (con (.int 1))))
    (seqS (ifS (tst (op2 dNe (tupE (aCons (op1 (fldO ["Plan"] "cloth") (var 8)) (aCons (op1 (fldO ["Plan"] "warp") (var 8)) (aCons (op1 (fldO ["Plan"] "weft") (var 8)) (aCons (op1 (fldO ["Plan"] "sett") (var 8)) (aCons (op1 (fldO ["Plan"] "beat") (var 8)) (aCons (op1 (fldO ["Plan"] "ends_times") (var 8)) (aCons (op1 (fldO ["Plan"] "picks_times") (var 8)) aNil)))))))) (tupE (aCons (var 1) (aCons (var 3) (aCons (var 4) (aCons (op2 dIx (var 6) (con (.int 0))) (aCons (op2 dIx (var 6) (con (.int 1))) (aCons (op2 dIx (var 6) (con (.int 2))) (aCons (op2 dIx (var 6) (con (.int 3))) aNil)))))))))) (retS [] (con (.bl false))) nxS)
    (seqS (ifS (tst (op2 dNe (tupE (aCons (op1 (fldO ["Plan"] "warp_take") (var 8)) (aCons (op1 (fldO ["Plan"] "weft_take") (var 8)) (aCons (op1 (fldO ["Plan"] "waste") (var 8)) aNil)))) (tupE (aCons (op2 dIx (var 6) (con (.int 4))) (aCons (op2 dIx (var 6) (con (.int 5))) (aCons (op2 dIx (var 6) (con (.int 6))) aNil)))))) (retS [] (con (.bl false))) nxS)
    (seqS (setS 9 ([1] ++ ([3] ++ ([4] ++ ([6] ++ [])))) (erE (callE m__law_yarn (aCons (var 1) (aCons (var 3) (aCons (var 4) (aCons (var 6) aNil)))))))
    (seqS (ifS (orT (tst (op2 dNe (erE (callE m_width_of (aCons (var 8) aNil))) (op2 dIx (var 9) (con (.int 0))))) (orT (tst (op2 dNe (erE (callE m_length_of (aCons (var 8) aNil))) (op2 dIx (var 9) (con (.int 1))))) (orT (notT (tst (erE (callE m__law_whole (aCons (erE (callE m_width_of (aCons (var 8) aNil))) aNil))))) (tst (op2 dNe (erE (callE m_yarn_of (aCons (var 8) aNil))) (op2 dIx (var 9) (con (.int 2)))))))) (retS [] (con (.bl false))) nxS)
    (seqS (ifS (orT (tst (op2 dNe (erE (callE m_warp_order (aCons (var 8) aNil))) (erE (callE m__law_runs (aCons (var 3) (aCons (op2 dIx (var 6) (con (.int 2))) aNil)))))) (tst (op2 dNe (erE (callE m_weft_order (aCons (var 8) aNil))) (erE (callE m__law_runs (aCons (var 4) (aCons (op2 dIx (var 6) (con (.int 3))) aNil))))))) (retS [] (con (.bl false))) nxS)
    (seqS (setS 10 [] (op2 dMod (opA dInt (aCons (erE (callE m__law_cell (aCons (var 0) (aCons (con (.int 4)) aNil)))) aNil)) (con (.int 12))))
    (seqS (setF 11 [] (fun _ => .ok (.dic [])))
    (seqS (ifS (tst (op2 dGt (var 10) (con (.int 0)))) (seqS (setF 12 ([6] ++ []) (opAF fList (aCons (var 6) aNil)))
    (seqS (subS 12 [10] (var 10) (con (.int 3)))
    (seqS (frzS [12] (forS (([1] ++ ([3] ++ ([4] ++ ([12] ++ [])))) ++ []) [13] (bName 13) (itE (op2 dIx (erE (callE m__law_yarn (aCons (var 1) (aCons (var 3) (aCons (var 4) (aCons (var 12) aNil)))))) (con (.int 2)))) l1_law))
    (seqS (setS 14 ([2] ++ []) (op2 dIx (var 2) (op2 dMod (opA dInt (aCons (erE (callE m__law_cell (aCons (var 0) (aCons (con (.int 5)) aNil)))) aNil)) (con (.int 3)))))
    (ifS (tst (op2 dInD (var 14) (var 11))) (putS 11 [] (opA dMax (aCons (con (.int 0)) (aCons (op2 dSub (op2 dAdd (op2 dGetD (var 11) (var 14)) (op2 dMod (op2 dDiv (opA dInt (aCons (erE (callE m__law_cell (aCons (var 0) (aCons (con (.int 5)) aNil)))) aNil)) (con (.int 3))) (con (.int 3)))) (con (.int 1))) aNil))) (var 14)) nxS))))) nxS)
    (seqS (setS 15 [] (con (.int 0)))
    (seqS (forS [] [12, 13, 16] (bName 16) (rgE rgF2 (aCons (con (.int 1)) (aCons (con (.int 40)) aNil))) l2_law)
    (seqS (ifS (andT (tst (op2 dLt (var 15) (con (.int 39)))) (tst (op2 dNe (erE (callE m_greatest_times (aCons (var 8) (aCons (erE (opAF fDict (aCons (var 11) aNil))) aNil)))) (var 15)))) (retS [] (con (.bl false))) nxS)
    (seqS (ifS (tst (op2 dNe (erE (callE m_greatest_times (aCons (var 8) (aCons (erE (dispE [([114, 101, 100], 1000000000000000), ([98, 108, 117, 101], 1000000000000000), ([103, 111, 108, 100], 1000000000000000)])) aNil)))) (con (.int 1000)))) (retS [] (con (.bl false))) nxS)
    (seqS (ifS (orT (tst (op2 dNe (erE (callE m__law_made (aCons (erE (lstE aNil)) (aCons (erE (lstE aNil)) (aCons (erE (lstE aNil)) (aCons (op2 dMul (erE (lstE (aCons (con (.int 0)) aNil))) (con (.int 7))) aNil)))))) (tupE (aCons (con (.str [99, 108, 111, 116, 104])) (aCons (con (.int 0)) aNil))))) (tst (op2 dNe (erE (callE m__law_made (aCons (var 1) (aCons (sliceE (var 3) (pI (con (.int 1))) pN) (aCons (sliceE (var 4) (pI (con (.int 1))) pN) (aCons (op2 dMul (erE (lstE (aCons (con (.int 0)) aNil))) (con (.int 7))) aNil)))))) (tupE (aCons (con (.str [117, 110, 101, 113, 117, 97, 108])) (aCons (op2 dSub (opA dLen (aCons (var 3) aNil)) (con (.int 1))) aNil)))))) (retS [] (con (.bl false))) nxS)
    (seqS (ifS (tst (op2 dNe (erE (callE m__law_made (aCons (var 1) (aCons (var 3) (aCons (op2 dAdd (var 4) (erE (lstE (aCons (con (.str [114, 101, 100])) aNil)))) (aCons (op2 dMul (erE (lstE (aCons (con (.int 0)) aNil))) (con (.int 7))) aNil)))))) (tupE (aCons (con (.str [117, 110, 101, 113, 117, 97, 108])) (aCons (op2 dAdd (opA dLen (aCons (var 4) aNil)) (con (.int 1))) aNil))))) (retS [] (con (.bl false))) nxS)
    (seqS (setS 17 ([] ++ ([] ++ ([] ++ ([] ++ ([] ++ ([] ++ ([] ++ []))))))) (erE (lstE (aCons (con (.int 9)) (aCons (con (.int 401)) (aCons (con (.int 0)) (aCons (con (.int 1001)) (aCons (con (.int 501)) (aCons (op1 dNeg (con (.int 1))) (aCons (con (.int 5001)) aNil))))))))))
    (seqS (setS 14 [] (op2 dMod (op2 dDiv (opA dInt (aCons (erE (callE m__law_cell (aCons (var 0) (aCons (con (.int 5)) aNil)))) aNil)) (con (.int 9))) (con (.int 7))))
    (seqS (setS 18 (([6] ++ (([17] ++ [14]) ++ [])) ++ (([] ++ []) ++ [])) (op2 dAdd (op2 dAdd (sliceE (var 6) pN (pI (var 14))) (erE (lstE (aCons (op2 dIx (var 17) (var 14)) aNil)))) (op2 dMul (erE (lstE (aCons (op1 dNeg (con (.int 7))) aNil))) (op2 dSub (con (.int 6)) (var 14)))))
    (seqS (ifS (tst (op2 dNe (erE (callE m__law_made (aCons (var 1) (aCons (var 3) (aCons (var 4) (aCons (var 18) aNil)))))) (tupE (aCons (con (.str [114, 97, 110, 103, 101])) (aCons (op2 dIx (var 17) (var 14)) aNil))))) (retS [] (con (.bl false))) nxS)
    (retS [] (op2 dEq (erE (callE m__law_stock (aCons (var 8) aNil))) (op1 dNeg (con (.int 4))))))))))))))))))))))))))))))))
def m_law : List D → R OD := mOf 1 21 b_law
theorem sc_law : FnScope ["script", "cloth", "names", "warp", "weft", "d", "numbers", "told", "plan", "due", "times", "stock", "more", "row", "at", "best", "k", "bad", "spoilt", "one", "e"] ["script"] (defScope (top 43)) := C8.fnScope_by (by decide +kernel)
theorem t_law {P : Program} {w : World} {K : PySem.W.Frag} {mg : Str → Option Value} {base : Heap} {f : Addr} (c__law_cloth : DefOk P w K mg base "_law_cloth" 2 3 m__law_cloth) (c__law_cell : DefOk P w K mg base "_law_cell" 1 2 m__law_cell) (c__law_draw : DefOk P w K mg base "_law_draw" 1 2 m__law_draw) (c__law_made : DefOk P w K mg base "_law_made" 6 4 m__law_made) (c__law_yarn : DefOk P w K mg base "_law_yarn" 2 4 m__law_yarn) (c_width_of : DefOk P w K mg base "width_of" 2 1 m_width_of) (c_length_of : DefOk P w K mg base "length_of" 3 1 m_length_of) (c__law_whole : DefOk P w K mg base "_law_whole" 1 1 m__law_whole) (c_yarn_of : DefOk P w K mg base "yarn_of" 4 1 m_yarn_of) (c_warp_order : DefOk P w K mg base "warp_order" 2 1 m_warp_order) (c__law_runs : DefOk P w K mg base "_law_runs" 1 2 m__law_runs) (c_weft_order : DefOk P w K mg base "weft_order" 2 1 m_weft_order) (c_greatest_times : DefOk P w K mg base "greatest_times" 5 2 m_greatest_times) (c__law_stock : DefOk P w K mg base "_law_stock" 6 1 m__law_stock) (q_Plan : FldC K mg "Plan" ["cloth", "warp", "weft", "sett", "beat", "ends_times", "picks_times", "warp_take", "weft_take", "waste"]) (n_abs : mg "abs" = none) (n_list : mg "list" = none) (n_int : mg "int" = none) (n_max : mg "max" = none) (n_range : mg "range" = none) (n_len : mg "len" = none) (n_dict : mg "dict" = none) (cdv : Value) (A : Around) (outer : List Env) (s : Shared) (H : Hp) (E : XK) (O : Addr → Prop) (hr : Room 6 (A.deeper (envOfC "law" (defScope (top 43)) s.heap.objs.size f cdv))) : PSs (cxOf (L2.CX P w) P w K mg base ["script", "cloth", "names", "warp", "weft", "d", "numbers", "told", "plan", "due", "times", "stock", "more", "row", "at", "best", "k", "bad", "spoilt", "one", "e"] "law" (defScope (top 43)) f cdv A outer s H E) (defBody (top 43)) (tS ⟨⟨K, mg, none⟩, O, fun _ => False, H⟩ (fun c d _ H' => E c d H') ([1] ++ ([2] ++ ([3] ++ ([4] ++ ([5] ++ ([6] ++ ([7] ++ (([] ++ []) ++ ([8] ++ (([] ++ []) ++ (([] ++ []) ++ ([9] ++ (([] ++ []) ++ (([] ++ []) ++ ([10] ++ ([11] ++ ((([12] ++ ([12] ++ (([13] ++ [11]) ++ ([14] ++ ([11] ++ []))))) ++ []) ++ ([15] ++ (([16] ++ ([12] ++ ([12] ++ ([15] ++ [])))) ++ (([] ++ []) ++ (([] ++ []) ++ (([] ++ []) ++ (([] ++ []) ++ ([17] ++ ([14] ++ ([18] ++ (([] ++ []) ++ []))))))))))))))))))))))))))) b_law) := by
  have hu := hu64 hr
  have nd := (sc_law).nd
  exact (DL.s_cons (DL.s_set 1 nd (by rfl) (by first | exact Or.inl (by rfl) | exact Or.inr (by rfl)) (DL.d_ofF (DL.f_fn c__law_cloth hr (by decide) (takes_of (by rfl) (by rfl) (by rfl) (by rfl)) (by rfl) (DL.d_acons (DL.d_abs (by rfl) n_abs (DL.d_acons (DL.d_ofF (DL.f_fn c__law_cell hr (by decide) (takes_of (by rfl) (by rfl) (by rfl) (by rfl)) (by rfl) (DL.d_acons (DL.d_var 0 (pv 0)) (DL.d_acons DL.d_int DL.d_anil)) (DL.len_cons (DL.len_cons DL.len_nil)))) DL.d_anil)) (DL.d_acons DL.d_int (DL.d_acons DL.d_int DL.d_anil))) (DL.len_cons (DL.len_cons (DL.len_cons DL.len_nil))))))
    (DL.s_cons (DL.s_set 2 nd (by rfl) (by first | exact Or.inl (by rfl) | exact Or.inr (by rfl)) (DL.d_ofF (DL.f_lst (DL.d_acons (DL.d_str [114, 101, 100] (by rfl)) (DL.d_acons (DL.d_str [98, 108, 117, 101] (by rfl)) (DL.d_acons (DL.d_str [103, 111, 108, 100] (by rfl)) DL.d_anil))))))
    (DL.s_cons (DL.s_sh [3] (DL.s_setLc (i := 3) (hN := nd) (hy := (by rfl)) (hyl := (by rfl)) (hsw := (sw_true (by rfl) (by rfl) (by rfl) (by decide +kernel))) (hc := (by rfl)) (own := [("one", 19)]) (E1 := ([2] ++ [19])) (DL.i_any (by rfl) (DL.d_ofF (DL.f_fn c__law_draw hr (by decide) (takes_of (by rfl) (by rfl) (by rfl) (by rfl)) (by rfl) (DL.d_acons (DL.d_ofF (DL.f_fn c__law_cell hr (by decide) (takes_of (by rfl) (by rfl) (by rfl) (by rfl)) (by rfl) (DL.d_acons (DL.d_var 0 (pv 0)) (DL.d_acons DL.d_int DL.d_anil)) (DL.len_cons (DL.len_cons DL.len_nil)))) (DL.d_acons (DL.d_ofF (DL.f_lc (by rfl) nd (own := [("e", 20)]) (E1 := []) (DL.i_any (by rfl) (DL.d_ix (by rfl) (fun _ _ => (by rfl)) (DL.d_var 1 (pv 1)) DL.d_int)) (blkOk_by (N := ["script", "cloth", "names", "warp", "weft", "d", "numbers", "told", "plan", "due", "times", "stock", "more", "row", "at", "best", "k", "bad", "spoilt", "one", "e"]) (sc := (defScope (top 43))) (by decide +kernel)) (by decide) (fun _ _ _ _ _ _ => (DL.g_name 20 nd (by rfl) (by first | exact Or.inl (by rfl) | exact Or.inr (by rfl)))) (fun _ _ _ _ _ _ => DL.t_nil) (fun _ _ _ _ _ _ => DL.d_int))) DL.d_anil)) (DL.len_cons (DL.len_cons DL.len_nil))))) (blkOk_by (N := ["script", "cloth", "names", "warp", "weft", "d", "numbers", "told", "plan", "due", "times", "stock", "more", "row", "at", "best", "k", "bad", "spoilt", "one", "e"]) (sc := (defScope (top 43))) (by decide +kernel)) (by decide) (fun _ _ _ _ _ _ => (DL.g_name 19 nd (by rfl) (by first | exact Or.inl (by rfl) | exact Or.inr (by rfl)))) (fun _ _ _ _ _ _ => DL.t_nil) (fun _ _ _ _ _ _ => (DL.d_ix (by rfl) (fun _ _ => (by rfl)) (DL.d_var 2 (pv 2)) (DL.d_var 19 (pv 19))))))
    (DL.s_cons (DL.s_sh [4] (DL.s_setLc (i := 4) (hN := nd) (hy := (by rfl)) (hyl := (by rfl)) (hsw := (sw_true (by rfl) (by rfl) (by rfl) (by decide +kernel))) (hc := (by rfl)) (own := [("one", 19)]) (E1 := ([2] ++ [19])) (DL.i_any (by rfl) (DL.d_ofF (DL.f_fn c__law_draw hr (by decide) (takes_of (by rfl) (by rfl) (by rfl) (by rfl)) (by rfl) (DL.d_acons (DL.d_ofF (DL.f_fn c__law_cell hr (by decide) (takes_of (by rfl) (by rfl) (by rfl) (by rfl)) (by rfl) (DL.d_acons (DL.d_var 0 (pv 0)) (DL.d_acons DL.d_int DL.d_anil)) (DL.len_cons (DL.len_cons DL.len_nil)))) (DL.d_acons (DL.d_ofF (DL.f_lc (by rfl) nd (own := [("row", 13)]) (E1 := []) (DL.i_any (by rfl) (DL.d_var 1 (pv 1))) (blkOk_by (N := ["script", "cloth", "names", "warp", "weft", "d", "numbers", "told", "plan", "due", "times", "stock", "more", "row", "at", "best", "k", "bad", "spoilt", "one", "e"]) (sc := (defScope (top 43))) (by decide +kernel)) (by decide) (fun _ _ _ _ _ _ => (DL.g_name 13 nd (by rfl) (by first | exact Or.inl (by rfl) | exact Or.inr (by rfl)))) (fun _ _ _ _ _ _ => DL.t_nil) (fun _ _ _ _ _ _ => DL.d_int))) DL.d_anil)) (DL.len_cons (DL.len_cons DL.len_nil))))) (blkOk_by (N := ["script", "cloth", "names", "warp", "weft", "d", "numbers", "told", "plan", "due", "times", "stock", "more", "row", "at", "best", "k", "bad", "spoilt", "one", "e"]) (sc := (defScope (top 43))) (by decide +kernel)) (by decide) (fun _ _ _ _ _ _ => (DL.g_name 19 nd (by rfl) (by first | exact Or.inl (by rfl) | exact Or.inr (by rfl)))) (fun _ _ _ _ _ _ => DL.t_nil) (fun _ _ _ _ _ _ => (DL.d_ix (by rfl) (fun _ _ => (by rfl)) (DL.d_var 2 (pv 2)) (DL.d_var 19 (pv 19))))))
    (DL.s_cons (DL.s_set 5 nd (by rfl) (by first | exact Or.inl (by rfl) | exact Or.inr (by rfl)) (DL.d_ofF (DL.f_fn c__law_draw hr (by decide) (takes_of (by rfl) (by rfl) (by rfl) (by rfl)) (by rfl) (DL.d_acons (DL.d_ofF (DL.f_fn c__law_cell hr (by decide) (takes_of (by rfl) (by rfl) (by rfl) (by rfl)) (by rfl) (DL.d_acons (DL.d_var 0 (pv 0)) (DL.d_acons DL.d_int DL.d_anil)) (DL.len_cons (DL.len_cons DL.len_nil)))) (DL.d_acons (DL.d_ofF (DL.f_lst (DL.d_acons DL.d_int (DL.d_acons DL.d_int (DL.d_acons DL.d_int (DL.d_acons DL.d_int (DL.d_acons DL.d_int (DL.d_acons DL.d_int (DL.d_acons DL.d_int DL.d_anil))))))))) DL.d_anil)) (DL.len_cons (DL.len_cons DL.len_nil)))))
    (DL.s_cons (DL.s_set 6 nd (by rfl) (by first | exact Or.inl (by rfl) | exact Or.inr (by rfl)) (DL.d_ofF (DL.f_lst (DL.d_acons (DL.d_add DL.d_int (DL.d_ix (by rfl) (fun _ _ => (by rfl)) (DL.d_var 5 (pv 5)) DL.d_int)) (DL.d_acons (DL.d_add DL.d_int (DL.d_ix (by rfl) (fun _ _ => (by rfl)) (DL.d_var 5 (pv 5)) DL.d_int)) (DL.d_acons (DL.d_add DL.d_int (DL.d_ix (by rfl) (fun _ _ => (by rfl)) (DL.d_var 5 (pv 5)) DL.d_int)) (DL.d_acons (DL.d_add DL.d_int (DL.d_ix (by rfl) (fun _ _ => (by rfl)) (DL.d_var 5 (pv 5)) DL.d_int)) (DL.d_acons (DL.d_ix (by rfl) (fun _ _ => (by rfl)) (DL.d_var 5 (pv 5)) DL.d_int) (DL.d_acons (DL.d_ix (by rfl) (fun _ _ => (by rfl)) (DL.d_var 5 (pv 5)) DL.d_int) (DL.d_acons (DL.d_ix (by rfl) (fun _ _ => (by rfl)) (DL.d_var 5 (pv 5)) DL.d_int) DL.d_anil))))))))))
    (DL.s_cons (DL.s_set 7 nd (by rfl) (by first | exact Or.inl (by rfl) | exact Or.inr (by rfl)) (DL.d_ofF (DL.f_fn c__law_made hr (by decide) (takes_of (by rfl) (by rfl) (by rfl) (by rfl)) (by rfl) (DL.d_acons (DL.d_ofF (DL.f_list (by rfl) (by rfl) n_list (DL.d_acons (DL.d_var 1 (pv 1)) DL.d_anil))) (DL.d_acons (DL.d_ofF (DL.f_list (by rfl) (by rfl) n_list (DL.d_acons (DL.d_var 3 (pv 3)) DL.d_anil))) (DL.d_acons (DL.d_ofF (DL.f_list (by rfl) (by rfl) n_list (DL.d_acons (DL.d_var 4 (pv 4)) DL.d_anil))) (DL.d_acons (DL.d_var 6 (pv 6)) DL.d_anil)))) (DL.len_cons (DL.len_cons (DL.len_cons (DL.len_cons DL.len_nil)))))))
    (DL.s_cons (DL.s_if (DL.t_ne (by rfl) hu (DL.d_ix (by rfl) (fun _ _ => (by rfl)) (DL.d_var 7 (pv 7)) DL.d_int) (DL.d_str [118, 97, 108, 117, 101] (by rfl))) (DL.s_one (DL.s_ret DL.d_bl)) DL.s_nil)
    (DL.s_cons (DL.s_set 8 nd (by rfl) (by first | exact Or.inl (by rfl) | exact Or.inr (by rfl)) (DL.d_ix (by rfl) (fun _ _ => (by rfl)) (DL.d_var 7 (pv 7)) DL.d_int))
    (DL.s_cons (DL.s_if (DL.t_ne (by rfl) hu (DL.d_tup (DL.d_acons (DL.d_fld ["Plan"] (fld_cons q_Plan (by decide) fld_nil) (DL.d_var 8 (pv 8))) (DL.d_acons (DL.d_fld ["Plan"] (fld_cons q_Plan (by decide) fld_nil) (DL.d_var 8 (pv 8))) (DL.d_acons (DL.d_fld ["Plan"] (fld_cons q_Plan (by decide) fld_nil) (DL.d_var 8 (pv 8))) (DL.d_acons (DL.d_fld ["Plan"] (fld_cons q_Plan (by decide) fld_nil) (DL.d_var 8 (pv 8))) (DL.d_acons (DL.d_fld ["Plan"] (fld_cons q_Plan (by decide) fld_nil) (DL.d_var 8 (pv 8))) (DL.d_acons (DL.d_fld ["Plan"] (fld_cons q_Plan (by decide) fld_nil) (DL.d_var 8 (pv 8))) (DL.d_acons (DL.d_fld ["Plan"] (fld_cons q_Plan (by decide) fld_nil) (DL.d_var 8 (pv 8))) DL.d_anil)))))))) (DL.d_tup (DL.d_acons (DL.d_var 1 (pv 1)) (DL.d_acons (DL.d_var 3 (pv 3)) (DL.d_acons (DL.d_var 4 (pv 4)) (DL.d_acons (DL.d_ix (by rfl) (fun _ _ => (by rfl)) (DL.d_var 6 (pv 6)) DL.d_int) (DL.d_acons (DL.d_ix (by rfl) (fun _ _ => (by rfl)) (DL.d_var 6 (pv 6)) DL.d_int) (DL.d_acons (DL.d_ix (by rfl) (fun _ _ => (by rfl)) (DL.d_var 6 (pv 6)) DL.d_int) (DL.d_acons (DL.d_ix (by rfl) (fun _ _ => (by rfl)) (DL.d_var 6 (pv 6)) DL.d_int) DL.d_anil))))))))) (DL.s_one (DL.s_ret DL.d_bl)) DL.s_nil)
    (DL.s_cons (DL.s_if (DL.t_ne (by rfl) hu (DL.d_tup (DL.d_acons (DL.d_fld ["Plan"] (fld_cons q_Plan (by decide) fld_nil) (DL.d_var 8 (pv 8))) (DL.d_acons (DL.d_fld ["Plan"] (fld_cons q_Plan (by decide) fld_nil) (DL.d_var 8 (pv 8))) (DL.d_acons (DL.d_fld ["Plan"] (fld_cons q_Plan (by decide) fld_nil) (DL.d_var 8 (pv 8))) DL.d_anil)))) (DL.d_tup (DL.d_acons (DL.d_ix (by rfl) (fun _ _ => (by rfl)) (DL.d_var 6 (pv 6)) DL.d_int) (DL.d_acons (DL.d_ix (by rfl) (fun _ _ => (by rfl)) (DL.d_var 6 (pv 6)) DL.d_int) (DL.d_acons (DL.d_ix (by rfl) (fun _ _ => (by rfl)) (DL.d_var 6 (pv 6)) DL.d_int) DL.d_anil))))) (DL.s_one (DL.s_ret DL.d_bl)) DL.s_nil)
    (DL.s_cons (DL.s_set 9 nd (by rfl) (by first | exact Or.inl (by rfl) | exact Or.inr (by rfl)) (DL.d_ofF (DL.f_fn c__law_yarn hr (by decide) (takes_of (by rfl) (by rfl) (by rfl) (by rfl)) (by rfl) (DL.d_acons (DL.d_var 1 (pv 1)) (DL.d_acons (DL.d_var 3 (pv 3)) (DL.d_acons (DL.d_var 4 (pv 4)) (DL.d_acons (DL.d_var 6 (pv 6)) DL.d_anil)))) (DL.len_cons (DL.len_cons (DL.len_cons (DL.len_cons DL.len_nil)))))))
    (DL.s_cons (DL.s_if (DL.d_or (DL.t_ne (by rfl) hu (DL.d_ofF (DL.f_fn c_width_of hr (by decide) (takes_of (by rfl) (by rfl) (by rfl) (by rfl)) (by rfl) (DL.d_acons (DL.d_var 8 (pv 8)) DL.d_anil) (DL.len_cons DL.len_nil))) (DL.d_ix (by rfl) (fun _ _ => (by rfl)) (DL.d_var 9 (pv 9)) DL.d_int)) (DL.d_or (DL.t_ne (by rfl) hu (DL.d_ofF (DL.f_fn c_length_of hr (by decide) (takes_of (by rfl) (by rfl) (by rfl) (by rfl)) (by rfl) (DL.d_acons (DL.d_var 8 (pv 8)) DL.d_anil) (DL.len_cons DL.len_nil))) (DL.d_ix (by rfl) (fun _ _ => (by rfl)) (DL.d_var 9 (pv 9)) DL.d_int)) (DL.d_or (DL.d_not (DL.t_of (DL.d_ofF (DL.f_fn c__law_whole hr (by decide) (takes_of (by rfl) (by rfl) (by rfl) (by rfl)) (by rfl) (DL.d_acons (DL.d_ofF (DL.f_fn c_width_of hr (by decide) (takes_of (by rfl) (by rfl) (by rfl) (by rfl)) (by rfl) (DL.d_acons (DL.d_var 8 (pv 8)) DL.d_anil) (DL.len_cons DL.len_nil))) DL.d_anil) (DL.len_cons DL.len_nil))))) (DL.t_or1 (DL.t_ne (by rfl) hu (DL.d_ofF (DL.f_fn c_yarn_of hr (by decide) (takes_of (by rfl) (by rfl) (by rfl) (by rfl)) (by rfl) (DL.d_acons (DL.d_var 8 (pv 8)) DL.d_anil) (DL.len_cons DL.len_nil))) (DL.d_ix (by rfl) (fun _ _ => (by rfl)) (DL.d_var 9 (pv 9)) DL.d_int)))))).pt (DL.s_one (DL.s_ret DL.d_bl)) DL.s_nil)
    (DL.s_cons (DL.s_if (DL.d_or (DL.t_ne (by rfl) hu (DL.d_ofF (DL.f_fn c_warp_order hr (by decide) (takes_of (by rfl) (by rfl) (by rfl) (by rfl)) (by rfl) (DL.d_acons (DL.d_var 8 (pv 8)) DL.d_anil) (DL.len_cons DL.len_nil))) (DL.d_ofF (DL.f_fn c__law_runs hr (by decide) (takes_of (by rfl) (by rfl) (by rfl) (by rfl)) (by rfl) (DL.d_acons (DL.d_var 3 (pv 3)) (DL.d_acons (DL.d_ix (by rfl) (fun _ _ => (by rfl)) (DL.d_var 6 (pv 6)) DL.d_int) DL.d_anil)) (DL.len_cons (DL.len_cons DL.len_nil))))) (DL.t_or1 (DL.t_ne (by rfl) hu (DL.d_ofF (DL.f_fn c_weft_order hr (by decide) (takes_of (by rfl) (by rfl) (by rfl) (by rfl)) (by rfl) (DL.d_acons (DL.d_var 8 (pv 8)) DL.d_anil) (DL.len_cons DL.len_nil))) (DL.d_ofF (DL.f_fn c__law_runs hr (by decide) (takes_of (by rfl) (by rfl) (by rfl) (by rfl)) (by rfl) (DL.d_acons (DL.d_var 4 (pv 4)) (DL.d_acons (DL.d_ix (by rfl) (fun _ _ => (by rfl)) (DL.d_var 6 (pv 6)) DL.d_int) DL.d_anil)) (DL.len_cons (DL.len_cons DL.len_nil))))))).pt (DL.s_one (DL.s_ret DL.d_bl)) DL.s_nil)
    (DL.s_cons (DL.s_set 10 nd (by rfl) (by first | exact Or.inl (by rfl) | exact Or.inr (by rfl)) (DL.d_mod (DL.d_toInt (by rfl) n_int (DL.d_acons (DL.d_ofF (DL.f_fn c__law_cell hr (by decide) (takes_of (by rfl) (by rfl) (by rfl) (by rfl)) (by rfl) (DL.d_acons (DL.d_var 0 (pv 0)) (DL.d_acons DL.d_int DL.d_anil)) (DL.len_cons (DL.len_cons DL.len_nil)))) DL.d_anil)) DL.d_int))
    (DL.s_cons (DL.s_setF 11 nd (by rfl) (by first | exact Or.inl (by rfl) | exact Or.inr (by rfl)) DL.f_dnew)
    (DL.s_cons (DL.s_if (DL.t_gt (DL.d_var 10 (pv 10)) DL.d_int) (DL.s_cons (DL.s_setF 12 nd (by rfl) (by first | exact Or.inl (by rfl) | exact Or.inr (by rfl)) (DL.f_list (by rfl) (by rfl) n_list (DL.d_acons (DL.d_var 6 (pv 6)) DL.d_anil)))
    (DL.s_cons (DL.s_sub 12 (pv 12) (DL.d_var 10 (pv 10)) DL.d_int)
    (DL.s_cons (DL.s_frz [12] (DL.s_for [13] (passes_of (by rfl)) (by rfl) (DL.i_any (by rfl) (DL.d_ix (by rfl) (fun _ _ => (by rfl)) (DL.d_ofF (DL.f_fn c__law_yarn hr (by decide) (takes_of (by rfl) (by rfl) (by rfl) (by rfl)) (by rfl) (DL.d_acons (DL.d_var 1 (pv 1)) (DL.d_acons (DL.d_var 3 (pv 3)) (DL.d_acons (DL.d_var 4 (pv 4)) (DL.d_acons (DL.d_var 12 (pv 12)) DL.d_anil)))) (DL.len_cons (DL.len_cons (DL.len_cons (DL.len_cons DL.len_nil)))))) DL.d_int)) (DL.g_name 13 nd (by rfl) (by first | exact Or.inl (by rfl) | exact Or.inr (by rfl)))
    (DL.s_one (DL.s_put 11 hu (pv 11) (DL.d_ix (by rfl) (fun _ _ => (by rfl)) (DL.d_var 13 (pv 13)) DL.d_int) (DL.d_ix (by rfl) (fun _ _ => (by rfl)) (DL.d_var 13 (pv 13)) DL.d_int))) (by decide)))
    (DL.s_cons (DL.s_set 14 nd (by rfl) (by first | exact Or.inl (by rfl) | exact Or.inr (by rfl)) (DL.d_ix (by rfl) (fun _ _ => (by rfl)) (DL.d_var 2 (pv 2)) (DL.d_mod (DL.d_toInt (by rfl) n_int (DL.d_acons (DL.d_ofF (DL.f_fn c__law_cell hr (by decide) (takes_of (by rfl) (by rfl) (by rfl) (by rfl)) (by rfl) (DL.d_acons (DL.d_var 0 (pv 0)) (DL.d_acons DL.d_int DL.d_anil)) (DL.len_cons (DL.len_cons DL.len_nil)))) DL.d_anil)) DL.d_int)))
    (DL.s_one (DL.s_if (DL.t_inD hu (DL.d_var 14 (pv 14)) (DL.d_var 11 (pv 11))) (DL.s_one (DL.s_put 11 hu (pv 11) (DL.d_max (by rfl) (by rfl) (by rfl) n_max (DL.d_acons DL.d_int (DL.d_acons (DL.d_sub (DL.d_add (DL.d_dget hu (DL.d_var 11 (pv 11)) (DL.d_var 14 (pv 14))) (DL.d_mod (DL.d_div (DL.d_toInt (by rfl) n_int (DL.d_acons (DL.d_ofF (DL.f_fn c__law_cell hr (by decide) (takes_of (by rfl) (by rfl) (by rfl) (by rfl)) (by rfl) (DL.d_acons (DL.d_var 0 (pv 0)) (DL.d_acons DL.d_int DL.d_anil)) (DL.len_cons (DL.len_cons DL.len_nil)))) DL.d_anil)) DL.d_int) DL.d_int)) DL.d_int) DL.d_anil))) (DL.d_var 14 (pv 14)))) DL.s_nil)))))) DL.s_nil)
    (DL.s_cons (DL.s_set 15 nd (by rfl) (by first | exact Or.inl (by rfl) | exact Or.inr (by rfl)) DL.d_int)
    (DL.s_cons (DL.s_for [12, 13, 16] (passes_of (by rfl)) (by rfl) (DL.i_range2 (by rfl) n_range (DL.d_acons DL.d_int (DL.d_acons DL.d_int DL.d_anil))) (DL.g_name 16 nd (by rfl) (by first | exact Or.inl (by rfl) | exact Or.inr (by rfl)))
    (DL.s_cons (DL.s_setF 12 nd (by rfl) (by first | exact Or.inl (by rfl) | exact Or.inr (by rfl)) (DL.f_list (by rfl) (by rfl) n_list (DL.d_acons (DL.d_var 6 (pv 6)) DL.d_anil)))
    (DL.s_cons (DL.s_sub 12 (pv 12) (DL.d_var 16 (pv 16)) DL.d_int)
    (DL.s_one (DL.s_frz [12] (DL.s_if (DL.t_eq (by rfl) hu (DL.d_len (by rfl) (by rfl) n_len (DL.d_acons (DL.d_ofF (DL.f_lc (by rfl) nd (own := [("row", 13)]) (E1 := [13]) (DL.i_any (by rfl) (DL.d_ix (by rfl) (fun _ _ => (by rfl)) (DL.d_ofF (DL.f_fn c__law_yarn hr (by decide) (takes_of (by rfl) (by rfl) (by rfl) (by rfl)) (by rfl) (DL.d_acons (DL.d_var 1 (pv 1)) (DL.d_acons (DL.d_var 3 (pv 3)) (DL.d_acons (DL.d_var 4 (pv 4)) (DL.d_acons (DL.d_var 12 (pv 12)) DL.d_anil)))) (DL.len_cons (DL.len_cons (DL.len_cons (DL.len_cons DL.len_nil)))))) DL.d_int)) (blkOk_by (N := ["script", "cloth", "names", "warp", "weft", "d", "numbers", "told", "plan", "due", "times", "stock", "more", "row", "at", "best", "k", "bad", "spoilt", "one", "e"]) (sc := (defScope (top 43))) (by decide +kernel)) (by decide) (fun _ _ _ _ _ _ => (DL.g_name 13 nd (by rfl) (by first | exact Or.inl (by rfl) | exact Or.inr (by rfl)))) (fun _ _ _ _ _ _ => (DL.t_one (DL.t_gt (DL.d_ix (by rfl) (fun _ _ => (by rfl)) (DL.d_var 13 (pv 13)) DL.d_int) (DL.d_get2 hu (DL.d_var 11 (pv 11)) (DL.d_ix (by rfl) (fun _ _ => (by rfl)) (DL.d_var 13 (pv 13)) DL.d_int) DL.d_int)))) (fun _ _ _ _ _ _ => (DL.d_var 13 (pv 13))))) DL.d_anil)) DL.d_int) (DL.s_one (DL.s_set 15 nd (by rfl) (by first | exact Or.inl (by rfl) | exact Or.inr (by rfl)) (DL.d_var 16 (pv 16)))) DL.s_nil))))) (by decide))
    (DL.s_cons (DL.s_if (DL.d_and (DL.t_lt (DL.d_var 15 (pv 15)) DL.d_int) (DL.t_and1 (DL.t_ne (by rfl) hu (DL.d_ofF (DL.f_fn c_greatest_times hr (by decide) (takes_of (by rfl) (by rfl) (by rfl) (by rfl)) (by rfl) (DL.d_acons (DL.d_var 8 (pv 8)) (DL.d_acons (DL.d_ofF (DL.f_dictC (by rfl) n_dict (DL.d_acons (DL.d_var 11 (pv 11)) DL.d_anil))) DL.d_anil)) (DL.len_cons (DL.len_cons DL.len_nil)))) (DL.d_var 15 (pv 15))))).pt (DL.s_one (DL.s_ret DL.d_bl)) DL.s_nil)
    (DL.s_cons (DL.s_if (DL.t_ne (by rfl) hu (DL.d_ofF (DL.f_fn c_greatest_times hr (by decide) (takes_of (by rfl) (by rfl) (by rfl) (by rfl)) (by rfl) (DL.d_acons (DL.d_var 8 (pv 8)) (DL.d_acons (DL.d_ofF (DL.f_disp [(("red" : Str), (((10 : Int) ^ (15 : Int).toNat) : Int)), (("blue" : Str), (((10 : Int) ^ (15 : Int).toNat) : Int)), (("gold" : Str), (((10 : Int) ^ (15 : Int).toNat) : Int))] [([114, 101, 100], 1000000000000000), ([98, 108, 117, 101], 1000000000000000), ([103, 111, 108, 100], 1000000000000000)] (pps_cons pe_str (c_pow pe_int pe_int (by unfold CPow; decide)) (pps_cons pe_str (c_pow pe_int pe_int (by unfold CPow; decide)) (pps_cons pe_str (c_pow pe_int pe_int (by unfold CPow; decide)) pps_nil))) (by rfl) (by rfl) (by simp) (by decide) (by decide) (by rfl) (by decide))) DL.d_anil)) (DL.len_cons (DL.len_cons DL.len_nil)))) DL.d_int) (DL.s_one (DL.s_ret DL.d_bl)) DL.s_nil)
    (DL.s_cons (DL.s_if (DL.d_or (DL.t_ne (by rfl) hu (DL.d_ofF (DL.f_fn c__law_made hr (by decide) (takes_of (by rfl) (by rfl) (by rfl) (by rfl)) (by rfl) (DL.d_acons (DL.d_ofF (DL.f_lst DL.d_anil)) (DL.d_acons (DL.d_ofF (DL.f_lst DL.d_anil)) (DL.d_acons (DL.d_ofF (DL.f_lst DL.d_anil)) (DL.d_acons (DL.d_mul (DL.d_ofF (DL.f_lst (DL.d_acons DL.d_int DL.d_anil))) DL.d_int) DL.d_anil)))) (DL.len_cons (DL.len_cons (DL.len_cons (DL.len_cons DL.len_nil)))))) (DL.d_tup (DL.d_acons (DL.d_str [99, 108, 111, 116, 104] (by rfl)) (DL.d_acons DL.d_int DL.d_anil)))) (DL.t_or1 (DL.t_ne (by rfl) hu (DL.d_ofF (DL.f_fn c__law_made hr (by decide) (takes_of (by rfl) (by rfl) (by rfl) (by rfl)) (by rfl) (DL.d_acons (DL.d_var 1 (pv 1)) (DL.d_acons (DL.d_sl (by rfl) (DL.d_var 3 (pv 3)) (DL.p_some DL.d_int) DL.p_none) (DL.d_acons (DL.d_sl (by rfl) (DL.d_var 4 (pv 4)) (DL.p_some DL.d_int) DL.p_none) (DL.d_acons (DL.d_mul (DL.d_ofF (DL.f_lst (DL.d_acons DL.d_int DL.d_anil))) DL.d_int) DL.d_anil)))) (DL.len_cons (DL.len_cons (DL.len_cons (DL.len_cons DL.len_nil)))))) (DL.d_tup (DL.d_acons (DL.d_str [117, 110, 101, 113, 117, 97, 108] (by rfl)) (DL.d_acons (DL.d_sub (DL.d_len (by rfl) (by rfl) n_len (DL.d_acons (DL.d_var 3 (pv 3)) DL.d_anil)) DL.d_int) DL.d_anil)))))).pt (DL.s_one (DL.s_ret DL.d_bl)) DL.s_nil)
    (DL.s_cons (DL.s_if (DL.t_ne (by rfl) hu (DL.d_ofF (DL.f_fn c__law_made hr (by decide) (takes_of (by rfl) (by rfl) (by rfl) (by rfl)) (by rfl) (DL.d_acons (DL.d_var 1 (pv 1)) (DL.d_acons (DL.d_var 3 (pv 3)) (DL.d_acons (DL.d_add (DL.d_var 4 (pv 4)) (DL.d_ofF (DL.f_lst (DL.d_acons (DL.d_str [114, 101, 100] (by rfl)) DL.d_anil)))) (DL.d_acons (DL.d_mul (DL.d_ofF (DL.f_lst (DL.d_acons DL.d_int DL.d_anil))) DL.d_int) DL.d_anil)))) (DL.len_cons (DL.len_cons (DL.len_cons (DL.len_cons DL.len_nil)))))) (DL.d_tup (DL.d_acons (DL.d_str [117, 110, 101, 113, 117, 97, 108] (by rfl)) (DL.d_acons (DL.d_add (DL.d_len (by rfl) (by rfl) n_len (DL.d_acons (DL.d_var 4 (pv 4)) DL.d_anil)) DL.d_int) DL.d_anil)))) (DL.s_one (DL.s_ret DL.d_bl)) DL.s_nil)
    (DL.s_cons (DL.s_set 17 nd (by rfl) (by first | exact Or.inl (by rfl) | exact Or.inr (by rfl)) (DL.d_ofF (DL.f_lst (DL.d_acons DL.d_int (DL.d_acons DL.d_int (DL.d_acons DL.d_int (DL.d_acons DL.d_int (DL.d_acons DL.d_int (DL.d_acons (DL.d_neg DL.d_int) (DL.d_acons DL.d_int DL.d_anil))))))))))
    (DL.s_cons (DL.s_set 14 nd (by rfl) (by first | exact Or.inl (by rfl) | exact Or.inr (by rfl)) (DL.d_mod (DL.d_div (DL.d_toInt (by rfl) n_int (DL.d_acons (DL.d_ofF (DL.f_fn c__law_cell hr (by decide) (takes_of (by rfl) (by rfl) (by rfl) (by rfl)) (by rfl) (DL.d_acons (DL.d_var 0 (pv 0)) (DL.d_acons DL.d_int DL.d_anil)) (DL.len_cons (DL.len_cons DL.len_nil)))) DL.d_anil)) DL.d_int) DL.d_int))
    (DL.s_cons (DL.s_set 18 nd (by rfl) (by first | exact Or.inl (by rfl) | exact Or.inr (by rfl)) (DL.d_add (DL.d_add (DL.d_sl (by rfl) (DL.d_var 6 (pv 6)) DL.p_none (DL.p_some (DL.d_var 14 (pv 14)))) (DL.d_ofF (DL.f_lst (DL.d_acons (DL.d_ix (by rfl) (fun _ _ => (by rfl)) (DL.d_var 17 (pv 17)) (DL.d_var 14 (pv 14))) DL.d_anil)))) (DL.d_mul (DL.d_ofF (DL.f_lst (DL.d_acons (DL.d_neg DL.d_int) DL.d_anil))) (DL.d_sub DL.d_int (DL.d_var 14 (pv 14))))))
    (DL.s_cons (DL.s_if (DL.t_ne (by rfl) hu (DL.d_ofF (DL.f_fn c__law_made hr (by decide) (takes_of (by rfl) (by rfl) (by rfl) (by rfl)) (by rfl) (DL.d_acons (DL.d_var 1 (pv 1)) (DL.d_acons (DL.d_var 3 (pv 3)) (DL.d_acons (DL.d_var 4 (pv 4)) (DL.d_acons (DL.d_var 18 (pv 18)) DL.d_anil)))) (DL.len_cons (DL.len_cons (DL.len_cons (DL.len_cons DL.len_nil)))))) (DL.d_tup (DL.d_acons (DL.d_str [114, 97, 110, 103, 101] (by rfl)) (DL.d_acons (DL.d_ix (by rfl) (fun _ _ => (by rfl)) (DL.d_var 17 (pv 17)) (DL.d_var 14 (pv 14))) DL.d_anil)))) (DL.s_one (DL.s_ret DL.d_bl)) DL.s_nil)
    (DL.s_one (DL.s_ret (DL.d_eq (by rfl) hu (DL.d_ofF (DL.f_fn c__law_stock hr (by decide) (takes_of (by rfl) (by rfl) (by rfl) (by rfl)) (by rfl) (DL.d_acons (DL.d_var 8 (pv 8)) DL.d_anil) (DL.len_cons DL.len_nil))) (DL.d_neg DL.d_int)))))))))))))))))))))))))))))))
theorem bi_law {K : PySem.W.Frag} {f : Addr} {fd : FuncData} (F : FunD K "law" "law" (defArgs (top 43)) (defBody (top 43)) (defScope (top 43)) [] [] f fd) : Binds K fd ["script"] [] := FunD.bindsN F fun _ _ _ _ _ _ us hl => match us, hl with | [_], _ => rfl
theorem ok_law {P : Program} {w : World} {K : PySem.W.Frag} {mg : Str → Option Value} {base : Heap} {f : Addr} {fd : FuncData} (F : FunD K "law" "law" (defArgs (top 43)) (defBody (top 43)) (defScope (top 43)) [] [] f fd) (hg : mg "law" = some (.ref f)) (c__law_cloth : DefOk P w K mg base "_law_cloth" 2 3 m__law_cloth) (c__law_cell : DefOk P w K mg base "_law_cell" 1 2 m__law_cell) (c__law_draw : DefOk P w K mg base "_law_draw" 1 2 m__law_draw) (c__law_made : DefOk P w K mg base "_law_made" 6 4 m__law_made) (c__law_yarn : DefOk P w K mg base "_law_yarn" 2 4 m__law_yarn) (c_width_of : DefOk P w K mg base "width_of" 2 1 m_width_of) (c_length_of : DefOk P w K mg base "length_of" 3 1 m_length_of) (c__law_whole : DefOk P w K mg base "_law_whole" 1 1 m__law_whole) (c_yarn_of : DefOk P w K mg base "yarn_of" 4 1 m_yarn_of) (c_warp_order : DefOk P w K mg base "warp_order" 2 1 m_warp_order) (c__law_runs : DefOk P w K mg base "_law_runs" 1 2 m__law_runs) (c_weft_order : DefOk P w K mg base "weft_order" 2 1 m_weft_order) (c_greatest_times : DefOk P w K mg base "greatest_times" 5 2 m_greatest_times) (c__law_stock : DefOk P w K mg base "_law_stock" 6 1 m__law_stock) (q_Plan : FldC K mg "Plan" ["cloth", "warp", "weft", "sett", "beat", "ends_times", "picks_times", "warp_take", "weft_take", "waste"]) (n_abs : mg "abs" = none) (n_list : mg "list" = none) (n_int : mg "int" = none) (n_max : mg "max" = none) (n_range : mg "range" = none) (n_len : mg "len" = none) (n_dict : mg "dict" = none) : DefOk P w K mg base "law" 7 1 m_law :=
  def_ok F hg sc_law rfl (bi_law F) (t_law c__law_cloth c__law_cell c__law_draw c__law_made c__law_yarn c_width_of c_length_of c__law_whole c_yarn_of c_warp_order c__law_runs c_weft_order c_greatest_times c__law_stock q_Plan n_abs n_list n_int n_max n_range n_len n_dict)
end K25
set_option Elab.async false
set_option linter.all false
set_option maxRecDepth 100000
set_option maxHeartbeats 0
namespace K25
open PySem L2 DL DLC
/-! ### what is wrong with a row: the tests of the program and of the law -/
def eK (W : List (List Nat)) (o1 o2 o3 : Option OD) : En := [some (.sh (dS W)), o1, o2, o3]
/-- rows that are not too long to be told of -/
def Fit (W : List (List Nat)) : Prop := W.length ≤ 1000 ∧ ∀ r ∈ W, r.length ≤ 1000
section
variable {W : List (List Nat)} {k : Nat} {o1 o2 o3 : Option OD} {r : List Nat}
theorem ck_len : opA dLen (aCons (var 0) aNil) (eK W o1 o2 o3) = .ok (.int W.length) := len_dS' W rfl
theorem ck_row (hW : Fit W) (hk : k < W.length) : setS 2 ([0] ++ [1]) (op2 dIx (var 0) (var 1)) (eK W (some (.sh (.int k))) none none) = .nx (eK W (some (.sh (.int k))) (some (.sh (.str W[k]))) none) := by
  rw [setS_ok (ix_dS hk (f := var 0) (g := var 1) rfl rfl) rfl]; rfl
theorem head_get (h0 : 0 < W.length) : W[0] = W.headD [] := by
  cases W with
  | nil => simp at h0
  | cons x xs => rfl
theorem ck_or (hW : Fit W) (hk : k < W.length) : (orT (tst (op2 dLt (opA dLen (aCons (var 2) aNil)) (con (.int 1)))) (orT (tst (op2 dGt (opA dLen (aCons (var 2) aNil)) (con (.int 60)))) (tst (op2 dNe (opA dLen (aCons (var 2) aNil)) (opA dLen (aCons (op2 dIx (var 0) (con (.int 0))) aNil)))))) (eK W (some (.sh (.int k))) (some (.sh (.str W[k]))) none)
    = .ok (decide (W[k].length < 1) || (decide (60 < W[k].length) || decide (W[k].length ≠ (W.headD []).length))) := by
  have h0 : 0 < W.length := by omega
  have v2 : opA dLen (aCons (var 2) aNil) (eK W (some (.sh (.int k))) (some (.sh (.str W[k]))) none) = .ok (.int W[k].length) := opA_ok rfl (dLen_str' _ _ rfl (by have := hW.2 _ (List.getElem_mem hk); omega))
  have g0 : op2 dIx (var 0) (con (.int 0)) (eK W (some (.sh (.int k))) (some (.sh (.str W[k]))) none) = .ok (.str W[0]) := ix_dS h0 (f := var 0) (g := con (.int 0)) rfl rfl
  have v0 : opA dLen (aCons (op2 dIx (var 0) (con (.int 0))) aNil) (eK W (some (.sh (.int k))) (some (.sh (.str W[k]))) none) = .ok (.int (W.headD []).length) := by
    rw [← head_get h0]
    exact opA_ok g0 (dLen_str' _ _ rfl (by have := hW.2 _ (List.getElem_mem h0); omega))
  have t1 := tst_ok (op2_ok (g := dLt) v2 (b := .int 1) (f2 := con (.int 1)) rfl (dLt_int _ _))
  have t2 := tst_ok (op2_ok (g := dGt) v2 (b := .int 60) (f2 := con (.int 60)) rfl (dGt_int _ _))
  have t3 := tst_ok (op2_ok (g := dNe) v2 v0 (dNe_int _ _))
  have e1 : decide ((W[k].length : Int) < 1) = decide (W[k].length < 1) := decide_eq_decide.mpr (by omega)
  have e2 : decide ((60 : Int) < W[k].length) = decide (60 < W[k].length) := decide_eq_decide.mpr (by omega)
  have e3 : (!decide ((W[k].length : Int) = (W.headD []).length)) = decide (W[k].length ≠ (W.headD []).length) := by rw [← decide_not]; exact decide_eq_decide.mpr (by omega)
  rw [e1] at t1
  rw [e2] at t2
  rw [e3] at t3
  unfold orT
  rw [t1, R.bind_ok]
  cases decide (W[k].length < 1) with
  | true => rfl
  | false =>
    rw [if_neg (by simp), t2, R.bind_ok]
    cases decide (60 < W[k].length) with
    | true => rfl
    | false => rw [if_neg (by simp), t3]; rfl
theorem ck_comp (hl : r.length ≤ 1000) : opA dLen (aCons (erE (lcE [2] [3] (bName 3) (itE (var 2)) (tst (op2 dNotIn (var 3) (tupE (aCons (con (.str [35])) (aCons (con (.str [46])) aNil))))) (var 3))) aNil) (eK W o1 (some (.sh (.str r))) none) = .ok (.int (r.filter badS).length) := by
  have h := lcE_eq r (fun c => D.str [c]) badS (fun c => D.str [c]) (Ee := [2]) (vs := [3]) (bnd := bName 3) (it := itE (var 2)) (t := tst (op2 dNotIn (var 3) (tupE (aCons (con (.str [35])) (aCons (con (.str [46])) aNil))))) (f := var 3) (ρ := eK W o1 (some (.sh (.str r))) none)
    rfl (by simp [D.flat]) (by omega) fun c hc => by
      rw [show bName 3 (D.str [c]) (fgt [3] (eK W o1 (some (.sh (.str r))) none)) = some (eK W o1 (some (.sh (.str r))) (some (.sh (.str [c])))) from rfl, bk_some]
      refine ⟨tst_ok ?_, fun _ => rfl⟩
      exact dNotIn_sign c
  exact opA_ok (erE_ok h) (by rw [lstF_er]; exact dLen_lst' _ _ (by simp))
theorem any_filter : decide (0 < (r.filter badS).length) = r.any badS := by
  rw [Bool.eq_iff_iff, decide_eq_true_iff, List.length_pos_iff_exists_mem, List.any_eq_true]
  constructor
  · rintro ⟨x, hx⟩
    exact ⟨x, (List.mem_filter.mp hx).1, (List.mem_filter.mp hx).2⟩
  · rintro ⟨x, h1, h2⟩
    exact ⟨x, List.mem_filter.mpr ⟨h1, h2⟩⟩
def exB (k : Nat) : List (Str × D) := [("row", .int k), ("label", .str [66, 97, 100, 67, 108, 111, 116, 104])]
theorem raise_b {f : En → R D} {ρ : En} {k : Nat} (h : f ρ = .ok (.int k)) : DLX.raiseS "BadCloth" 1 l_BadCloth (aCons f aNil) ρ = .ex "BadCloth" (exB k) ρ := by
  unfold DLX.raiseS
  rw [args1 h, R.out_ok]
  rfl
theorem cons_bad : rowBad W r = ((decide (r.length < 1) || (decide (60 < r.length) || decide (r.length ≠ (W.headD []).length))) || r.any badS) := by
  unfold rowBad
  rw [Bool.or_assoc, Bool.or_assoc]
theorem getD_get (hk : k < W.length) : W.getD k [] = W[k] := by simp [List.getD, List.getElem?_eq_getElem hk]
/-! ### check_cloth -/
theorem check_turn (hW : Fit W) (hk : k < W.length) : (rowBad W W[k] = false ∧ ∃ ρ2, l1_check_cloth (eK W (some (.sh (.int k))) none none) = .nx ρ2 ∧ fgt [1, 2] ρ2 = eK W none none none) ∨
    (rowBad W W[k] = true ∧ l1_check_cloth (eK W (some (.sh (.int k))) none none) = .ex "BadCloth" (exB k) (eK W (some (.sh (.int k))) (some (.sh (.str W[k]))) none)) := by
  have w1 := ck_row hW hk
  have w2 := ck_or hW hk
  have w3 := ck_comp (W := W) (o1 := some (.sh (.int k))) (hW.2 _ (List.getElem_mem hk))
  have t3 := tst_ok (op2_ok (g := dGt) w3 (b := .int 0) (f2 := con (.int 0)) rfl (dGt_int _ _))
  have e3 : decide ((0 : Int) < (W[k].filter badS).length) = W[k].any badS := by rw [← any_filter]; exact decide_eq_decide.mpr (by omega)
  rw [e3] at t3
  unfold l1_check_cloth
  rw [seqS_nx w1, cons_bad]
  revert w2 t3
  generalize (decide (W[k].length < 1) || (decide (60 < W[k].length) || decide (W[k].length ≠ (W.headD []).length))) = b1
  generalize W[k].any badS = b2
  intro w2 t3
  cases b1 with
  | true => exact .inr ⟨rfl, seqS_ex (by rw [ifS_t w2]; exact raise_b rfl)⟩
  | false =>
    rw [seqS_nx (ρ' := eK W (some (.sh (.int k))) (some (.sh (.str W[k]))) none) (by rw [ifS_f w2]; rfl)]
    cases b2 with
    | true => exact .inr ⟨rfl, by rw [ifS_t t3]; exact raise_b rfl⟩
    | false => exact .inl ⟨rfl, _, by rw [ifS_f t3]; rfl, rfl⟩
theorem check_eq (hW : Fit W) : m_check_cloth [dS W] = match dueN W with
    | none => .ok (.sh .non)
    | some k => .ex "BadCloth" (exB k) := by
  have e0 : ([dS W].map (fun d => some (OD.sh d)) ++ List.replicate (4 - 1) none) = eK W none none none := rfl
  have t1 := tst_ok (op2_ok (g := dEq) (ck_len (W := W) (o1 := none) (o2 := none) (o3 := none)) (b := .int 0) (f2 := con (.int 0)) rfl (dEq_int _ _))
  have t2 := tst_ok (op2_ok (g := dGt) (ck_len (W := W) (o1 := none) (o2 := none) (o3 := none)) (b := .int 60) (f2 := con (.int 60)) rfl (dGt_int _ _))
  unfold dueN
  by_cases h0 : W.length = 0
  · rw [if_pos h0]
    rw [decide_eq_true (by omega : (W.length : Int) = 0)] at t1
    refine mOf_ex (ρ := eK W none none none) rfl e0 ?_
    unfold b_check_cloth
    exact seqS_ex (by rw [ifS_t t1]; exact raise_b (k := 0) rfl)
  · rw [if_neg h0]
    rw [decide_eq_false (by omega : ¬ (W.length : Int) = 0)] at t1
    have w1 : (ifS (tst (op2 dEq (opA dLen (aCons (var 0) aNil)) (con (.int 0)))) (DLX.raiseS "BadCloth" 1 l_BadCloth (aCons (con (.int 0)) aNil)) nxS) (eK W none none none) = .nx (eK W none none none) := by rw [ifS_f t1]; rfl
    by_cases h1 : 60 < W.length
    · rw [if_pos h1]
      rw [decide_eq_true (by omega : (60 : Int) < (W.length : Int))] at t2
      refine mOf_ex (ρ := eK W none none none) rfl e0 ?_
      unfold b_check_cloth
      rw [seqS_nx w1]
      exact seqS_ex (by rw [ifS_t t2]; exact raise_b (k := 60) rfl)
    · rw [if_neg h1]
      rw [decide_eq_false (by omega : ¬ (60 : Int) < (W.length : Int))] at t2
      have w2 : (ifS (tst (op2 dGt (opA dLen (aCons (var 0) aNil)) (con (.int 60)))) (DLX.raiseS "BadCloth" 1 l_BadCloth (aCons (con (.int 60)) aNil)) nxS) (eK W none none none) = .nx (eK W none none none) := by rw [ifS_f t2]; rfl
      have lp := loop_first (fg := [1, 2]) (bnd := bName 1) (body := l1_check_cloth) (fun k : Nat => D.int k) (fun k => rowBad W (W.getD k [])) (fun k => .ex "BadCloth" (exB k) (eK W (some (.sh (.int k))) (some (.sh (.str (W.getD k [])))) none)) (eK W none none none) (List.range W.length) fun k hk => by
        have hk := List.mem_range.mp hk
        refine ⟨eK W (some (.sh (.int k))) none none, rfl, ?_⟩
        rw [getD_get hk]
        rcases check_turn hW hk with h | ⟨h1, h2⟩
        · exact .inl h
        · exact .inr ⟨h1, h2, .inr ⟨_, _, _, rfl⟩⟩
      rw [← rngL_map] at lp
      have w3 := for_rng1 (n := W.length) (by have := hW.1; omega) (args1 ck_len) lp
      have w : b_check_cloth (eK W none none none) = forS [] [1, 2] (bName 1) (rgE rgF1 (aCons (opA dLen (aCons (var 0) aNil)) aNil)) l1_check_cloth (eK W none none none) := by
        unfold b_check_cloth
        rw [seqS_nx w1, seqS_nx w2]
      rw [w3] at w
      revert w
      cases (List.range W.length).find? fun k => rowBad W (W.getD k []) with
      | none => exact fun w => mOf_nx rfl e0 w
      | some k => exact fun w => mOf_ex rfl e0 w
end

theorem len_dS (C : List (List Nat)) : (C.map D.str).length = C.length := by simp
theorem get_dS {C : List (List Nat)} {k : Nat} (h : k < C.length) : L2.atI (C.map D.str) (k : Int) = some (.str C[k]) := get_dS' h
theorem check_ok {p e : Nat} {C : List (List Nat)} (hC : Cl p e C) (h1 : 1 ≤ p) (h2 : p ≤ 60) (h3 : 1 ≤ e) (h4 : e ≤ 60) : m_check_cloth [dS C] = .ok (.sh .non) := by
  have hl := hC.len
  have hF : Fit C := ⟨by omega, fun r hr => by have := hC.row r hr; omega⟩
  have hd : dueN C = none := by
    unfold dueN
    rw [if_neg (by omega), if_neg (by omega), List.find?_eq_none]
    intro k hk
    have hk := List.mem_range.mp hk
    rw [getD_get hk]
    have hr := hC.row _ (List.getElem_mem hk)
    have h0 : 0 < C.length := by omega
    have hh : (C.headD []).length = e := by rw [← head_get h0]; exact hC.row _ (List.getElem_mem h0)
    have hc : C[k].any badS = false := by
      rw [List.any_eq_false]
      intro c hc
      rcases hC.chr _ (List.getElem_mem hk) c hc with rfl | rfl <;> decide
    unfold rowBad
    rw [hc, hh, hr]
    simp
    omega
  rw [check_eq hF, hd]
theorem dt_dS (A : List (List Nat)) : (dS A).dt 20 = true := by
  unfold dS
  rw [show (20 : Nat) = 19 + 1 from rfl, D.dt_lst, List.all_eq_true]
  intro x hx
  obtain ⟨y, _, rfl⟩ := List.mem_map.mp hx
  exact D.dt_str _ _
theorem eqv_dS (A B : List (List Nat)) : D.eqv (dS A) (dS B) = decide (A = B) := by
  unfold dS
  rw [eqv_lst, eqvL_map D.str (fun a b => by rw [eqv_str, Bool.eq_iff_iff]; simp)]
theorem dEq_dS (A B : List (List Nat)) : dEq (dS A) (dS B) = some (.bl (decide (A = B))) := by
  unfold dEq
  rw [dt_dS, dt_dS, Bool.and_self, if_pos rfl, eqv_dS]
theorem dNe_dS (A B : List (List Nat)) : dNe (dS A) (dS B) = some (.bl (!decide (A = B))) := by
  unfold dNe
  rw [dt_dS, dt_dS, Bool.and_self, if_pos rfl, eqv_dS]
theorem dMod_nat (n s : Nat) (h : 0 < s) : dMod (.int n) (.int s) = some (.int ((n % s : Nat) : Int)) := by
  show (if decide ((0 : Int) < s) = true then some (D.int ((n : Int) % s)) else _) = _
  rw [if_pos (decide_eq_true (by omega))]; rfl

theorem cell_ok {ρ : En} {ns : List Int} (k : Nat) (h : var 0 ρ = .ok (.scr ns)) : erE (callE m__law_cell (aCons (var 0) (aCons (con (.int k)) aNil))) ρ = .ok (.int (ns.getD k 0)) := by
  have : callE m__law_cell (aCons (var 0) (aCons (con (.int k)) aNil)) ρ = .ok (.sh (.int (ns.getD k 0))) := by
    rw [call2 h (rfl : con (.int k) ρ = .ok (.int k))]; exact law_cell ns k
  exact erE_ok this
theorem lw_cloth {ρ : En} {ns : List Int} (k mp me : Nat) (hmp : 1 ≤ mp ∧ mp < 1000) (hme : 1 ≤ me ∧ me < 1000) (h : var 0 ρ = .ok (.scr ns)) : ∃ (p e : Nat) (C : List (List Nat)), callE m__law_cloth (aCons (opA dAbs (aCons (erE (callE m__law_cell (aCons (var 0) (aCons (con (.int k)) aNil)))) aNil)) (aCons (con (.int mp)) (aCons (con (.int me)) aNil))) ρ = .ok (oS C) ∧ Cl p e C ∧ 1 ≤ p ∧ p ≤ mp ∧ 1 ≤ e ∧ e ≤ me := by
  obtain ⟨p, e, C, h1, h2⟩ := law_cloth ((ns.getD k 0).natAbs) mp me hmp.1 hmp.2 hme.1 hme.2
  refine ⟨p, e, C, ?_, h2⟩
  rw [call3 (opA_ok (cell_ok k h) (by rw [dAbs, abs_eq])) rfl rfl]
  exact h1
theorem dMod_i (x : Int) (m : Int) (h : 0 < m) : dMod (.int x) (.int m) = some (.int (x % m)) := by
  show (if decide (0 < m) = true then some (D.int (x % m)) else _) = _
  rw [if_pos (decide_eq_true h)]
theorem dDiv_i (x : Int) (m : Int) (h : 0 < m) (h2 : m < 2147483648) : dDiv (.int x) (.int m) = some (.int (x / m)) := by
  show (if divW m = true then some (D.int (x / m)) else _) = _
  rw [if_pos (divW_ok h h2)]
theorem cellI {ρ : En} {ns : List Int} (k : Nat) (h : var 0 ρ = .ok (.scr ns)) : opA dInt (aCons (erE (callE m__law_cell (aCons (var 0) (aCons (con (.int k)) aNil)))) aNil) ρ = .ok (.int (ns.getD k 0)) := opA_ok (cell_ok k h) rfl
theorem flat_len {α : Type} (xs : List α) (n : Nat) : (List.replicate n xs).flatten.length = n * xs.length := by simp
theorem dMul_dS {A : List (List Nat)} {k : Nat} (h : A.length * k ≤ 16777216) (h2 : k < 1000000) : dMul (dS A) (.int k) = some (dS (List.replicate k A).flatten) := by
  unfold dS
  rw [dMul_lst, Int.toNat_natCast, if_pos (by unfold okSz; simp; omega)]
  simp [List.map_flatten]
theorem dMul_st {r : List Nat} {k : Nat} (h : r.length * k ≤ 16777216) (h2 : k < 1000000) : dMul (.str r) (.int k) = some (.str (List.replicate k r).flatten) := by
  rw [dMul_str, Int.toNat_natCast, if_pos (by unfold okSz; simp; omega)]

end K25
set_option Elab.async false
set_option linter.all false
set_option maxRecDepth 100000
set_option maxHeartbeats 0
namespace K25
open PySem L2 DL DLC
/-! ### quotients -/
def up (a b : Nat) : Nat := (a + b - 1) / b
theorem up_le {a b c : Nat} (hb : 0 < b) (h : a ≤ c) : up a b ≤ up c b := Nat.div_le_div_right (by omega)
theorem up_b {a b m : Nat} (hb : 0 < b) (h : a ≤ m * b) : up a b ≤ m := by
  unfold up
  have : (a + b - 1) / b < m + 1 := (Nat.div_lt_iff_lt_mul hb).mpr (by rw [Nat.add_mul]; omega)
  omega
theorem neg_div (a b : Nat) (hb : 0 < b) : -((-(a : Int)) / (b : Int)) = (up a b : Nat) := by
  have h1 : b * up a b ≤ a + b - 1 := Nat.mul_div_le _ _
  have h2 : a + b - 1 < b * up a b + b := by
    have := Nat.lt_mul_div_succ (a + b - 1) hb
    rwa [Nat.mul_add, Nat.mul_one] at this
  have e : (-(a : Int)) / (b : Int) = -((up a b : Nat) : Int) := by
    refine ((Int.ediv_emod_unique (a := -(a : Int)) (b := (b : Int)) (q := -((up a b : Nat) : Int)) (r := ((b * up a b : Nat) : Int) - a) (by omega)).mpr ⟨?_, by omega, by omega⟩).1
    rw [Int.mul_neg, Int.natCast_mul]
    omega
  rw [e, Int.neg_neg]
theorem mulN (i j : Nat) (h : i < 2 ^ 60) : dMul (.int i) (.int j) = some (.int ((i * j : Nat) : Int)) := by
  rw [dMul_int, if_pos (by unfold mulOk; simp; omega), Int.natCast_mul]
theorem mulN2 (i j : Nat) (h : j < 2 ^ 60) : dMul (.int i) (.int j) = some (.int ((i * j : Nat) : Int)) := by
  rw [dMul_int, if_pos (by unfold mulOk; simp; omega), Int.natCast_mul]
theorem divided_ok (a b : Nat) (hb : 0 < b) (h : b < 2147483648) : m_divided_up [.int a, .int b] = .ok (.sh (.int (up a b : Nat))) := by
  refine mOf_rt (ρ0 := [some (OD.sh (.int a)), some (.sh (.int b))]) (ρ := [some (OD.sh (.int a)), some (.sh (.int b))]) rfl rfl ?_
  unfold b_divided_up
  refine retS_ok (op1_ok (op2_ok (op1_ok (a := .int a) rfl rfl) (b := .int b) rfl (dDiv_i _ _ (by omega) (by omega))) ?_) rfl
  show some (D.int _) = _
  rw [neg_div a b hb]
theorem law_up_ok (a b : Nat) (hb : 0 < b) (h : b < 2147483648) : m__law_up [.int a, .int b] = .ok (.sh (.int (up a b : Nat))) := by
  refine mOf_rt (ρ0 := [some (OD.sh (.int a)), some (.sh (.int b))]) (ρ := [some (OD.sh (.int a)), some (.sh (.int b))]) rfl rfl ?_
  unfold b__law_up
  refine retS_ok (op2_ok (op2_ok (op2_ok (a := .int a) (b := .int b) rfl rfl rfl) (b := .int 1) rfl rfl) (b := .int b) rfl ((dDiv_i _ _ (by omega) (by omega)).trans ?_)) rfl
  unfold up
  rw [show (a : Int) + b - 1 = ((a + b - 1 : Nat) : Int) by omega, Int.natCast_ediv]
/-! ### the plan -/
structure Pl where
  C : List (List Nat)
  A : List (List Nat)
  B : List (List Nat)
  s : Nat
  b : Nat
  et : Nat
  pt : Nat
  wt : Nat
  ft : Nat
  wa : Nat
def Pl.obj (q : Pl) : D := .obj "Plan" [("cloth", dS q.C), ("warp", dS q.A), ("weft", dS q.B), ("sett", .int q.s), ("beat", .int q.b), ("ends_times", .int q.et), ("picks_times", .int q.pt), ("warp_take", .int q.wt), ("weft_take", .int q.ft), ("waste", .int q.wa)]
structure Pl.Ok (q : Pl) : Prop where
  A : q.A.length ≤ 60
  B : q.B.length ≤ 60
  s1 : 10 ≤ q.s
  s2 : q.s ≤ 400
  b1 : 10 ≤ q.b
  b2 : q.b ≤ 400
  et : q.et ≤ 1000
  pt : q.pt ≤ 1000
  wt : q.wt ≤ 500
  ft : q.ft ≤ 500
  wa : q.wa ≤ 5000
theorem fP {f : Str} {g : En → R D} {ρ : En} {q : Pl} {d : D} (h : g ρ = .ok q.obj) (e : fldO ["Plan"] f q.obj = some d) : op1 (fldO ["Plan"] f) g ρ = .ok d := op1_ok h e
def Pl.wide (q : Pl) : Nat := up (q.A.length * q.et * 1000) q.s
def Pl.long (q : Pl) (t : Nat) : Nat := up (q.B.length * t * 1000) q.b
def tk (x k : Nat) : Nat := up (x * (1000 + k)) 10000
def Pl.fin (q : Pl) (t : Nat) : Nat := tk (q.long t) q.wt + q.wa
def Pl.pick (q : Pl) : Nat := tk q.wide q.ft
section
variable {q : Pl}
theorem Pl.Ok.wide (h : q.Ok) : q.wide ≤ 6000000 := by
  have := h.A; have := h.et; have := h.s1
  refine up_b (by omega) ?_
  have h1 : q.A.length * q.et ≤ 60 * 1000 := Nat.mul_le_mul h.A h.et
  have h2 : 6000000 * 10 ≤ 6000000 * q.s := Nat.mul_le_mul_left _ h.s1
  omega
theorem Pl.Ok.long (h : q.Ok) {t : Nat} (ht : t ≤ 1001) : q.long t ≤ 6006000 := by
  have := h.b1
  refine up_b (by omega) ?_
  have h1 : q.B.length * t ≤ 60 * 1001 := Nat.mul_le_mul h.B ht
  have h2 : 6006000 * 10 ≤ 6006000 * q.b := Nat.mul_le_mul_left _ h.b1
  omega
theorem tk_b {x k : Nat} (hx : x ≤ 10000000) (hk : k ≤ 500) : tk x k ≤ 1500000 := by
  refine up_b (by omega) ?_
  have : x * (1000 + k) ≤ 10000000 * 1500 := Nat.mul_le_mul hx (by omega)
  omega
theorem wide_ok (h : q.Ok) : m_width_of [q.obj] = .ok (.sh (.int q.wide)) := by
  have hA := h.A
  have he := h.et
  refine mOf_rt (ρ0 := [some (OD.sh q.obj)]) (ρ := [some (OD.sh q.obj)]) rfl rfl ?_
  unfold b_width_of
  have hm : q.A.length * q.et ≤ 60 * 1000 := Nat.mul_le_mul h.A h.et
  have l : opA dLen (aCons (op1 (fldO ["Plan"] "warp") (var 0)) aNil) [some (OD.sh q.obj)] = .ok (.int (q.A.length : Nat)) := len_dS' q.A (fP (q := q) rfl rfl)
  refine retF_ok ((callA (args2 (op2_ok (op2_ok l (fP (q := q) (d := .int q.et) rfl rfl) (mulN _ _ (by omega))) (b := .int ((1000 : Nat) : Int)) rfl (mulN _ _ (by omega))) (fP (q := q) (d := .int q.s) rfl rfl))).trans (divided_ok _ _ (by have := h.s1; omega) (by have := h.s2; omega))) rfl
theorem lengthw_ok (h : q.Ok) {t : Nat} (ht : t ≤ 1001) : m_length_with [q.obj, .int t] = .ok (.sh (.int (q.long t))) := by
  have hB := h.B
  refine mOf_rt (ρ0 := [some (OD.sh q.obj), some (.sh (.int t))]) (ρ := [some (OD.sh q.obj), some (.sh (.int t))]) rfl rfl ?_
  unfold b_length_with
  have hm : q.B.length * t ≤ 60 * 1001 := Nat.mul_le_mul h.B ht
  have l : opA dLen (aCons (op1 (fldO ["Plan"] "weft") (var 0)) aNil) [some (OD.sh q.obj), some (.sh (.int t))] = .ok (.int (q.B.length : Nat)) := len_dS' q.B (fP (q := q) rfl rfl)
  refine retF_ok ((callA (args2 (op2_ok (op2_ok l (b := .int t) rfl (mulN _ _ (by omega))) (b := .int ((1000 : Nat) : Int)) rfl (mulN _ _ (by omega))) (fP (q := q) (d := .int q.b) rfl rfl))).trans (divided_ok _ _ (by have := h.b1; omega) (by have := h.b2; omega))) rfl
theorem length_ok (h : q.Ok) : m_length_of [q.obj] = .ok (.sh (.int (q.long q.pt))) := by
  refine mOf_rt (ρ0 := [some (OD.sh q.obj)]) (ρ := [some (OD.sh q.obj)]) rfl rfl ?_
  unfold b_length_of
  exact retF_ok ((callA (args2 (a := q.obj) rfl (fP (q := q) (d := .int q.pt) rfl rfl))).trans (lengthw_ok h (by have := h.pt; omega))) rfl
theorem taken_ok {x k : Nat} (hx : x ≤ 10000000) (hk : k ≤ 500) : m_taken [.int x, .int k] = .ok (.sh (.int (tk x k))) := by
  refine mOf_rt (ρ0 := [some (OD.sh (.int x)), some (.sh (.int k))]) (ρ := [some (OD.sh (.int x)), some (.sh (.int k))]) rfl rfl ?_
  unfold b_taken
  have a1 : op2 dAdd (con (.int 1000)) (var 1) [some (OD.sh (.int x)), some (.sh (.int k))] = .ok (.int ((1000 + k : Nat) : Int)) := op2_ok (a := .int 1000) (b := .int k) rfl rfl (by rw [dAdd_int, Int.natCast_add]; rfl)
  refine retF_ok ((callA (args2 (op2_ok (a := .int x) rfl a1 (mulN _ _ (by omega))) (op2_ok (a := .int ((10 : Nat) : Int)) (b := .int ((1000 : Nat) : Int)) rfl rfl (mulN 10 1000 (by omega))))).trans (divided_ok _ _ (by omega) (by omega))) rfl
end
end K25
set_option Elab.async false
set_option linter.all false
set_option maxRecDepth 100000
set_option maxHeartbeats 0
namespace K25
open PySem L2 DL DLC
/-! ### dicts by colours -/
def ks (c : List Nat) : Key := Sum.inr (⟨c.toArray⟩ : Str)
theorem kD_ks (c : List Nat) : kD (ks c) = .str c := rfl
theorem ks_inj {a b : List Nat} (h : ks a = ks b) : a = b := by
  have : kD (ks a) = kD (ks b) := by rw [h]
  rw [kD_ks, kD_ks] at this
  injection this
theorem keq_ks (a b : List Nat) : keq (ks a) (.str b) = decide (a = b) := by
  rw [← kD_ks b, keq_kD]
  exact decide_eq_decide.mpr ⟨fun h => (ks_inj h).symm, fun h => by rw [h]⟩
theorem kOf_str (c : List Nat) : kOf (.str c) = some (ks c) := by rw [← kD_ks c, kOf_kD]
theorem find_ks (f : List Nat → D) (a : List Nat) : ∀ cs : List (List Nat), ((cs.map fun c => (D.str c, f c)).find? fun q => keq (ks a) q.1).map (·.2) = if a ∈ cs then some (f a) else none
  | [] => rfl
  | c :: cs => by
    rw [List.map_cons, List.find?_cons]
    simp only
    rw [keq_ks]
    by_cases e : a = c
    · subst e; rw [decide_eq_true rfl, if_pos (by simp)]; rfl
    · rw [decide_eq_false e]
      simp only
      rw [find_ks f a cs]
      by_cases h : a ∈ cs
      · rw [if_pos h, if_pos (List.mem_cons_of_mem _ h)]
      · rw [if_neg h, if_neg (fun z => (List.mem_cons.mp z).elim e h)]
def kv (L : List (List Nat)) (v : List Nat → Nat) : List (D × OD) := (kF L).map fun c => (D.str c, OD.sh (.int (v c : Nat)))
def dv (L : List (List Nat)) (v : List Nat → Nat) : D := .dic ((kF L).map fun c => (D.str c, D.int (v c : Nat)))
theorem kv_er (L : List (List Nat)) (v : List Nat → Nat) : (OD.dic (kv L v)).er = dv L v := by
  rw [er_dic]
  unfold kv dv
  rw [List.map_map]; rfl
theorem kv_put (L : List (List Nat)) (v : List Nat → Nat) (c : List Nat) (n : Nat) : putO (kv L v) (ks c) (.sh (.int n)) = kv (L ++ [c]) (fun c' => if c' = c then n else v c') := by
  have hany : ((kv L v).any fun q => keq (ks c) q.1) = decide (c ∈ L) := by
    unfold kv
    rw [List.any_map, Bool.eq_iff_iff, List.any_eq_true, decide_eq_true_iff]
    constructor
    · rintro ⟨x, hx, e⟩
      have e : keq (ks c) (.str x) = true := e
      rw [keq_ks, decide_eq_true_iff] at e
      rw [e]; exact (kF_mem L x).mp hx
    · intro h
      exact ⟨c, (kF_mem L c).mpr h, by show keq (ks c) (.str c) = true; rw [keq_ks, decide_eq_true rfl]⟩
  unfold putO
  rw [hany]
  unfold kv
  rw [kF_snoc]
  by_cases h : c ∈ L
  · rw [if_pos (decide_eq_true h), if_pos h, List.map_map]
    apply List.map_congr_left
    intro x _
    show (if keq (ks c) (.str x) then ((D.str x), OD.sh (.int n)) else (D.str x, OD.sh (.int (v x : Nat)))) = (D.str x, OD.sh (.int ((if x = c then n else v x : Nat) : Int)))
    rw [keq_ks]
    by_cases e : x = c
    · rw [if_pos (decide_eq_true e.symm), if_pos e]
    · rw [if_neg (by simpa using fun z => e z.symm), if_neg e]
  · rw [if_neg (by simpa using h), if_neg h, List.map_append]
    congr 1
    · apply List.map_congr_left
      intro x hx
      show _ = (D.str x, OD.sh (.int ((if x = c then n else v x : Nat) : Int)))
      rw [if_neg (fun z => h (by rw [← z]; exact (kF_mem L x).mp hx))]
    · show [(kD (ks c), OD.sh (.int n))] = [(D.str c, OD.sh (.int ((if c = c then n else v c : Nat) : Int)))]
      rw [kD_ks, if_pos rfl]
theorem kv_len (L : List (List Nat)) (v : List Nat → Nat) : (kv L v).length ≤ L.length := by unfold kv; rw [List.length_map]; exact kF_len L
theorem get_dv {L : List (List Nat)} {v : List Nat → Nat} {f g : En → R D} {ρ : En} {c : List Nat} (hf : f ρ = .ok (dv L v)) (hg : g ρ = .ok (.str c)) (h0 : c ∉ L → v c = 0) : getE2 f g (con (.int 0)) ρ = .ok (.int (v c : Nat)) := by
  unfold getE2
  rw [hf, R.bind_ok]
  unfold dv
  simp only
  rw [hg, R.bind_ok]
  show (R.bind (R.ok (D.int 0)) _) = _
  rw [R.bind_ok, kOf_str]
  simp only
  rw [find_ks (fun c => D.int (v c : Nat))]
  by_cases h : c ∈ kF L
  · rw [if_pos h]; rfl
  · rw [if_neg h, h0 (fun z => h ((kF_mem L c).mpr z))]; rfl
theorem putS_ok {i : Nat} {E : List Nat} {f g : En → R D} {ρ : En} {kvs : List (D × OD)} {d : D} {c : List Nat} (hf : f ρ = .ok d) (hd : d.flat = true) (ho : ρ[i]? = some (some (.dic kvs))) (hg : g ρ = .ok (.str c)) (hl : kvs.length < 16777216) : putS i E f g ρ = .nx (ρ.set i (some (.dic (putO kvs (ks c) (.sh d))))) := by
  unfold putS
  rw [hf, R.out_ok, show ownD i ρ = some kvs from by unfold ownD; rw [ho]]
  simp only
  rw [hg, R.out_ok, kOf_str]
  simp only
  rw [if_pos (by unfold okLen keeps; rw [hd]; simp; exact hl), frzIf_flat hd]
/-! ### yarn -/
def Pl.sm (q : Pl) (t : Nat) (c : List Nat) : Nat := q.A.count c * (q.fin t * q.et) + q.B.count c * (q.pick * t)
def eY (q : Pl) (t : Nat) (o2 o3 o4 o5 : Option OD) : En := [some (.sh q.obj), some (.sh (.int t)), o2, o3, o4, o5]
theorem count_snoc (xs : List (List Nat)) (x c : List Nat) : (xs ++ [x]).count c = xs.count c + if c = x then 1 else 0 := by
  rw [List.count_append]
  congr 1
  rw [List.count_singleton]
  by_cases h : c = x
  · rw [if_pos h, if_pos (by simp [h])]
  · rw [if_neg h, if_neg (by simpa using fun z => h z.symm)]
section
variable {q : Pl} {t : Nat}
theorem fin_b (h : q.Ok) (ht : t ≤ 1001) : q.fin t ≤ 1505000 := by
  have := tk_b (x := q.long t) (k := q.wt) (by have := h.long ht; omega) h.wt
  have := h.wa
  unfold Pl.fin; omega
theorem pick_b (h : q.Ok) : q.pick ≤ 1500000 := tk_b (by have := h.wide; omega) h.ft
theorem yarn_ok (h : q.Ok) (ht : t ≤ 1001) : m_yarn_with [q.obj, .int t] = .ok (.dic (kv (q.A ++ q.B) (q.sm t))) := by
  have hf := fin_b h ht
  have hp := pick_b h
  have he := h.et
  have hA := h.A
  have hB := h.B
  have hlg := h.long ht
  have hwd := h.wide
  refine mOf_Rt (ρ0 := eY q t none none none none) rfl rfl ?_
  unfold b_yarn_with
  have c1 : op2 dAdd (erE (callE m_taken (aCons (erE (callE m_length_with (aCons (var 0) (aCons (var 1) aNil)))) (aCons (op1 (fldO ["Plan"] "warp_take") (var 0)) aNil)))) (op1 (fldO ["Plan"] "waste") (var 0)) (eY q t none none none none) = .ok (.int (q.fin t : Nat)) :=
    op2_ok (a := .int (tk (q.long t) q.wt : Nat)) (erC (args2 (erC (args2 (a := q.obj) (b := .int t) rfl rfl) (lengthw_ok h ht) rfl) (fP (q := q) (d := .int q.wt) rfl rfl)) (taken_ok (by omega) h.wt) rfl) (fP (q := q) (d := .int q.wa) rfl rfl) (by rw [dAdd_int]; unfold Pl.fin; rw [Int.natCast_add])
  refine rt_seq (ρ' := eY q t (some (.sh (.int (q.fin t : Nat)))) none none none) ((setS_ok c1 rfl).trans rfl) ?_
  have c2 : erE (callE m_taken (aCons (erE (callE m_width_of (aCons (var 0) aNil))) (aCons (op1 (fldO ["Plan"] "weft_take") (var 0)) aNil))) (eY q t (some (.sh (.int (q.fin t : Nat)))) none none none) = .ok (.int (q.pick : Nat)) :=
    erC (args2 (erC (args1 (a := q.obj) rfl) (wide_ok h) rfl) (fP (q := q) (d := .int q.ft) rfl rfl)) (taken_ok (by omega) h.ft) rfl
  refine rt_seq (ρ' := eY q t (some (.sh (.int (q.fin t : Nat)))) (some (.sh (.int (q.pick : Nat)))) none none) ((setS_ok c2 rfl).trans rfl) ?_
  refine rt_seq (ρ' := eY q t (some (.sh (.int (q.fin t : Nat)))) (some (.sh (.int (q.pick : Nat)))) (some (.dic (kv [] fun _ => 0))) none) rfl ?_
  refine rt_seq (ρ' := eY q t (some (.sh (.int (q.fin t : Nat)))) (some (.sh (.int (q.pick : Nat)))) (some (.dic (kv q.A fun c => q.A.count c * (q.fin t * q.et)))) none) ?_ ?_
  · rw [forS_fl (ds := q.A.map D.str) (it_v (fP (q := q) rfl rfl)) (flat_strs _)]
    have := loop_pre (fg := [5]) (bnd := bName 5) (body := l1_yarn_with) D.str (fun pre => eY q t (some (.sh (.int (q.fin t : Nat)))) (some (.sh (.int (q.pick : Nat)))) (some (.dic (kv pre fun c => pre.count c * (q.fin t * q.et)))) none) q.A fun pre c post e => by
      have hpl : pre.length ≤ 60 := by have : pre.length ≤ q.A.length := by rw [e]; simp
                                       omega
      refine ⟨eY q t (some (.sh (.int (q.fin t : Nat)))) (some (.sh (.int (q.pick : Nat)))) (some (.dic (kv pre fun c => pre.count c * (q.fin t * q.et)))) (some (.sh (.str c))), eY q t (some (.sh (.int (q.fin t : Nat)))) (some (.sh (.int (q.pick : Nat)))) (some (.dic (kv (pre ++ [c]) fun c' => (pre ++ [c]).count c' * (q.fin t * q.et)))) (some (.sh (.str c))), rfl, ?_, rfl⟩
      unfold l1_yarn_with
      have g := get_dv (L := pre) (v := fun c => pre.count c * (q.fin t * q.et)) (f := var 4) (g := var 5) (c := c) (ρ := eY q t (some (.sh (.int (q.fin t : Nat)))) (some (.sh (.int (q.pick : Nat)))) (some (.dic (kv pre fun c => pre.count c * (q.fin t * q.et)))) (some (.sh (.str c)))) (by rw [← kv_er]; rfl) rfl (fun z => by rw [List.count_eq_zero.mpr z, Nat.zero_mul])
      have m := op2_ok (g := dMul) (f1 := var 2) (f2 := op1 (fldO ["Plan"] "ends_times") (var 0)) (ρ := eY q t (some (.sh (.int (q.fin t : Nat)))) (some (.sh (.int (q.pick : Nat)))) (some (.dic (kv pre fun c => pre.count c * (q.fin t * q.et)))) (some (.sh (.str c)))) (a := .int (q.fin t : Nat)) rfl (fP (q := q) (d := .int q.et) rfl rfl) (mulN _ _ (by omega))
      refine (putS_ok (op2_ok (d := .int ((pre.count c * (q.fin t * q.et) + q.fin t * q.et : Nat) : Int)) g m (by rw [dAdd_int, Int.natCast_add])) rfl rfl rfl (by have := kv_len pre fun c => pre.count c * (q.fin t * q.et); omega)).trans ?_
      rw [kv_put]
      have : (fun c' => if c' = c then pre.count c * (q.fin t * q.et) + q.fin t * q.et else pre.count c' * (q.fin t * q.et)) = fun c' => (pre ++ [c]).count c' * (q.fin t * q.et) := by
        funext c'
        rw [count_snoc, Nat.add_mul]
        by_cases z : c' = c
        · subst z; rw [if_pos rfl, if_pos rfl, Nat.one_mul]
        · rw [if_neg z, if_neg z, Nat.zero_mul, Nat.add_zero]
      rw [this]; rfl
    have e0 : kv [] (fun c => ([] : List (List Nat)).count c * (q.fin t * q.et)) = kv [] fun _ => 0 := rfl
    rw [← e0]; exact this
  refine rt_seq (ρ' := eY q t (some (.sh (.int (q.fin t : Nat)))) (some (.sh (.int (q.pick : Nat)))) (some (.dic (kv (q.A ++ q.B) (q.sm t)))) none) ?_ ⟨_, rfl⟩
  rw [forS_fl (ds := q.B.map D.str) (it_v (fP (q := q) rfl rfl)) (flat_strs _)]
  have := loop_pre (fg := [5]) (bnd := bName 5) (body := l2_yarn_with) D.str (fun pre => eY q t (some (.sh (.int (q.fin t : Nat)))) (some (.sh (.int (q.pick : Nat)))) (some (.dic (kv (q.A ++ pre) fun c => q.A.count c * (q.fin t * q.et) + pre.count c * (q.pick * t)))) none) q.B fun pre c post e => by
    have hpl : pre.length ≤ 60 := by have : pre.length ≤ q.B.length := by rw [e]; simp
                                     omega
    obtain ⟨v, hv⟩ : ∃ v : List Nat → Nat, v = fun c => q.A.count c * (q.fin t * q.et) + pre.count c * (q.pick * t) := ⟨_, rfl⟩
    rw [← hv]
    refine ⟨eY q t (some (.sh (.int (q.fin t : Nat)))) (some (.sh (.int (q.pick : Nat)))) (some (.dic (kv (q.A ++ pre) v))) (some (.sh (.str c))), eY q t (some (.sh (.int (q.fin t : Nat)))) (some (.sh (.int (q.pick : Nat)))) (some (.dic (kv (q.A ++ (pre ++ [c])) fun c' => q.A.count c' * (q.fin t * q.et) + (pre ++ [c]).count c' * (q.pick * t)))) (some (.sh (.str c))), rfl, ?_, rfl⟩
    unfold l2_yarn_with
    have g := get_dv (L := q.A ++ pre) (v := v) (f := var 4) (g := var 5) (c := c) (ρ := eY q t (some (.sh (.int (q.fin t : Nat)))) (some (.sh (.int (q.pick : Nat)))) (some (.dic (kv (q.A ++ pre) v))) (some (.sh (.str c)))) (by rw [← kv_er]; rfl) rfl (fun z => by
      rw [List.mem_append, not_or] at z
      rw [hv]
      show q.A.count c * _ + pre.count c * _ = 0
      rw [List.count_eq_zero.mpr z.1, List.count_eq_zero.mpr z.2, Nat.zero_mul, Nat.zero_mul])
    have m := op2_ok (g := dMul) (f1 := var 3) (f2 := var 1) (ρ := eY q t (some (.sh (.int (q.fin t : Nat)))) (some (.sh (.int (q.pick : Nat)))) (some (.dic (kv (q.A ++ pre) v))) (some (.sh (.str c)))) (a := .int (q.pick : Nat)) (b := .int t) rfl rfl (mulN _ _ (by omega))
    refine (putS_ok (op2_ok (d := .int ((v c + q.pick * t : Nat) : Int)) g m (by rw [dAdd_int, Int.natCast_add])) rfl rfl rfl (by have := kv_len (q.A ++ pre) v; rw [List.length_append] at this; omega)).trans ?_
    rw [kv_put, List.append_assoc]
    have : (fun c' => if c' = c then v c + q.pick * t else v c') = fun c' => q.A.count c' * (q.fin t * q.et) + (pre ++ [c]).count c' * (q.pick * t) := by
      funext c'
      rw [count_snoc, Nat.add_mul, hv]
      by_cases z : c' = c
      · subst z; rw [if_pos rfl, if_pos rfl, Nat.one_mul, Nat.add_assoc]
      · rw [if_neg z, if_neg z, Nat.zero_mul, Nat.add_zero]
    rw [this]; rfl
  have e0 : (fun c => q.A.count c * (q.fin t * q.et)) = fun c => q.A.count c * (q.fin t * q.et) + ([] : List (List Nat)).count c * (q.pick * t) := by
    funext c; simp
  rw [e0]
  have e1 : kv q.A = kv (q.A ++ []) := by rw [List.append_nil]
  rw [e1]; exact this
end
end K25
set_option Elab.async false
set_option linter.all false
set_option maxRecDepth 100000
set_option maxHeartbeats 0
namespace K25
open PySem L2 DL DLC
def exR (i : Int) : List (Str × D) := [("value", .int i), ("label", .str [79, 117, 116, 79, 102, 82, 97, 110, 103, 101])]
theorem keys_dv {i : Nat} {ρ : En} {L : List (List Nat)} {v : List Nat → Nat} (h : ρ[i]? = some (some (.sh (dv L v)))) : keysE i ρ = .ok ((kF L).map D.str) := by
  unfold keysE
  rw [h]
  unfold dv
  simp only
  rw [List.map_map]; rfl
theorem lk_dv {i : Nat} {ρ : En} {L : List (List Nat)} {v : List Nat → Nat} {f : En → R OD} {o : OD} (h : ρ[i]? = some (some (.sh (dv L v)))) (hf : f ρ = .ok o) : lkF i f ρ = .ok o := by
  unfold lkF
  rw [h]
  unfold dv
  simp only
  rw [hf, R.nox_ok]
theorem dget_dv {L : List (List Nat)} {v : List Nat → Nat} {f g : En → R D} {ρ : En} {c : List Nat} (hf : f ρ = .ok (dv L v)) (hg : g ρ = .ok (.str c)) (hc : c ∈ kF L) : op2 dGetD f g ρ = .ok (.int (v c : Nat)) := by
  refine op2_ok hf hg ?_
  unfold dGetD dv
  simp only
  rw [kOf_str]
  simp only
  rw [find_ks (fun c => D.int (v c : Nat)), if_pos hc]
section
variable {q : Pl} {t : Nat}
def Pl.L (q : Pl) : List (List Nat) := q.A ++ q.B
def rows (q : Pl) (t : Nat) : D := .lst ((kF q.L).map fun c => .tup [.str c, .int (q.sm t c : Nat)])
theorem L_len (h : q.Ok) : (kF q.L).length ≤ 120 := by
  have := kF_len q.L
  unfold Pl.L at this ⊢
  rw [List.length_append] at this
  have := h.A; have := h.B
  omega
theorem yarnof_ok (h : q.Ok) : ∃ o, m_yarn_of [q.obj] = .ok o ∧ o.er = rows q q.pt := by
  have hl := L_len h
  have yw := erC (m := m_yarn_with) (fa := aCons (var 0) (aCons (op1 (fldO ["Plan"] "picks_times") (var 0)) aNil)) (ρ := [some (OD.sh q.obj), none, none]) (args2 (a := q.obj) rfl (fP (q := q) (d := .int q.pt) rfl rfl)) (yarn_ok h (by have := h.pt; omega)) (kv_er _ _)
  refine ⟨lstF ((kF q.L).map fun c => .tup [.str c, .int (q.sm q.pt c : Nat)]), ?_, er_lstF _⟩
  refine mOf_Rt (ρ0 := [some (OD.sh q.obj), none, none]) rfl rfl ?_
  unfold b_yarn_of
  refine rt_seq (ρ' := [some (OD.sh q.obj), some (.sh (dv q.L (q.sm q.pt))), none]) ((setS_sh yw rfl).trans rfl) ?_
  refine ⟨_, retF_sh (lk_dv (L := q.L) (v := q.sm q.pt) rfl ?_) rfl⟩
  exact lcE_map (kF q.L) D.str (fun c => D.tup [.str c, .int (q.sm q.pt c : Nat)]) (keys_dv (L := q.L) (v := q.sm q.pt) rfl) (by rw [flat_strs]; rfl) (by omega) fun c hc => by
    rw [bName, bk_some]
    exact tupA (args2 (a := .str c) rfl (dget_dv (L := q.L) (v := q.sm q.pt) rfl rfl hc)) (by simp)
/-! ### stocks -/
def sD (st : List (List Nat × Int)) : D := .dic (st.map fun x => (D.str x.1, D.int x.2))
def sg (st : List (List Nat × Int)) (c : List Nat) : Int := ((st.find? fun x => decide (c = x.1)).map (·.2)).getD 0
theorem find_st (a : List Nat) : ∀ st : List (List Nat × Int), ((st.map fun x => (D.str x.1, D.int x.2)).find? fun x => keq (ks a) x.1).map (·.2) = ((st.find? fun x => decide (a = x.1)).map (·.2)).map D.int
  | [] => rfl
  | c :: cs => by
    rw [List.map_cons, List.find?_cons, List.find?_cons]
    simp only
    rw [keq_ks]
    cases decide (a = c.1) with
    | true => rfl
    | false => exact find_st a cs
theorem get_sD {st : List (List Nat × Int)} {f g : En → R D} {ρ : En} {c : List Nat} (hf : f ρ = .ok (sD st)) (hg : g ρ = .ok (.str c)) : getE2 f g (con (.int 0)) ρ = .ok (.int (sg st c)) := by
  unfold getE2
  rw [hf, R.bind_ok]
  unfold sD
  simp only
  rw [hg, R.bind_ok]
  show (R.bind (R.ok (D.int 0)) _) = _
  rw [R.bind_ok, kOf_str]
  simp only
  rw [find_st]
  unfold sg
  cases (st.find? fun x => decide (c = x.1)).map (·.2) <;> rfl
def enB (q : Pl) (st : List (List Nat × Int)) (t : Nat) : Bool := (kF q.L).all fun c => decide ((q.sm t c : Int) ≤ sg st c)
theorem enc_bl (k : Nat) : EncP k D.bl := ⟨fun _ => D.dt_bl _ _, fun a b => by rw [eqv_bl]; simp⟩
theorem enough_ok (h : q.Ok) (ht : t ≤ 1001) (st : List (List Nat × Int)) : m_is_enough [q.obj, .int t, sD st] = .ok (.sh (.bl (enB q st t))) := by
  have hl := L_len h
  refine mOf_Rt (ρ0 := [some (OD.sh q.obj), some (.sh (.int t)), some (.sh (sD st)), none, none]) rfl rfl ?_
  unfold b_is_enough
  refine rt_seq (ρ' := [some (OD.sh q.obj), some (.sh (.int t)), some (.sh (sD st)), some (.sh (dv q.L (q.sm t))), none]) ((setS_sh (erC (args2 (a := q.obj) (b := .int t) rfl rfl) (yarn_ok h ht) (kv_er _ _)) rfl).trans rfl) ?_
  have lc := lcE_map (kF q.L) D.str (fun c => D.bl (decide ((q.sm t c : Int) ≤ sg st c))) (Ee := []) (vs := [4]) (bnd := bName 4) (it := keysE 3) (f := op2 dLe (op2 dGetD (var 3) (var 4)) (getE2 (var 2) (var 4) (con (.int 0)))) (ρ := [some (OD.sh q.obj), some (.sh (.int t)), some (.sh (sD st)), some (.sh (dv q.L (q.sm t))), none]) (keys_dv (L := q.L) (v := q.sm t) rfl) (by rw [flat_strs]; rfl) (by omega) fun c hc => by
    rw [bName, bk_some]
    exact op2_ok (dget_dv (L := q.L) (v := q.sm t) rfl rfl hc) (get_sD (st := st) rfl rfl) rfl
  have lf := (erE_ok (lk_dv (i := 3) (L := q.L) (v := q.sm t) rfl lc)).trans (congrArg R.ok (er_lstF _))
  refine ⟨_, retS_ok (op2_ok (a := .bl false) rfl lf ?_) rfl⟩
  have e : ((kF q.L).map fun c => D.bl (decide ((q.sm t c : Int) ≤ sg st c))) = ((kF q.L).map fun c => decide ((q.sm t c : Int) ≤ sg st c)).map D.bl := by rw [List.map_map]; rfl
  rw [e, dni_enc (enc_bl 20)]
  congr 2
  unfold enB
  rw [Bool.eq_iff_iff, Bool.not_eq_true', decide_eq_false_iff_not, List.all_eq_true]
  constructor
  · intro hn x hx
    cases hb : decide ((q.sm t x : Int) ≤ sg st x) with
    | true => rfl
    | false => exact absurd (List.mem_map.mpr ⟨x, hx, hb⟩) hn
  · intro ha hm
    obtain ⟨x, hx, e⟩ := List.mem_map.mp hm
    have := ha x hx
    rw [e] at this
    cases this
theorem fin_mono {t u : Nat} (h : q.Ok) (htu : t ≤ u) : q.fin t ≤ q.fin u := by
  unfold Pl.fin
  have h1 : q.long t ≤ q.long u := up_le (by have := h.b1; omega) (Nat.mul_le_mul_right _ (Nat.mul_le_mul_left _ htu))
  have h2 : tk (q.long t) q.wt ≤ tk (q.long u) q.wt := up_le (by omega) (Nat.mul_le_mul_right _ h1)
  omega
theorem sm_mono {t u : Nat} (h : q.Ok) (htu : t ≤ u) (c : List Nat) : q.sm t c ≤ q.sm u c := by
  unfold Pl.sm
  exact Nat.add_le_add (Nat.mul_le_mul_left _ (Nat.mul_le_mul_right _ (fin_mono h htu))) (Nat.mul_le_mul_left _ (Nat.mul_le_mul_left _ htu))
theorem en_mono {st : List (List Nat × Int)} {t u : Nat} (h : q.Ok) (htu : t ≤ u) (hu : enB q st u = true) : enB q st t = true := by
  unfold enB at hu ⊢
  rw [List.all_eq_true] at hu ⊢
  intro c hc
  have := of_decide_eq_true (hu c hc)
  have := sm_mono h htu c
  exact decide_eq_true (by omega)
/-! ### the greatest number -/
def eG (q : Pl) (st : List (List Nat × Int)) (o3 o4 o5 : Option OD) : En := [some (.sh q.obj), some (.sh (sD st)), none, o3, o4, o5]
theorem bin (h : q.Ok) (st : List (List Nat × Int)) : ∀ (n lo hi : Nat), hi - lo < n → lo < hi → hi ≤ 1001 → (lo = 0 ∨ enB q st lo = true) → (hi = 1001 ∨ enB q st hi = false) →
    ∃ r hi', whS [5] (tst (op2 dLt (op2 dAdd (var 3) (con (.int 1))) (var 4))) l2_greatest_times n (eG q st (some (.sh (.int lo))) (some (.sh (.int hi))) none) = .nx (eG q st (some (.sh (.int (r : Nat)))) (some (.sh (.int (hi' : Nat)))) none) ∧ (r = 0 ∨ enB q st r = true) ∧ (r = 1000 ∨ enB q st (r + 1) = false) ∧ r ≤ 1000
  | 0, lo, hi, h1, _, _, _, _ => absurd h1 (by omega)
  | n + 1, lo, hi, h1, h2, h3, h4, h5 => by
    rw [whS, tst_ok (op2_ok (g := dLt) (f1 := op2 dAdd (var 3) (con (.int 1))) (f2 := var 4) (a := .int ((lo : Int) + 1)) (b := .int hi) (op2_ok (a := .int lo) (b := .int 1) rfl rfl rfl) rfl (show dLt (.int ((lo : Int) + 1)) (.int hi) = some (.bl (decide ((lo : Int) + 1 < hi))) from rfl)), R.out_ok]
    by_cases c : lo + 1 < hi
    · rw [decide_eq_true (by omega), if_pos rfl]
      obtain ⟨m, hm⟩ : ∃ m : Nat, m = (lo + hi) / 2 := ⟨_, rfl⟩
      have md : op2 dDiv (op2 dAdd (var 3) (var 4)) (con (.int 2)) (eG q st (some (.sh (.int lo))) (some (.sh (.int hi))) none) = .ok (.int m) := op2_ok (a := .int ((lo + hi : Nat) : Int)) (op2_ok (a := .int lo) (b := .int hi) rfl rfl (by rw [dAdd_int, Int.natCast_add])) (b := .int ((2 : Nat) : Int)) rfl ((dDiv_i _ _ (by omega) (by omega)).trans (by rw [hm, Int.natCast_ediv]))
      have t := tst_ok (erC (m := m_is_enough) (fa := aCons (var 0) (aCons (var 5) (aCons (var 1) aNil))) (ρ := eG q st (some (.sh (.int lo))) (some (.sh (.int hi))) (some (.sh (.int m)))) (args3 (a := q.obj) (b := .int m) (c := sD st) rfl rfl rfl) (enough_ok h (by omega) st) rfl)
      cases e : enB q st m with
      | true =>
        rw [e] at t
        have st2 : l2_greatest_times (eG q st (some (.sh (.int lo))) (some (.sh (.int hi))) none) = .nx (eG q st (some (.sh (.int m))) (some (.sh (.int hi))) (some (.sh (.int m)))) := by
          unfold l2_greatest_times
          exact (seqS_nx ((setS_ok md rfl).trans rfl)).trans ((ifS_t t).trans rfl)
        rw [st2]
        simp only
        exact bin h st n m hi (by omega) (by omega) h3 (.inr e) h5
      | false =>
        rw [e] at t
        have st2 : l2_greatest_times (eG q st (some (.sh (.int lo))) (some (.sh (.int hi))) none) = .nx (eG q st (some (.sh (.int lo))) (some (.sh (.int m))) (some (.sh (.int m)))) := by
          unfold l2_greatest_times
          exact (seqS_nx ((setS_ok md rfl).trans rfl)).trans ((ifS_f t).trans rfl)
        rw [st2]
        simp only
        exact bin h st n lo m (by omega) (by omega) (by omega) h4 (.inr e)
    · rw [decide_eq_false (by omega), if_neg (by simp)]
      have : hi = lo + 1 := by omega
      subst this
      exact ⟨lo, lo + 1, rfl, h4, h5.imp (fun z => by omega) id, by omega⟩
theorem sorted_sD {f : En → R D} {ρ : En} {st : List (List Nat × Int)} (hf : f ρ = .ok (sD st)) (hl : st.length < 64) : erE (opAF fSortedS (aCons (erE (opAF fListD (aCons f aNil))) aNil)) ρ = .ok (.lst ((sortS (st.map (·.1))).map D.str)) := by
  have k : erE (opAF fListD (aCons f aNil)) ρ = .ok (.lst ((st.map (·.1)).map D.str)) := by
    have e : fListD [sD st] = some (lstF ((st.map (·.1)).map D.str)) := by
      unfold sD
      show (if (st.map fun x => (D.str x.1, D.int x.2)).all (fun q => isK q.1) = true then some (lstF ((st.map fun x => (D.str x.1, D.int x.2)).map (·.1))) else none) = _
      rw [if_pos (by rw [List.all_eq_true]; intro x hx; obtain ⟨y, _, rfl⟩ := List.mem_map.mp hx; rfl), List.map_map, List.map_map]; rfl
    exact (erE_ok (opAF_ok hf e)).trans (congrArg R.ok (er_lstF _))
  have e2 : fSortedS [.lst ((st.map (·.1)).map D.str)] = some (lstF ((sortS (st.map (·.1))).map D.str)) := by
    unfold fSortedS
    simp only
    rw [strsOf_map, Option.bind_some, if_pos (decide_eq_true (by rw [List.length_map]; exact hl))]
  exact (erE_ok (opAF_ok k e2)).trans (congrArg R.ok (er_lstF _))
theorem great_ok (h : q.Ok) {st : List (List Nat × Int)} (hl : st.length < 64) (h0 : ∀ x ∈ st, 0 ≤ x.2) : ∃ r : Nat, m_greatest_times [q.obj, sD st] = .ok (.sh (.int r)) ∧ (r = 0 ∨ enB q st r = true) ∧ (r = 1000 ∨ enB q st (r + 1) = false) ∧ r ≤ 1000 := by
  obtain ⟨r, hi', e, p1, p2, p3⟩ := bin h st 100000 0 1001 (by omega) (by omega) (by omega) (.inl rfl) (.inl rfl)
  refine ⟨r, ?_, p1, p2, p3⟩
  refine mOf_Rt (ρ0 := eG q st none none none) rfl rfl ?_
  unfold b_greatest_times
  refine rt_seq (ρ' := eG q st none none none) ?_ ?_
  · rw [forS_fl (ds := (sortS (st.map (·.1))).map D.str) (itL (sorted_sD (st := st) rfl hl)) (flat_strs _)]
    refine loop_pre D.str (fun _ => eG q st none none none) (sortS (st.map (·.1))) fun pre c post e => ?_
    have hc : c ∈ st.map (·.1) := (sortS_perm _).mem_iff.mp (by rw [e]; simp)
    obtain ⟨x, hx, rfl⟩ := List.mem_map.mp hc
    refine ⟨(eG q st none none none).set 2 (some (.sh (.str x.1))), (eG q st none none none).set 2 (some (.sh (.str x.1))), rfl, ?_, rfl⟩
    unfold l1_greatest_times
    obtain ⟨n, hn, h1⟩ : ∃ n, (st.find? fun y => decide (x.1 = y.1)).map (·.2) = some n ∧ 0 ≤ n := by
      cases hf : st.find? fun y => decide (x.1 = y.1) with
      | none => exact absurd (List.find?_eq_none.mp hf x hx) (by simp)
      | some y => exact ⟨y.2, rfl, h0 y (List.mem_of_find?_eq_some hf)⟩
    have g : op2 dGetD (var 1) (var 2) ((eG q st none none none).set 2 (some (.sh (.str x.1)))) = .ok (.int n) := op2_ok (a := sD st) (b := .str x.1) rfl rfl (by
      unfold dGetD sD
      simp only
      rw [kOf_str]
      simp only
      rw [find_st, hn]; rfl)
    have t := tst_ok (op2_ok (g := dLt) g (f2 := con (.int 0)) (b := .int 0) rfl (show dLt (.int n) (.int 0) = some (.bl (decide (n < 0))) from rfl))
    rw [decide_eq_false (by omega)] at t
    exact (ifS_f t).trans rfl
  refine rt_seq (ρ' := eG q st (some (.sh (.int (0 : Nat)))) none none) rfl ?_
  refine rt_seq (ρ' := eG q st (some (.sh (.int (0 : Nat)))) (some (.sh (.int (1001 : Nat)))) none) rfl ?_
  refine rt_seq e ⟨_, rfl⟩
def hd1 : List DLX.HdR := [⟨tab_OutOfRange, some (1, "OutOfRange"), (retS [] (DLX.fldE "value" 1))⟩]
theorem try_1 {b : En → Out} {i : Int} {ρ ρ' : En} (h : b ρ = .ex "OutOfRange" (exR i) ρ') (hl : ρ'.length = 2) : DLX.tryS b hd1 ρ = .rt (.sh (.int i)) (DLX.nones 2) := by
  unfold DLX.tryS
  rw [h]
  simp only [hd1, DLX.hdGo]
  rw [show tab_OutOfRange.lookup ("OutOfRange" : Str) = some true from by rfl]
  simp only
  rw [if_pos trivial, hl]; rfl
theorem stock_ok : m__law_stock [q.obj] = .ok (.sh (.int (-4))) := by
  have g : m_greatest_times [q.obj, sD [([114, 101, 100], -5), ([98, 108, 117, 101], -4)]] = .ex "OutOfRange" (exR (-4)) := by
    refine mOf_ex (ρ0 := eG q [([114, 101, 100], -5), ([98, 108, 117, 101], -4)] none none none) rfl rfl (ρ := (eG q [([114, 101, 100], -5), ([98, 108, 117, 101], -4)] none none none).set 2 (some (.sh (.str [98, 108, 117, 101])))) ?_
    unfold b_greatest_times
    refine seqS_ex ?_
    rw [forS_fl (ds := (sortS [[114, 101, 100], [98, 108, 117, 101]]).map D.str) (itL (sorted_sD (st := [([114, 101, 100], -5), ([98, 108, 117, 101], -4)]) rfl (by decide))) (flat_strs _)]
    rw [show sortS [[114, 101, 100], [98, 108, 117, 101]] = [[98, 108, 117, 101], [114, 101, 100]] from by decide]
    rfl
  refine mOf_rt (ρ0 := [some (OD.sh q.obj), none]) rfl rfl (ρ := DLX.nones 2) ?_
  unfold b__law_stock
  exact try_1 (ρ' := [some (OD.sh q.obj), none]) (seqS_ex (exprS_ex (erE_ex (by rw [callA (args2 (a := q.obj) (b := sD [([114, 101, 100], -5), ([98, 108, 117, 101], -4)]) rfl rfl)]; exact g)))) rfl
end
end K25
set_option Elab.async false
set_option linter.all false
set_option maxRecDepth 100000
set_option maxHeartbeats 0
namespace K25
open PySem L2 DL DLC
/-! ### runs -/
theorem flatL (xs : List (List Nat)) (n : Nat) : (List.replicate n xs).flatten.length = n * xs.length := by simp
def tR (x : List Nat × Nat) : D := .tup [.str x.1, .int (x.2 : Nat)]
def oR (rows : List (List Nat × Nat)) : OD := .lst (rows.map fun x => .sh (tR x))
def dR (rows : List (List Nat × Nat)) : D := .lst (rows.map tR)
theorem oR_er (rows : List (List Nat × Nat)) : (oR rows).er = dR rows := by unfold oR dR; rw [OD.er_lst, List.map_map]; rfl
theorem dR_dt (rows : List (List Nat × Nat)) : (dR rows).dt 20 = true := by
  unfold dR
  rw [show (20 : Nat) = 19 + 1 from rfl, D.dt_lst, List.all_eq_true]
  intro x hx
  obtain ⟨y, _, rfl⟩ := List.mem_map.mp hx
  unfold tR
  rw [show (19 : Nat) = 18 + 1 from rfl, D.dt_tup]; simp
def rStep (rows : List (List Nat × Nat)) (c : List Nat) : List (List Nat × Nat) := match rows[rows.length - 1]? with
  | some x => if x.1 = c then rows.set (rows.length - 1) (c, x.2 + 1) else rows ++ [(c, 1)]
  | none => rows ++ [(c, 1)]
theorem rStep_len (rows : List (List Nat × Nat)) (c : List Nat) : (rStep rows c).length ≤ rows.length + 1 := by
  unfold rStep
  split
  · split <;> simp
  · simp
theorem fold_len (cs : List (List Nat)) : ∀ rows : List (List Nat × Nat), (cs.foldl rStep rows).length ≤ rows.length + cs.length := by
  induction cs with
  | nil => intro rows; exact Nat.le_refl _
  | cons c cs ih =>
    intro rows
    have := ih (rStep rows c)
    have := rStep_len rows c
    rw [List.foldl_cons, List.length_cons]; omega
theorem sub_sh {i : Nat} {E : List Nat} {f g : En → R D} {ρ : En} {xs : List OD} {d : D} {k : Int} {j : Nat} (hf : f ρ = .ok d) (ho : ρ[i]? = some (some (.lst xs))) (hg : g ρ = .ok (.int k)) (hk : L2.ixN xs.length k = some j) (hE : E.contains i = false) (hs : allSh E ρ = true) : subS i E f g ρ = .nx (ρ.set i (some (.lst (xs.set j (.sh d))))) := by
  unfold subS
  rw [hf, R.out_ok, show ownL i ρ = some xs from by unfold ownL; rw [ho]]
  simp only
  rw [hg, R.out_ok]
  simp only
  rw [hk]
  simp only
  rw [if_pos (by unfold keeps; rw [hE]; simp), frzIf_sh hs]
theorem run_step {i j : Nat} {E1 E2 : List Nat} {g : En → R D} {ρ : En} {rows : List (List Nat × Nat)} {c : List Nat} (hi : ρ[i]? = some (some (oR rows))) (hj : var j ρ = .ok (.str c))
    (hg : 0 < rows.length → ∃ k, g ρ = .ok (.int k) ∧ L2.ixN rows.length k = some (rows.length - 1)) (h1 : E1.contains i = false) (h2 : allSh E1 ρ = true) (h3 : allSh E2 ρ = true) (hl : rows.length < 16777216) :
    (ifS (andT (tst (op2 dGt (opA dLen (aCons (var i) aNil)) (con (.int 0)))) (tst (op2 dEq (op2 dIx (op2 dIx (var i) g) (con (.int 0))) (var j)))) (subS i E1 (tupE (aCons (var j) (aCons (op2 dAddI (op2 dIx (op2 dIx (var i) g) (con (.int 1))) (con (.int 1))) aNil))) g) (appS i E2 (tupE (aCons (var j) (aCons (con (.int 1)) aNil))))) ρ = .nx (ρ.set i (some (oR (rStep rows c)))) := by
  have vi : var i ρ = .ok (dR rows) := by unfold var; rw [hi]; show R.ok (oR rows).er = _; rw [oR_er]
  have ln : opA dLen (aCons (var i) aNil) ρ = .ok (.int (rows.length : Nat)) := lenA vi (by simp)
  have t0 := tst_ok (op2_ok (g := dGt) ln (f2 := con (.int 0)) (b := .int 0) rfl (dGt_int _ _))
  have app : appS i E2 (tupE (aCons (var j) (aCons (con (.int 1)) aNil))) ρ = .nx (ρ.set i (some (oR (rows ++ [(c, 1)])))) := by
    refine (appS_sh (tupA (args2 hj (b := .int 1) rfl) (by simp)) hi (by rw [List.length_map]; exact hl) h3).trans ?_
    unfold oR
    rw [List.map_append]; rfl
  by_cases h0 : 0 < rows.length
  · rw [decide_eq_true (by omega)] at t0
    obtain ⟨k, gk, ik⟩ := hg h0
    have hx : rows.length - 1 < rows.length := by omega
    obtain ⟨x, ex⟩ : ∃ x, rows[rows.length - 1]? = some x := ⟨_, List.getElem?_eq_getElem hx⟩
    have ix : op2 dIx (var i) g ρ = .ok (tR x) := by
      refine op2_ok vi gk ?_
      show L2.atI (rows.map tR) k = _
      unfold L2.atI
      rw [List.length_map, ik, Option.bind_some, List.getElem?_map, ex]; rfl
    have ix0 : op2 dIx (op2 dIx (var i) g) (con (.int 0)) ρ = .ok (.str x.1) := op2_ok ix (b := .int 0) rfl rfl
    have ix1 : op2 dIx (op2 dIx (var i) g) (con (.int 1)) ρ = .ok (.int (x.2 : Nat)) := op2_ok ix (b := .int 1) rfl rfl
    have t1 := tst_ok (op2_ok (g := dEq) ix0 hj (deq_enc (enc_str 20) x.1 c))
    unfold rStep
    rw [ex]
    simp only
    by_cases hc : x.1 = c
    · rw [decide_eq_true hc] at t1
      rw [if_pos hc]
      refine (ifS_t (andT_t t0 t1)).trans ?_
      refine (sub_sh (tupA (args2 hj (op2_ok ix1 (f2 := con (.int 1)) (b := .int 1) rfl (d := .int ((x.2 + 1 : Nat) : Int)) (by rw [Int.natCast_add]; rfl))) (by simp)) hi gk (by rw [List.length_map]; exact ik) h1 h2).trans ?_
      unfold oR
      rw [List.map_set]; rfl
    · rw [decide_eq_false hc] at t1
      rw [if_neg hc]
      exact (ifS_f (andT_t t0 t1)).trans app
  · rw [decide_eq_false (by omega)] at t0
    have : rows = [] := List.length_eq_zero_iff.mp (by omega)
    subst this
    exact (ifS_f (andT_f t0)).trans app
theorem fold_snoc (pre : List (List Nat)) (c : List Nat) : (pre ++ [c]).foldl rStep [] = rStep (pre.foldl rStep []) c := by rw [List.foldl_append]; rfl
theorem runs_ok {L : List (List Nat)} (hl : L.length ≤ 1000000) : m_runs_of [dS L] = .ok (oR (L.foldl rStep [])) := by
  refine mOf_Rt (ρ0 := [some (OD.sh (dS L)), none, none]) rfl rfl ?_
  unfold b_runs_of
  refine rt_seq (ρ' := [some (OD.sh (dS L)), some (oR []), none]) rfl ?_
  refine rt_seq (ρ' := [some (OD.sh (dS L)), some (oR (L.foldl rStep [])), none]) ?_ ⟨_, rfl⟩
  rw [forS_fl (ds := L.map D.str) (it_v rfl) (flat_strs _)]
  refine loop_pre D.str (fun pre => [some (OD.sh (dS L)), some (oR (pre.foldl rStep [])), none]) L fun pre c post e => ?_
  have hpl : pre.length ≤ L.length := by rw [e]; simp
  have hf := fold_len pre []
  rw [List.length_nil] at hf
  rw [fold_snoc]
  refine ⟨[some (OD.sh (dS L)), some (oR (pre.foldl rStep [])), some (.sh (.str c))], [some (OD.sh (dS L)), some (oR (rStep (pre.foldl rStep []) c)), some (.sh (.str c))], rfl, ?_, rfl⟩
  unfold l1_runs_of
  refine (run_step (i := 1) (j := 2) (rows := pre.foldl rStep []) (c := c) (g := op1 dNeg (con (.int 1))) rfl rfl (fun h0 => ⟨-1, rfl, ?_⟩) rfl rfl rfl (by omega)).trans rfl
  unfold L2.ixN
  rw [if_neg (by omega), if_pos (by omega)]
  congr 1
  omega
theorem law_runs_ok {A : List (List Nat)} {k : Nat} (hl : A.length * k ≤ 1000000) (hk : k < 1000000) : m__law_runs [dS A, .int k] = .ok (oR ((List.replicate k A).flatten.foldl rStep [])) := by
  obtain ⟨L, hL⟩ : ∃ L, L = (List.replicate k A).flatten := ⟨_, rfl⟩
  have hLl : L.length ≤ 1000000 := by rw [hL, flatL, Nat.mul_comm]; exact hl
  rw [← hL]
  refine mOf_Rt (ρ0 := [some (OD.sh (dS A)), some (.sh (.int k)), none, none]) rfl rfl ?_
  unfold b__law_runs
  refine rt_seq (ρ' := [some (OD.sh (dS A)), some (.sh (.int k)), some (oR []), none]) rfl ?_
  refine rt_seq (ρ' := [some (OD.sh (dS A)), some (.sh (.int k)), some (oR (L.foldl rStep [])), none]) ?_ ⟨_, rfl⟩
  rw [forS_fl (ds := L.map D.str) (it_v (op2_ok (a := dS A) (b := .int k) rfl rfl (by rw [hL]; exact dMul_dS (by omega) hk))) (flat_strs _)]
  refine loop_pre D.str (fun pre => [some (OD.sh (dS A)), some (.sh (.int k)), some (oR (pre.foldl rStep [])), none]) L fun pre c post e => ?_
  have hpl : pre.length ≤ L.length := by rw [e]; simp
  have hf := fold_len pre []
  rw [List.length_nil] at hf
  rw [fold_snoc]
  obtain ⟨rows, hr⟩ : ∃ rows, rows = pre.foldl rStep [] := ⟨_, rfl⟩
  rw [← hr] at hf ⊢
  refine ⟨[some (OD.sh (dS A)), some (.sh (.int k)), some (oR rows), some (.sh (.str c))], [some (OD.sh (dS A)), some (.sh (.int k)), some (oR (rStep rows c)), some (.sh (.str c))], rfl, ?_, rfl⟩
  unfold l1__law_runs
  refine (run_step (i := 2) (j := 3) (rows := rows) (c := c) (g := op2 dSub (opA dLen (aCons (var 2) aNil)) (con (.int 1))) rfl rfl (fun h0 => ⟨((rows.length - 1 : Nat) : Int), ?_, ixN_nat' (by omega)⟩) rfl rfl rfl (by omega)).trans rfl
  exact op2_ok (a := .int (rows.length : Nat)) (lenA (xs := rows.map tR) (by show R.ok (oR rows).er = _; rw [oR_er]; rfl) (by simp)) (b := .int 1) rfl (by rw [show ((rows.length - 1 : Nat) : Int) = (rows.length : Int) - 1 by omega]; rfl)
section
variable {q : Pl}
theorem warp_ok (h : q.Ok) : m_warp_order [q.obj] = .ok (oR ((List.replicate q.et q.A).flatten.foldl rStep [])) := by
  have hA := h.A
  have he := h.et
  have hm : q.A.length * q.et ≤ 60 * 1000 := Nat.mul_le_mul h.A h.et
  refine mOf_rt (ρ0 := [some (OD.sh q.obj)]) (ρ := [some (OD.sh q.obj)]) rfl rfl ?_
  unfold b_warp_order
  refine retF_sh ((callA (args1 (op2_ok (fP (q := q) rfl rfl) (fP (q := q) (d := .int q.et) rfl rfl) (dMul_dS (by omega) (by omega))))).trans (runs_ok ?_)) rfl
  rw [flatL, Nat.mul_comm]; omega
theorem weft_ok (h : q.Ok) : m_weft_order [q.obj] = .ok (oR ((List.replicate q.pt q.B).flatten.foldl rStep [])) := by
  have hA := h.B
  have he := h.pt
  have hm : q.B.length * q.pt ≤ 60 * 1000 := Nat.mul_le_mul h.B h.pt
  refine mOf_rt (ρ0 := [some (OD.sh q.obj)]) (ρ := [some (OD.sh q.obj)]) rfl rfl ?_
  unfold b_weft_order
  refine retF_sh ((callA (args1 (op2_ok (fP (q := q) rfl rfl) (fP (q := q) (d := .int q.pt) rfl rfl) (dMul_dS (by omega) (by omega))))).trans (runs_ok ?_)) rfl
  rw [flatL, Nat.mul_comm]; omega
end
end K25
set_option Elab.async false
set_option linter.all false
set_option maxRecDepth 100000
set_option maxHeartbeats 0
namespace K25
open PySem L2 DL DLC
/-! ### _law_yarn -/
def Pl.nums (q : Pl) : D := nL [q.s, q.b, q.et, q.pt, q.wt, q.ft, q.wa]
def eL (q : Pl) (o4 o5 o6 o7 o8 o9 o10 o11 : Option OD) : En := [some (.sh (dS q.C)), some (.sh (dS q.A)), some (.sh (dS q.B)), some (.sh q.nums), o4, o5, o6, o7, o8, o9, o10, o11, none, none]
theorem filt_count (xs : List (List Nat)) (c : List Nat) : (xs.filter fun x => decide (x = c)).length = xs.count c := by
  rw [List.count, List.countP_eq_length_filter]
  congr 2
  funext x
  rw [Bool.eq_iff_iff]
  simp
theorem cnt_ok {i : Nat} {ρ : En} {xs : List (List Nat)} {c : List Nat} (hv : var i ρ = .ok (dS xs)) (hc : ∀ o, var 9 ((fgt [13] ρ).set 13 o) = .ok (.str c)) (hj : 13 < ρ.length) (hl : xs.length ≤ 1000) : opA dLen (aCons (erE (lcE [i] [13] (bName 13) (itE (var i)) (tst (op2 dEq (var 13) (var 9))) (var 13))) aNil) ρ = .ok (.int (xs.count c : Nat)) := by
  have vj : ∀ x : List Nat, var 13 ((fgt [13] ρ).set 13 (some (.sh (.str x)))) = .ok (.str x) := fun t => by
    unfold var
    rw [List.getElem?_set_self (by unfold fgt; rw [fgt1_len]; exact hj)]; rfl
  have q := lcE_eq xs D.str (fun x => decide (x = c)) D.str (Ee := [i]) (vs := [13]) (bnd := bName 13) (it := itE (var i)) (t := tst (op2 dEq (var 13) (var 9))) (f := var 13) (ρ := ρ) (it_v hv) (by rw [flat_strs]; rfl) (by omega) fun x hx => by
    rw [bName, bk_some]
    exact ⟨tst_ok (op2_ok (vj x) (hc _) (deq_enc (enc_str 20) x c)), fun _ => vj x⟩
  exact lenA ((erE_ok q).trans (congrArg R.ok (er_lstF _))) (by rw [List.length_map, filt_count])
def oY (q : Pl) (pre : List (List Nat)) : OD := .lst ((kF pre).map fun c => .sh (.tup [.str c, .int (q.sm q.pt c : Nat)]))
theorem oY_er (q : Pl) : (oY q q.L).er = rows q q.pt := by unfold oY rows; rw [OD.er_lst, List.map_map]; rfl
theorem itV_oY {q : Pl} {pre : List (List Nat)} {ρ : En} (h : ρ[8]? = some (some (oY q pre))) : itV 8 ρ = .ok ((kF pre).map fun c => .tup [.str c, .int (q.sm q.pt c : Nat)]) := by
  unfold itV
  rw [h]
  unfold oY
  simp only
  rw [if_pos (by rw [List.all_eq_true]; intro x hx; obtain ⟨y, _, rfl⟩ := List.mem_map.mp hx; rfl), List.map_map]; rfl
section
variable {q : Pl}
theorem ix_nums {i : Nat} {ρ : En} (h : var 3 ρ = .ok q.nums) (k : Nat) (n : Nat) (e : L2.atI ([q.s, q.b, q.et, q.pt, q.wt, q.ft, q.wa].map fun n : Nat => D.int n) (k : Int) = some (.int (n : Nat))) : op2 dIx (var 3) (con (.int k)) ρ = .ok (.int n) := op2_ok h (b := .int k) rfl e
theorem add1000 {ρ : En} {f : En → R D} {k : Nat} (h : f ρ = .ok (.int k)) : op2 dAdd (con (.int 1000)) f ρ = .ok (.int ((1000 + k : Nat) : Int)) := op2_ok (a := .int 1000) rfl h (by rw [dAdd_int, Int.natCast_add]; rfl)
theorem lawyarn_ok (h : q.Ok) : m__law_yarn [dS q.C, dS q.A, dS q.B, q.nums] = .ok (.sh (.tup [.int (q.wide : Nat), .int (q.long q.pt : Nat), rows q q.pt])) := by
  have hA := h.A
  have hB := h.B
  have he := h.et
  have hp := h.pt
  have hw := h.wide
  have hl := h.long (t := q.pt) (by omega)
  have hf := fin_b h (t := q.pt) (by omega)
  have hk := pick_b h
  have hm1 : q.A.length * q.et ≤ 60 * 1000 := Nat.mul_le_mul h.A h.et
  have hm2 : q.B.length * q.pt ≤ 60 * 1000 := Nat.mul_le_mul h.B h.pt
  refine mOf_Rt (ρ0 := eL q none none none none none none none none) rfl rfl ?_
  unfold b__law_yarn
  have w4 : erE (callE m__law_up (aCons (op2 dMul (op2 dMul (opA dLen (aCons (var 1) aNil)) (op2 dIx (var 3) (con (.int 2)))) (con (.int 1000))) (aCons (op2 dIx (var 3) (con (.int 0))) aNil))) (eL q none none none none none none none none) = .ok (.int (q.wide : Nat)) :=
    erC (args2 (op2_ok (op2_ok (len_dS' q.A (f := var 1) rfl) (ix_nums (i := 0) (q := q) rfl 2 q.et rfl) (mulN _ _ (by omega))) (b := .int ((1000 : Nat) : Int)) rfl (mulN _ _ (by omega))) (ix_nums (i := 0) (q := q) rfl 0 q.s rfl)) (law_up_ok _ _ (by have := h.s1; omega) (by have := h.s2; omega)) rfl
  refine rt_seq (ρ' := eL q (some (.sh (.int (q.wide : Nat)))) none none none none none none none) ((setS_ok w4 rfl).trans rfl) ?_
  have w5 : erE (callE m__law_up (aCons (op2 dMul (op2 dMul (opA dLen (aCons (var 2) aNil)) (op2 dIx (var 3) (con (.int 3)))) (con (.int 1000))) (aCons (op2 dIx (var 3) (con (.int 1))) aNil))) (eL q (some (.sh (.int (q.wide : Nat)))) none none none none none none none) = .ok (.int (q.long q.pt : Nat)) :=
    erC (args2 (op2_ok (op2_ok (len_dS' q.B (f := var 2) rfl) (ix_nums (i := 0) (q := q) rfl 3 q.pt rfl) (mulN _ _ (by omega))) (b := .int ((1000 : Nat) : Int)) rfl (mulN _ _ (by omega))) (ix_nums (i := 0) (q := q) rfl 1 q.b rfl)) (law_up_ok _ _ (by have := h.b1; omega) (by have := h.b2; omega)) rfl
  refine rt_seq (ρ' := eL q (some (.sh (.int (q.wide : Nat)))) (some (.sh (.int (q.long q.pt : Nat)))) none none none none none none) ((setS_ok w5 rfl).trans rfl) ?_
  have w6 : op2 dAdd (erE (callE m__law_up (aCons (op2 dMul (var 5) (op2 dAdd (con (.int 1000)) (op2 dIx (var 3) (con (.int 4))))) (aCons (con (.int 10000)) aNil)))) (op2 dIx (var 3) (con (.int 6))) (eL q (some (.sh (.int (q.wide : Nat)))) (some (.sh (.int (q.long q.pt : Nat)))) none none none none none none) = .ok (.int (q.fin q.pt : Nat)) :=
    op2_ok (a := .int (tk (q.long q.pt) q.wt : Nat)) (erC (args2 (op2_ok (a := .int (q.long q.pt : Nat)) rfl (add1000 (ix_nums (i := 0) (q := q) rfl 4 q.wt rfl)) (mulN _ _ (by omega))) (b := .int ((10000 : Nat) : Int)) rfl) (law_up_ok _ _ (by omega) (by omega)) rfl) (ix_nums (i := 0) (q := q) rfl 6 q.wa rfl) (by rw [dAdd_int]; unfold Pl.fin; rw [Int.natCast_add])
  refine rt_seq (ρ' := eL q (some (.sh (.int (q.wide : Nat)))) (some (.sh (.int (q.long q.pt : Nat)))) (some (.sh (.int (q.fin q.pt : Nat)))) none none none none none) ((setS_ok w6 rfl).trans rfl) ?_
  have w7 : erE (callE m__law_up (aCons (op2 dMul (var 4) (op2 dAdd (con (.int 1000)) (op2 dIx (var 3) (con (.int 5))))) (aCons (con (.int 10000)) aNil))) (eL q (some (.sh (.int (q.wide : Nat)))) (some (.sh (.int (q.long q.pt : Nat)))) (some (.sh (.int (q.fin q.pt : Nat)))) none none none none none) = .ok (.int (q.pick : Nat)) :=
    erC (args2 (op2_ok (a := .int (q.wide : Nat)) rfl (add1000 (ix_nums (i := 0) (q := q) rfl 5 q.ft rfl)) (mulN _ _ (by omega))) (b := .int ((10000 : Nat) : Int)) rfl) (law_up_ok _ _ (by omega) (by omega)) rfl
  refine rt_seq (ρ' := eL q (some (.sh (.int (q.wide : Nat)))) (some (.sh (.int (q.long q.pt : Nat)))) (some (.sh (.int (q.fin q.pt : Nat)))) (some (.sh (.int (q.pick : Nat)))) none none none none) ((setS_ok w7 rfl).trans rfl) ?_
  refine rt_seq (ρ' := eL q (some (.sh (.int (q.wide : Nat)))) (some (.sh (.int (q.long q.pt : Nat)))) (some (.sh (.int (q.fin q.pt : Nat)))) (some (.sh (.int (q.pick : Nat)))) (some (oY q [])) none none none) rfl ?_
  refine rt_seq (ρ' := eL q (some (.sh (.int (q.wide : Nat)))) (some (.sh (.int (q.long q.pt : Nat)))) (some (.sh (.int (q.fin q.pt : Nat)))) (some (.sh (.int (q.pick : Nat)))) (some (oY q q.L)) none none none) ?_ ?_
  · have hLl : q.L.length ≤ 120 := by unfold Pl.L; rw [List.length_append]; omega
    have ad : op2 dAdd (var 1) (var 2) (eL q (some (.sh (.int (q.wide : Nat)))) (some (.sh (.int (q.long q.pt : Nat)))) (some (.sh (.int (q.fin q.pt : Nat)))) (some (.sh (.int (q.pick : Nat)))) (some (oY q [])) none none none) = .ok (dS q.L) := op2_ok (a := dS q.A) (b := dS q.B) rfl rfl (by
      unfold dS Pl.L
      rw [dAdd_lst, if_pos (by unfold okSz; exact decide_eq_true (by simp; omega)), List.map_append])
    rw [forS_fl (ds := q.L.map D.str) (it_v ad) (flat_strs _)]
    obtain ⟨o4, e4⟩ : ∃ o, o = some (OD.sh (.int (q.wide : Nat))) := ⟨_, rfl⟩
    obtain ⟨o5, e5⟩ : ∃ o, o = some (OD.sh (.int (q.long q.pt : Nat))) := ⟨_, rfl⟩
    rw [← e4, ← e5]
    refine loop_pre D.str (fun pre => eL q o4 o5 (some (.sh (.int (q.fin q.pt : Nat)))) (some (.sh (.int (q.pick : Nat)))) (some (oY q pre)) none none none) q.L fun pre c post e => ?_
    have hpl : pre.length ≤ 120 := by have : pre.length ≤ q.L.length := by rw [e]; simp
                                      omega
    have hkl := kF_len pre
    have names := lcE_map (kF pre) (fun c => D.tup [.str c, .int (q.sm q.pt c : Nat)]) D.str (Ee := []) (vs := [12]) (bnd := bName 12) (it := itV 8) (f := op2 dIx (var 12) (con (.int 0))) (ρ := eL q o4 o5 (some (.sh (.int (q.fin q.pt : Nat)))) (some (.sh (.int (q.pick : Nat)))) (some (oY q pre)) (some (.sh (.str c))) none none) (itV_oY rfl) (by rw [show allSh [] (eL q o4 o5 (some (.sh (.int (q.fin q.pt : Nat)))) (some (.sh (.int (q.pick : Nat)))) (some (oY q pre)) (some (.sh (.str c))) none none) = true from rfl, Bool.or_true]) (by omega) fun c hc => by
      rw [bName, bk_some]
      exact op2_ok (a := .tup [.str c, .int (q.sm q.pt c : Nat)]) (b := .int 0) rfl rfl rfl
    have nm := (erE_ok names).trans (congrArg R.ok (er_lstF _))
    have t := tst_ok (op2_ok (g := dNotIn) (f1 := var 9) (a := .str c) rfl nm (dni_enc (enc_str 20) c (kF pre)))
    by_cases hc : c ∈ pre
    · have hk' := (kF_mem pre c).mpr hc
      have hb : ∀ inst : Decidable (c ∈ kF pre), @decide (c ∈ kF pre) inst = true := fun _ => decide_eq_true hk'
      rw [hb] at t
      refine ⟨eL q o4 o5 (some (.sh (.int (q.fin q.pt : Nat)))) (some (.sh (.int (q.pick : Nat)))) (some (oY q pre)) (some (.sh (.str c))) none none, eL q o4 o5 (some (.sh (.int (q.fin q.pt : Nat)))) (some (.sh (.int (q.pick : Nat)))) (some (oY q pre)) (some (.sh (.str c))) none none, rfl, ?_, ?_⟩
      · unfold l1__law_yarn
        exact (ifS_f t).trans rfl
      · have ey : oY q (pre ++ [c]) = oY q pre := by unfold oY; rw [kF_snoc, if_pos hc]
        rw [ey]; rfl
    · have hk' : c ∉ kF pre := fun z => hc ((kF_mem pre c).mp z)
      have hb : ∀ inst : Decidable (c ∈ kF pre), @decide (c ∈ kF pre) inst = false := fun _ => decide_eq_false hk'
      rw [hb] at t
      have ca : q.A.count c ≤ 60 := Nat.le_trans List.count_le_length hA
      have cb : q.B.count c ≤ 60 := Nat.le_trans List.count_le_length hB
      have m1 : q.A.count c * q.et ≤ 60 * 1000 := Nat.mul_le_mul ca he
      have m2 : q.B.count c * q.pt ≤ 60 * 1000 := Nat.mul_le_mul cb hp
      refine ⟨eL q o4 o5 (some (.sh (.int (q.fin q.pt : Nat)))) (some (.sh (.int (q.pick : Nat)))) (some (oY q pre)) (some (.sh (.str c))) none none, eL q o4 o5 (some (.sh (.int (q.fin q.pt : Nat)))) (some (.sh (.int (q.pick : Nat)))) (some (oY q (pre ++ [c]))) (some (.sh (.str c))) (some (.sh (.int ((q.A.count c * q.et : Nat) : Int)))) (some (.sh (.int ((q.B.count c * q.pt : Nat) : Int)))), rfl, ?_, rfl⟩
      unfold l1__law_yarn
      refine (ifS_t t).trans ?_
      refine (seqS_nx ((setS_ok (op2_ok (cnt_ok (xs := q.A) (c := c) rfl (fun _ => rfl) (by show 13 < 14; decide) (by omega)) (ix_nums (i := 0) (q := q) rfl 2 q.et rfl) (mulN _ _ (by omega))) rfl).trans (show _ = Out.nx (eL q o4 o5 (some (.sh (.int (q.fin q.pt : Nat)))) (some (.sh (.int (q.pick : Nat)))) (some (oY q pre)) (some (.sh (.str c))) (some (.sh (.int ((q.A.count c * q.et : Nat) : Int)))) none) from rfl))).trans ?_
      refine (seqS_nx ((setS_ok (op2_ok (cnt_ok (xs := q.B) (c := c) rfl (fun _ => rfl) (by show 13 < 14; decide) (by omega)) (ix_nums (i := 0) (q := q) rfl 3 q.pt rfl) (mulN _ _ (by omega))) rfl).trans (show _ = Out.nx (eL q o4 o5 (some (.sh (.int (q.fin q.pt : Nat)))) (some (.sh (.int (q.pick : Nat)))) (some (oY q pre)) (some (.sh (.str c))) (some (.sh (.int ((q.A.count c * q.et : Nat) : Int)))) (some (.sh (.int ((q.B.count c * q.pt : Nat) : Int))))) from rfl))).trans ?_
      have val : op2 dAdd (op2 dMul (var 10) (var 6)) (op2 dMul (var 11) (var 7)) (eL q o4 o5 (some (.sh (.int (q.fin q.pt : Nat)))) (some (.sh (.int (q.pick : Nat)))) (some (oY q pre)) (some (.sh (.str c))) (some (.sh (.int ((q.A.count c * q.et : Nat) : Int)))) (some (.sh (.int ((q.B.count c * q.pt : Nat) : Int))))) = .ok (.int (q.sm q.pt c : Nat)) :=
        op2_ok (op2_ok (a := .int ((q.A.count c * q.et : Nat) : Int)) (b := .int (q.fin q.pt : Nat)) rfl rfl (mulN _ _ (by omega))) (op2_ok (a := .int ((q.B.count c * q.pt : Nat) : Int)) (b := .int (q.pick : Nat)) rfl rfl (mulN _ _ (by omega))) (by
          rw [dAdd_int, ← Int.natCast_add]
          have : q.A.count c * q.et * q.fin q.pt + q.B.count c * q.pt * q.pick = q.sm q.pt c := by
            unfold Pl.sm
            rw [Nat.mul_assoc, Nat.mul_assoc, Nat.mul_comm q.et, Nat.mul_comm q.pt]
          rw [this])
      refine (appS_sh (tupA (args2 (a := .str c) rfl val) (by simp)) (xs := (kF pre).map fun c => .sh (.tup [.str c, .int (q.sm q.pt c : Nat)])) rfl (by rw [List.length_map]; omega) rfl).trans ?_
      have : oY q (pre ++ [c]) = .lst (((kF pre).map fun c => .sh (.tup [.str c, .int (q.sm q.pt c : Nat)])) ++ [.sh (.tup [.str c, .int (q.sm q.pt c : Nat)])]) := by
        unfold oY
        rw [kF_snoc, if_neg hc, List.map_append]; rfl
      rw [this]; rfl
  have fz : frz [8] (eL q (some (.sh (.int (q.wide : Nat)))) (some (.sh (.int (q.long q.pt : Nat)))) (some (.sh (.int (q.fin q.pt : Nat)))) (some (.sh (.int (q.pick : Nat)))) (some (oY q q.L)) none none none) = eL q (some (.sh (.int (q.wide : Nat)))) (some (.sh (.int (q.long q.pt : Nat)))) (some (.sh (.int (q.fin q.pt : Nat)))) (some (.sh (.int (q.pick : Nat)))) (some (.sh (rows q q.pt))) none none none := by
    rw [← oY_er]; rfl
  show Rt _ (retS _ _ (frz [8] _))
  rw [fz]
  exact ⟨_, retS_sh (tupA (args3 (a := .int (q.wide : Nat)) (b := .int (q.long q.pt : Nat)) (c := rows q q.pt) rfl rfl rfl) (by simp)) rfl⟩
end
end K25
set_option Elab.async false
set_option linter.all false
set_option maxRecDepth 100000
set_option maxHeartbeats 0
namespace K25
open PySem L2 DL DLC
/-! ### plans are made -/
theorem btw (x lo hi : Int) : m_check_between [.int x, .int lo, .int hi] = if bad lo hi x then .ex "OutOfRange" (exR x) else .ok (.sh .non) := by
  have t : orT (tst (op2 dLt (var 0) (var 1))) (tst (op2 dGt (var 0) (var 2))) [some (OD.sh (.int x)), some (.sh (.int lo)), some (.sh (.int hi))] = .ok (bad lo hi x) := by
    unfold orT
    rw [tst_ok (op2_ok (g := dLt) (a := .int x) (b := .int lo) rfl rfl rfl), R.bind_ok, tst_ok (op2_ok (g := dGt) (a := .int x) (b := .int hi) rfl rfl rfl)]
    unfold bad
    show (if decide (x < lo) = true then R.ok true else R.ok (decide (hi < x))) = _
    cases decide (x < lo) <;> rfl
  unfold m_check_between mOf b_check_between
  rw [if_pos (show ([.int x, .int lo, .int hi] : List D).length = 3 from rfl)]
  rw [show ([.int x, .int lo, .int hi] : List D).map (fun d => some (OD.sh d)) ++ List.replicate (3 - 3) none = [some (OD.sh (.int x)), some (.sh (.int lo)), some (.sh (.int hi))] from rfl]
  cases h : bad lo hi x with
  | true => rw [ifS_t (t.trans (by rw [h])), if_pos rfl]; rfl
  | false => rw [ifS_f (t.trans (by rw [h])), if_neg (by simp)]; rfl
theorem btw_xb {fa : En → R (List D)} {ρ : En} {x lo hi : Int} (h : fa ρ = .ok [.int x, .int lo, .int hi]) : XB exR (badO lo hi x) ρ (exprS (erE (callE m_check_between fa)) ρ) := by
  unfold badO
  cases e : bad lo hi x with
  | true =>
    rw [if_pos rfl]
    exact ⟨ρ, exprS_ex (erE_ex (by rw [callA h, btw, e]; rfl))⟩
  | false =>
    rw [if_neg (by simp)]
    exact exprS_ok (d := .non) (by rw [erE_ok (by rw [callA h, btw, e]; rfl)]; rfl)
def exU (k : Nat) : List (Str × D) := [("value", .int k), ("label", .str [85, 110, 101, 113, 117, 97, 108])]
def eP (C A B : List (List Nat)) (n0 n1 n2 n3 n4 n5 n6 : Int) : En := [none, some (.sh (dS C)), some (.sh (dS A)), some (.sh (dS B)), some (.sh (.int n0)), some (.sh (.int n1)), some (.sh (.int n2)), some (.sh (.int n3)), some (.sh (.int n4)), some (.sh (.int n5)), some (.sh (.int n6))]
def chk7 (n0 n1 n2 n3 n4 n5 n6 : Int) : Option Int := (badO 10 400 n0).or ((badO 10 400 n1).or ((badO 1 1000 n2).or ((badO 1 1000 n3).or ((badO 0 500 n4).or ((badO 0 500 n5).or (badO 0 5000 n6))))))
def pF (C A B : List (List Nat)) (n0 n1 n2 n3 n4 n5 n6 : Int) : List (Str × D) := [("cloth", dS C), ("warp", dS A), ("weft", dS B), ("sett", .int n0), ("beat", .int n1), ("ends_times", .int n2), ("picks_times", .int n3), ("warp_take", .int n4), ("weft_take", .int n5), ("waste", .int n6)]
section
variable {p e : Nat} {C A B : List (List Nat)} {n0 n1 n2 n3 n4 n5 n6 : Int}
theorem lenC (C : List (List Nat)) (hv : var i ρ = .ok (dS C)) : opA dLen (aCons (var i) aNil) ρ = .ok (.int (C.length : Nat)) := len_dS' C hv
theorem len0 (hC : Cl p e C) (h1 : 1 ≤ p) (h4 : e ≤ 60) : opA dLen (aCons (op2 dIx (var 1) (con (.int 0))) aNil) (eP C A B n0 n1 n2 n3 n4 n5 n6) = .ok (.int (e : Nat)) := by
  have h0 : 0 < C.length := by rw [hC.len]; exact h1
  have hr := hC.row _ (List.getElem_mem h0)
  exact opA_ok (ix_dS h0 (f := var 1) (k := 0) (g := con (.int 0)) rfl rfl) (by rw [dLen_str, if_pos (by unfold okSz; exact decide_eq_true (by omega)), hr])
theorem ne_nat (a b : Nat) : dNe (.int (a : Nat)) (.int (b : Nat)) = some (.bl (!decide (a = b))) := dne_enc (enc_nat 20) a b
theorem plan_eq (hC : Cl p e C) (h1 : 1 ≤ p) (h2 : p ≤ 60) (h3 : 1 ≤ e) (h4 : e ≤ 60) (hA : A.length = e) (hB : B.length = p) : m_Plan [dS C, dS A, dS B, .int n0, .int n1, .int n2, .int n3, .int n4, .int n5, .int n6] = match chk7 n0 n1 n2 n3 n4 n5 n6 with
    | none => .ok (.obj "Plan" (pF C A B n0 n1 n2 n3 n4 n5 n6))
    | some v => .ex "OutOfRange" (exR v) := by
  have s0 : exprS (erE (callE m_check_cloth (aCons (var 1) aNil))) (eP C A B n0 n1 n2 n3 n4 n5 n6) = .nx (eP C A B n0 n1 n2 n3 n4 n5 n6) := exprS_ok (erC (args1 (a := dS C) rfl) (check_ok hC h1 h2 h3 h4) rfl)
  have la := lenC A (i := 2) (ρ := eP C A B n0 n1 n2 n3 n4 n5 n6) rfl
  have lb := lenC B (i := 3) (ρ := eP C A B n0 n1 n2 n3 n4 n5 n6) rfl
  have lc := lenC C (i := 1) (ρ := eP C A B n0 n1 n2 n3 n4 n5 n6) rfl
  have t1 := tst_ok (op2_ok la (len0 hC h1 h4) (ne_nat _ _))
  have t2 := tst_ok (op2_ok lb lc (ne_nat _ _))
  rw [decide_eq_true hA] at t1
  rw [decide_eq_true (show B.length = C.length by rw [hC.len]; exact hB)] at t2
  have fl : ∀ (i : Nat) (X : List (List Nat)), var i (eP C A B n0 n1 n2 n3 n4 n5 n6) = .ok (dS X) → erE (opAF fList (aCons (var i) aNil)) (eP C A B n0 n1 n2 n3 n4 n5 n6) = .ok (dS X) := fun i X hv => (erE_ok (opAF_ok (a := dS X) hv rfl)).trans (congrArg R.ok (er_lstF _))
  have flds : (inFld "cloth" (erE (opAF fList (aCons (var 1) aNil)))
    (inFld "warp" (erE (opAF fList (aCons (var 2) aNil)))
    (inFld "weft" (erE (opAF fList (aCons (var 3) aNil)))
    (inFld "sett" (var 4)
    (inFld "beat" (var 5)
    (inFld "ends_times" (var 6)
    (inFld "picks_times" (var 7)
    (inFld "warp_take" (var 8)
    (inFld "weft_take" (var 9)
    (inFld "waste" (var 10)
    inNil)))))))))) (eP C A B n0 n1 n2 n3 n4 n5 n6) [] = .ok (pF C A B n0 n1 n2 n3 n4 n5 n6) := by
    rw [inFld_ok (fl 1 C rfl) rfl (by simp), inFld_ok (fl 2 A rfl) rfl (by simp), inFld_ok (fl 3 B rfl) rfl (by simp), inFld_ok (d := .int n0) rfl rfl (by simp), inFld_ok (d := .int n1) rfl rfl (by simp), inFld_ok (d := .int n2) rfl rfl (by simp), inFld_ok (d := .int n3) rfl rfl (by simp), inFld_ok (d := .int n4) rfl rfl (by simp), inFld_ok (d := .int n5) rfl rfl (by simp), inFld_ok (d := .int n6) rfl rfl (by simp)]; rfl
  have b : ∀ (i : Nat) (x lo hi : Int), var i (eP C A B n0 n1 n2 n3 n4 n5 n6) = .ok (.int x) → XB exR (badO lo hi x) (eP C A B n0 n1 n2 n3 n4 n5 n6) (exprS (erE (callE m_check_between (aCons (var i) (aCons (con (.int lo)) (aCons (con (.int hi)) aNil))))) (eP C A B n0 n1 n2 n3 n4 n5 n6)) := fun i x lo hi hv => btw_xb (args3 hv rfl rfl)
  have ch := xb_pre (b 4 n0 10 400 rfl) (xb_pre (b 5 n1 10 400 rfl) (xb_pre (b 6 n2 1 1000 rfl) (xb_pre (b 7 n3 1 1000 rfl) (xb_pre (b 8 n4 0 500 rfl) (xb_pre (b 9 n5 0 500 rfl) (xb_pre (b 10 n6 0 5000 rfl) (o2 := none) flds))))))
  rw [Option.or_none] at ch
  unfold m_Plan mIn
  rw [if_pos (show ([dS C, dS A, dS B, .int n0, .int n1, .int n2, .int n3, .int n4, .int n5, .int n6] : List D).length = 10 from rfl)]
  show (b_Plan (eP C A B n0 n1 n2 n3 n4 n5 n6) []).bind _ = _
  unfold b_Plan
  rw [inPre_nx s0, inPre_nx ((ifS_f (b := nxS) t1).trans rfl), inPre_nx ((ifS_f (b := nxS) t2).trans rfl)]
  unfold chk7
  rw [ch]
  split <;> (rename_i hh; first | rfl | (rw [hh]; rfl))
theorem raise_u {f : En → R D} {ρ : En} {k : Nat} (h : f ρ = .ok (.int k)) : DLX.raiseS "Unequal" 1 l_Unequal (aCons f aNil) ρ = .ex "Unequal" (exU k) ρ := by
  unfold DLX.raiseS
  rw [args1 h]; rfl
theorem plan_u {k : Nat} (hC : Cl p e C) (h1 : 1 ≤ p) (h2 : p ≤ 60) (h3 : 1 ≤ e) (h4 : e ≤ 60) (h : (A.length ≠ e ∧ k = A.length) ∨ (A.length = e ∧ B.length ≠ p ∧ k = B.length)) : m_Plan [dS C, dS A, dS B, .int n0, .int n1, .int n2, .int n3, .int n4, .int n5, .int n6] = .ex "Unequal" (exU k) := by
  have s0 : exprS (erE (callE m_check_cloth (aCons (var 1) aNil))) (eP C A B n0 n1 n2 n3 n4 n5 n6) = .nx (eP C A B n0 n1 n2 n3 n4 n5 n6) := exprS_ok (erC (args1 (a := dS C) rfl) (check_ok hC h1 h2 h3 h4) rfl)
  have la := lenC A (i := 2) (ρ := eP C A B n0 n1 n2 n3 n4 n5 n6) rfl
  have lb := lenC B (i := 3) (ρ := eP C A B n0 n1 n2 n3 n4 n5 n6) rfl
  have lc := lenC C (i := 1) (ρ := eP C A B n0 n1 n2 n3 n4 n5 n6) rfl
  have t1 := tst_ok (op2_ok la (len0 hC h1 h4) (ne_nat _ _))
  have t2 := tst_ok (op2_ok lb lc (ne_nat _ _))
  unfold m_Plan mIn
  rw [if_pos (show ([dS C, dS A, dS B, .int n0, .int n1, .int n2, .int n3, .int n4, .int n5, .int n6] : List D).length = 10 from rfl)]
  show (b_Plan (eP C A B n0 n1 n2 n3 n4 n5 n6) []).bind _ = _
  unfold b_Plan
  rw [inPre_nx s0]
  rcases h with ⟨h, rfl⟩ | ⟨hA, h, rfl⟩
  · rw [decide_eq_false h] at t1
    rw [inPre_ex ((ifS_t t1).trans (raise_u la))]; rfl
  · rw [decide_eq_true hA] at t1
    rw [decide_eq_false (show B.length ≠ C.length by rw [hC.len]; exact h)] at t2
    rw [inPre_nx ((ifS_f (b := nxS) t1).trans rfl), inPre_ex ((ifS_t t2).trans (raise_u lb))]; rfl
end
end K25
set_option Elab.async false
set_option linter.all false
set_option maxRecDepth 100000
set_option maxHeartbeats 0
namespace K25
open PySem L2 DL DLC
/-! ### _law_made -/
def hdM : List DLX.HdR := [⟨tab_BadCloth, some (4, "BadCloth"), (retS ([] ++ ([] ++ [])) (tupE (aCons (con (.str [99, 108, 111, 116, 104])) (aCons (DLX.fldE "row" 4) aNil))))⟩, ⟨tab_Unequal, some (4, "Unequal"), (retS ([] ++ ([] ++ [])) (tupE (aCons (con (.str [117, 110, 101, 113, 117, 97, 108])) (aCons (DLX.fldE "value" 4) aNil))))⟩, ⟨tab_OutOfRange, some (4, "OutOfRange"), (retS ([] ++ ([] ++ [])) (tupE (aCons (con (.str [114, 97, 110, 103, 101])) (aCons (DLX.fldE "value" 4) aNil))))⟩, ⟨tab_HeddleError, none, (retS ([] ++ ([] ++ [])) (tupE (aCons (con (.str [111, 116, 104, 101, 114])) (aCons (con (.int 0)) aNil))))⟩]
theorem try_u {b : En → Out} {k : Nat} {ρ ρ' : En} (h : b ρ = .ex "Unequal" (exU k) ρ') (hl : ρ'.length = 5) : DLX.tryS b hdM ρ = .rt (.sh (.tup [.str [117, 110, 101, 113, 117, 97, 108], .int k])) (DLX.nones 5) := by
  unfold DLX.tryS
  rw [h]
  simp only [hdM, DLX.hdGo]
  rw [show tab_BadCloth.lookup ("Unequal" : Str) = some false from by rfl, show tab_Unequal.lookup ("Unequal" : Str) = some true from by rfl]
  simp only
  rw [if_pos trivial, hl]; rfl
theorem try_o {b : En → Out} {k : Int} {ρ ρ' : En} (h : b ρ = .ex "OutOfRange" (exR k) ρ') (hl : ρ'.length = 5) : DLX.tryS b hdM ρ = .rt (.sh (.tup [.str [114, 97, 110, 103, 101], .int k])) (DLX.nones 5) := by
  unfold DLX.tryS
  rw [h]
  simp only [hdM, DLX.hdGo]
  rw [show tab_BadCloth.lookup ("OutOfRange" : Str) = some false from by rfl, show tab_Unequal.lookup ("OutOfRange" : Str) = some false from by rfl, show tab_OutOfRange.lookup ("OutOfRange" : Str) = some true from by rfl]
  simp only
  rw [if_pos trivial, hl]; rfl
theorem try_rt {b : En → Out} {l : List DLX.HdR} {ρ ρ' : En} {o : OD} (h : b ρ = .rt o ρ') : DLX.tryS b l ρ = .rt o ρ' := by unfold DLX.tryS; rw [h]
section
variable {p e : Nat} {C A B : List (List Nat)} {n0 n1 n2 n3 n4 n5 n6 : Int}
def eM (C A B : List (List Nat)) (n0 n1 n2 n3 n4 n5 n6 : Int) : En := [some (OD.sh (dS C)), some (.sh (dS A)), some (.sh (dS B)), some (.sh (iL [n0, n1, n2, n3, n4, n5, n6])), none]
theorem ix7 (k : Nat) (n : Int) (e : L2.atI ([n0, n1, n2, n3, n4, n5, n6].map D.int) (k : Int) = some (.int n)) : op2 dIx (var 3) (con (.int k)) (eM C A B n0 n1 n2 n3 n4 n5 n6) = .ok (.int n) := op2_ok (a := iL [n0, n1, n2, n3, n4, n5, n6]) (b := .int k) rfl rfl e
theorem argsP : (aCons (var 0) (aCons (var 1) (aCons (var 2) (aCons (op2 dIx (var 3) (con (.int 0))) (aCons (op2 dIx (var 3) (con (.int 1))) (aCons (op2 dIx (var 3) (con (.int 2))) (aCons (op2 dIx (var 3) (con (.int 3))) (aCons (op2 dIx (var 3) (con (.int 4))) (aCons (op2 dIx (var 3) (con (.int 5))) (aCons (op2 dIx (var 3) (con (.int 6))) aNil)))))))))) (eM C A B n0 n1 n2 n3 n4 n5 n6) = .ok [dS C, dS A, dS B, .int n0, .int n1, .int n2, .int n3, .int n4, .int n5, .int n6] :=
  aC rfl (aC rfl (aC rfl (aC (ix7 0 n0 rfl) (aC (ix7 1 n1 rfl) (aC (ix7 2 n2 rfl) (aC (ix7 3 n3 rfl) (aC (ix7 4 n4 rfl) (aC (ix7 5 n5 rfl) (aC (ix7 6 n6 rfl) rfl)))))))))
theorem tup_ex {f : En → R D} {g : En → R D} {ρ : En} {a : D} {E : List Nat} {c : Str} {fs : List (Str × D)} (h : f ρ = .ok a) (h2 : g ρ = .ex c fs) : retS E (tupE (aCons f (aCons g aNil))) ρ = .ex c fs ρ := by
  unfold retS tupE aCons
  rw [h, R.bind_ok, h2]; rfl
theorem made_ok (hC : Cl p e C) (h1 : 1 ≤ p) (h2 : p ≤ 60) (h3 : 1 ≤ e) (h4 : e ≤ 60) (hA : A.length = e) (hB : B.length = p) (h : chk7 n0 n1 n2 n3 n4 n5 n6 = none) : m__law_made [dS C, dS A, dS B, iL [n0, n1, n2, n3, n4, n5, n6]] = .ok (.sh (.tup [.str [118, 97, 108, 117, 101], .obj "Plan" (pF C A B n0 n1 n2 n3 n4 n5 n6)])) := by
  have pe := plan_eq (n0 := n0) (n1 := n1) (n2 := n2) (n3 := n3) (n4 := n4) (n5 := n5) (n6 := n6) hC h1 h2 h3 h4 hA hB
  rw [h] at pe
  refine mOf_rt (ρ0 := eM C A B n0 n1 n2 n3 n4 n5 n6) rfl rfl (ρ := eM C A B n0 n1 n2 n3 n4 n5 n6) ?_
  unfold b__law_made
  exact try_rt (retS_sh (tupA (args2 (a := .str [118, 97, 108, 117, 101]) rfl ((newA argsP).trans pe)) (by simp)) rfl)
theorem made_o (hC : Cl p e C) (h1 : 1 ≤ p) (h2 : p ≤ 60) (h3 : 1 ≤ e) (h4 : e ≤ 60) (hA : A.length = e) (hB : B.length = p) {v : Int} (h : chk7 n0 n1 n2 n3 n4 n5 n6 = some v) : m__law_made [dS C, dS A, dS B, iL [n0, n1, n2, n3, n4, n5, n6]] = .ok (.sh (.tup [.str [114, 97, 110, 103, 101], .int v])) := by
  have pe := plan_eq (n0 := n0) (n1 := n1) (n2 := n2) (n3 := n3) (n4 := n4) (n5 := n5) (n6 := n6) hC h1 h2 h3 h4 hA hB
  rw [h] at pe
  refine mOf_rt (ρ0 := eM C A B n0 n1 n2 n3 n4 n5 n6) rfl rfl (ρ := DLX.nones 5) ?_
  unfold b__law_made
  exact try_o (ρ' := eM C A B n0 n1 n2 n3 n4 n5 n6) (tup_ex (a := .str [118, 97, 108, 117, 101]) rfl ((newA argsP).trans pe)) rfl
theorem made_u {k : Nat} (hC : Cl p e C) (h1 : 1 ≤ p) (h2 : p ≤ 60) (h3 : 1 ≤ e) (h4 : e ≤ 60) (h : (A.length ≠ e ∧ k = A.length) ∨ (A.length = e ∧ B.length ≠ p ∧ k = B.length)) : m__law_made [dS C, dS A, dS B, iL [n0, n1, n2, n3, n4, n5, n6]] = .ok (.sh (.tup [.str [117, 110, 101, 113, 117, 97, 108], .int k])) := by
  have pe := plan_u (n0 := n0) (n1 := n1) (n2 := n2) (n3 := n3) (n4 := n4) (n5 := n5) (n6 := n6) hC h1 h2 h3 h4 h
  refine mOf_rt (ρ0 := eM C A B n0 n1 n2 n3 n4 n5 n6) rfl rfl (ρ := DLX.nones 5) ?_
  unfold b__law_made
  exact try_u (ρ' := eM C A B n0 n1 n2 n3 n4 n5 n6) (tup_ex (a := .str [118, 97, 108, 117, 101]) rfl ((newA argsP).trans pe)) rfl
end
theorem made_c : m__law_made [dS [], dS [], dS [], iL [0, 0, 0, 0, 0, 0, 0]] = .ok (.sh (.tup [.str [99, 108, 111, 116, 104], .int 0])) := by rfl
end K25
set_option Elab.async false
set_option linter.all false
set_option maxRecDepth 100000
set_option maxHeartbeats 0
namespace K25
open PySem L2 DL DLC
theorem draw_ok {fa : En → R (List D)} {ρ : En} {c : Int} {ls : List Nat} (h : fa ρ = .ok [.int c, nL ls]) (hl : ∀ l ∈ ls, 0 < l ∧ l < 2147483648) (hn : ls.length < 1000) : ∃ ns : List Nat, erE (callE m__law_draw fa) ρ = .ok (nL ns) ∧ ns.length = ls.length ∧ ∀ (i : Nat) (h1 : i < ns.length) (h2 : i < ls.length), ns[i] < ls[i] := by
  obtain ⟨row, e, hr, hd⟩ := law_draw c (cI ls) (by
    intro l hl'
    obtain ⟨n, hn, rfl⟩ := List.mem_map.mp hl'
    have := hl n hn
    omega) (by simpa [cI] using hn)
  obtain ⟨ns, rfl, h3, h4⟩ := drawn_nats hd (by simpa [cI] using hr)
  refine ⟨ns, erC h (o := .lst ((cI ns).map fun i => .sh (.int i))) ?_ ?_, h3, h4⟩
  · rw [← iL_cI]; exact e
  · rw [er_row, iL_cI]
theorem drawr_ok {fa : En → R (List D)} {ρ : En} {c : Int} {l n : Nat} (h : fa ρ = .ok [.int c, nL (List.replicate n l)]) (hl : 0 < l ∧ l < 2147483648) (hn : n < 1000) : ∃ ns : List Nat, erE (callE m__law_draw fa) ρ = .ok (nL ns) ∧ ns.length = n ∧ ∀ x ∈ ns, x < l := by
  obtain ⟨ns, e, h1, h2⟩ := draw_ok h (fun x hx => by rw [(List.mem_replicate.mp hx).2]; exact hl) (by simpa using hn)
  rw [List.length_replicate] at h1
  refine ⟨ns, e, h1, fun x hx => ?_⟩
  obtain ⟨i, hi, rfl⟩ := List.getElem_of_mem hx
  have := h2 i hi (by simp; omega)
  simpa using this
/-! ### the law's stock -/
theorem opA_args {g : List D → Option D} {fa : En → R (List D)} {ρ : En} {ds : List D} {d : D} (h : fa ρ = .ok ds) (h2 : g ds = some d) : opA g fa ρ = .ok d := by unfold opA; rw [h, R.bind_ok, h2]; rfl
def nmL : List (List Nat) := [[114, 101, 100], [98, 108, 117, 101], [103, 111, 108, 100]]
def oSt (st : List (List Nat × Int)) : OD := .dic (st.map fun x => (D.str x.1, OD.sh (.int x.2)))
theorem oSt_er (st : List (List Nat × Int)) : (oSt st).er = sD st := by
  unfold oSt sD
  rw [er_dic, List.map_map]; rfl
structure Sk (st : List (List Nat × Int)) (m : Nat) : Prop where
  len : st.length ≤ m
  nn : ∀ x ∈ st, 0 ≤ x.2
theorem put_st {st : List (List Nat × Int)} {m : Nat} {c : List Nat} {n : Int} (h : Sk st m) (hn : 0 ≤ n) : ∃ st', OD.dic (putO (st.map fun x => (D.str x.1, OD.sh (.int x.2))) (ks c) (.sh (.int n))) = oSt st' ∧ Sk st' (m + 1) := by
  unfold putO
  by_cases hc : ((st.map fun x => (D.str x.1, OD.sh (.int x.2))).any fun q => keq (ks c) q.1) = true
  · rw [if_pos hc]
    refine ⟨st.map fun x => if c = x.1 then (x.1, n) else x, ?_, ⟨by rw [List.length_map]; have := h.len; omega, fun y hy => ?_⟩⟩
    · unfold oSt
      rw [List.map_map, List.map_map]
      congr 1
      apply List.map_congr_left
      intro x _
      show (if keq (ks c) (.str x.1) = true then (D.str x.1, OD.sh (.int n)) else (D.str x.1, OD.sh (.int x.2))) = (D.str (if c = x.1 then (x.1, n) else x).1, OD.sh (.int (if c = x.1 then (x.1, n) else x).2))
      rw [keq_ks]
      by_cases e : c = x.1
      · rw [if_pos (decide_eq_true e), if_pos e]
      · rw [if_neg (by simpa using e), if_neg e]
    · obtain ⟨x, hx, rfl⟩ := List.mem_map.mp hy
      by_cases e : c = x.1
      · rw [if_pos e]; exact hn
      · rw [if_neg e]; exact h.nn x hx
  · rw [if_neg hc]
    refine ⟨st ++ [(c, n)], ?_, ⟨by rw [List.length_append]; have := h.len; simp; omega, fun y hy => ?_⟩⟩
    · unfold oSt
      rw [List.map_append]; rfl
    · rcases List.mem_append.mp hy with hy | hy
      · exact h.nn y hy
      · rw [List.mem_singleton.mp hy]; exact hn
def eW (ns : List Int) (q : Pl) (o5 o7 o8 o9 o10 o11 o12 o13 o14 o15 o16 o17 o18 : Option OD) : En := [some (.sh (.scr ns)), some (.sh (dS q.C)), some (.sh (dS nmL)), some (.sh (dS q.A)), some (.sh (dS q.B)), o5, some (.sh q.nums), o7, o8, o9, o10, o11, o12, o13, o14, o15, o16, o17, o18, none, none]
section
variable {ns : List Int} {q : Pl} {o5 o7 o8 o9 o10 o12 o14 : Option OD}
theorem sl_loop (v : List Nat → Nat) : ∀ (xs : List (List Nat)) (st : List (List Nat × Int)) (m : Nat), Sk st m → m + xs.length < 1000 → ∃ st', loopS [13] (bName 13) l1_law (xs.map fun c => .tup [.str c, .int (v c : Nat)]) (eW ns q o5 o7 o8 o9 o10 (some (oSt st)) o12 none o14 none none none none) = .nx (eW ns q o5 o7 o8 o9 o10 (some (oSt st')) o12 none o14 none none none none) ∧ Sk st' (m + xs.length)
  | [], st, m, h, _ => ⟨st, rfl, h⟩
  | c :: xs, st, m, h, hl => by
    rw [List.length_cons] at hl
    obtain ⟨st1, e1, h1⟩ := put_st (c := c) (n := (v c : Nat)) h (by omega)
    obtain ⟨st2, e2, h2⟩ := sl_loop v xs st1 (m + 1) h1 (by omega)
    refine ⟨st2, ?_, by rw [List.length_cons, show m + (xs.length + 1) = m + 1 + xs.length by omega]; exact h2⟩
    rw [List.map_cons, loopS, show bName 13 (.tup [.str c, .int (v c : Nat)]) (eW ns q o5 o7 o8 o9 o10 (some (oSt st)) o12 none o14 none none none none) = some (eW ns q o5 o7 o8 o9 o10 (some (oSt st)) o12 (some (.sh (.tup [.str c, .int (v c : Nat)]))) o14 none none none none) from rfl]
    simp only
    have stp : l1_law (eW ns q o5 o7 o8 o9 o10 (some (oSt st)) o12 (some (.sh (.tup [.str c, .int (v c : Nat)]))) o14 none none none none) = .nx (eW ns q o5 o7 o8 o9 o10 (some (oSt st1)) o12 (some (.sh (.tup [.str c, .int (v c : Nat)]))) o14 none none none none) := by
      unfold l1_law
      refine (putS_ok (kvs := st.map fun x => (D.str x.1, OD.sh (.int x.2))) (c := c) (d := .int (v c : Nat)) (op2_ok (a := .tup [.str c, .int (v c : Nat)]) (b := .int 1) rfl rfl rfl) rfl rfl (op2_ok (a := .tup [.str c, .int (v c : Nat)]) (b := .int 0) rfl rfl rfl) (by rw [List.length_map]; have := h.len; omega)).trans ?_
      rw [e1]; rfl
    rw [stp]
    simp only
    exact e2
def s16 : En → Out := (ifS (tst (op2 dGt (var 10) (con (.int 0)))) (seqS (setF 12 ([6] ++ []) (opAF fList (aCons (var 6) aNil)))
    (seqS (subS 12 [10] (var 10) (con (.int 3)))
    (seqS (frzS [12] (forS (([1] ++ ([3] ++ ([4] ++ ([12] ++ [])))) ++ []) [13] (bName 13) (itE (op2 dIx (erE (callE m__law_yarn (aCons (var 1) (aCons (var 3) (aCons (var 4) (aCons (var 12) aNil)))))) (con (.int 2)))) l1_law))
    (seqS (setS 14 ([2] ++ []) (op2 dIx (var 2) (op2 dMod (opA dInt (aCons (erE (callE m__law_cell (aCons (var 0) (aCons (con (.int 5)) aNil)))) aNil)) (con (.int 3)))))
    (ifS (tst (op2 dInD (var 14) (var 11))) (putS 11 [] (opA dMax (aCons (con (.int 0)) (aCons (op2 dSub (op2 dAdd (op2 dGetD (var 11) (var 14)) (op2 dMod (op2 dDiv (opA dInt (aCons (erE (callE m__law_cell (aCons (var 0) (aCons (con (.int 5)) aNil)))) aNil)) (con (.int 3))) (con (.int 3)))) (con (.int 1))) aNil))) (var 14)) nxS))))) nxS)
def Pl.at (q : Pl) (t : Nat) : Pl := { q with pt := t }
theorem Pl.Ok.at (h : q.Ok) {t : Nat} (ht : t ≤ 1000) : (q.at t).Ok := ⟨h.A, h.B, h.s1, h.s2, h.b1, h.b2, h.et, ht, h.wt, h.ft, h.wa⟩
theorem setF_sh {i : Nat} {f : En → R OD} {E : List Nat} {ρ : En} {o : OD} (h : f ρ = .ok o) (hE : allSh E ρ = true) : setF i E f ρ = .nx (ρ.set i (some o)) := by unfold setF frzO; rw [h, R.out_ok, frz_sh hE]; split <;> rfl
/-- more = list(numbers); more[3] = t; frozen -/
theorem more_ok {ρ : En} {k t : Nat} {E : List Nat} (h6 : var 6 ρ = .ok q.nums) (a6 : allSh ([6] ++ []) ρ = true) (hk : var k (ρ.set 12 (some (lstF ([q.s, q.b, q.et, q.pt, q.wt, q.ft, q.wa].map fun n : Nat => D.int n)))) = .ok (.int t)) (hl : 12 < ρ.length) (hE : E.contains 12 = false) (hs : allSh E (ρ.set 12 (some (lstF ([q.s, q.b, q.et, q.pt, q.wt, q.ft, q.wa].map fun n : Nat => D.int n)))) = true) :
    setF 12 ([6] ++ []) (opAF fList (aCons (var 6) aNil)) ρ = .nx (ρ.set 12 (some (lstF ([q.s, q.b, q.et, q.pt, q.wt, q.ft, q.wa].map fun n : Nat => D.int n)))) ∧
    subS 12 E (var k) (con (.int 3)) (ρ.set 12 (some (lstF ([q.s, q.b, q.et, q.pt, q.wt, q.ft, q.wa].map fun n : Nat => D.int n)))) = .nx (ρ.set 12 (some (lstF ([q.s, q.b, q.et, t, q.wt, q.ft, q.wa].map fun n : Nat => D.int n)))) := by
  refine ⟨setF_sh (opAF_ok (a := q.nums) h6 rfl) a6, ?_⟩
  refine (sub_sh (xs := ([q.s, q.b, q.et, q.pt, q.wt, q.ft, q.wa].map fun n : Nat => D.int n).map OD.sh) (j := 3) hk (by rw [List.getElem?_set_self hl]; rfl) (k := 3) rfl rfl hE hs).trans ?_
  rw [List.set_set]; rfl
theorem stk_ok (h : q.Ok) (h10 : q.L.length ≤ 10) {tm : Nat} (htm : tm < 12) : ∃ (st : List (List Nat × Int)) (o12 o14 : Option OD), Sk st 50 ∧ s16 (eW ns q o5 o7 o8 o9 (some (.sh (.int tm))) (some (.dic [])) none none none none none none none) = .nx (eW ns q o5 o7 o8 o9 (some (.sh (.int tm))) (some (oSt st)) o12 none o14 none none none none) := by
  have t := tst_ok (op2_ok (g := dGt) (f1 := var 10) (f2 := con (.int 0)) (ρ := eW ns q o5 o7 o8 o9 (some (.sh (.int tm))) (some (.dic [])) none none none none none none none) (a := .int tm) (b := .int 0) rfl rfl (dGt_int _ _))
  by_cases h0 : tm = 0
  · rw [decide_eq_false (by omega)] at t
    exact ⟨[], none, none, ⟨by simp, fun x hx => nomatch hx⟩, (ifS_f t).trans rfl⟩
  · rw [decide_eq_true (by omega)] at t
    have hq := h.at (t := tm) (by omega)
    obtain ⟨m1, m2⟩ := more_ok (q := q) (k := 10) (t := tm) (E := [10]) (ρ := eW ns q o5 o7 o8 o9 (some (.sh (.int tm))) (some (.dic [])) none none none none none none none) rfl rfl rfl (by show 12 < 21; decide) rfl rfl
    have hl := L_len hq
    obtain ⟨st, e1, hst⟩ := sl_loop (ns := ns) (q := q) (o5 := o5) (o7 := o7) (o8 := o8) (o9 := o9) (o10 := some (.sh (.int tm))) (o12 := some (.sh (q.at tm).nums)) (o14 := none) ((q.at tm).sm tm) (kF (q.at tm).L) [] 0 ⟨Nat.le_refl _, fun x hx => nomatch hx⟩ (by omega)
    obtain ⟨i, hi, hi2⟩ := emod_nat (x := ns.getD 5 0) (n := 3) (by decide)
    have hst2 : Sk st 40 := ⟨by have := hst.len; have hk : (kF (q.at tm).L).length ≤ 10 := Nat.le_trans (kF_len _) h10; omega, hst.nn⟩
    have yl := erC (m := m__law_yarn) (fa := aCons (var 1) (aCons (var 3) (aCons (var 4) (aCons (var 12) aNil)))) (ρ := eW ns q o5 o7 o8 o9 (some (.sh (.int tm))) (some (oSt [])) (some (.sh (q.at tm).nums)) none none none none none none) (d := .tup [.int ((q.at tm).wide : Nat), .int ((q.at tm).long (q.at tm).pt : Nat), rows (q.at tm) (q.at tm).pt]) (aC rfl (aC rfl (aC rfl (aC rfl rfl)))) (lawyarn_ok hq) rfl
    have it := itL (xs := (kF (q.at tm).L).map fun c => .tup [.str c, .int ((q.at tm).sm tm c : Nat)]) (op2_ok (g := dIx) yl (f2 := con (.int 2)) (b := .int 2) rfl rfl)
    have lp : frzS [12] (forS (([1] ++ ([3] ++ ([4] ++ ([12] ++ [])))) ++ []) [13] (bName 13) (itE (op2 dIx (erE (callE m__law_yarn (aCons (var 1) (aCons (var 3) (aCons (var 4) (aCons (var 12) aNil)))))) (con (.int 2)))) l1_law) (eW ns q o5 o7 o8 o9 (some (.sh (.int tm))) (some (oSt [])) (some (lstF ([q.s, q.b, q.et, tm, q.wt, q.ft, q.wa].map fun n : Nat => D.int n))) none none none none none none) = .nx (eW ns q o5 o7 o8 o9 (some (.sh (.int tm))) (some (oSt st)) (some (.sh (q.at tm).nums)) none none none none none none) := by
      show forS _ _ _ _ _ (frz [12] _) = _
      rw [show frz [12] (eW ns q o5 o7 o8 o9 (some (.sh (.int tm))) (some (oSt [])) (some (lstF ([q.s, q.b, q.et, tm, q.wt, q.ft, q.wa].map fun n : Nat => D.int n))) none none none none none none) = eW ns q o5 o7 o8 o9 (some (.sh (.int tm))) (some (oSt [])) (some (.sh (lstF ([q.s, q.b, q.et, tm, q.wt, q.ft, q.wa].map fun n : Nat => D.int n)).er)) none none none none none none from rfl, er_lstF]
      exact (forS_sh it rfl).trans e1
    have hnm : i < nmL.length := hi2
    obtain ⟨c0, hc0⟩ : ∃ c0, c0 = nmL[i] := ⟨_, rfl⟩
    have s14 : op2 dIx (var 2) (op2 dMod (opA dInt (aCons (erE (callE m__law_cell (aCons (var 0) (aCons (con (.int 5)) aNil)))) aNil)) (con (.int 3))) (eW ns q o5 o7 o8 o9 (some (.sh (.int tm))) (some (oSt st)) (some (.sh (q.at tm).nums)) none none none none none none) = .ok (.str c0) := by
      rw [hc0]
      exact ix_dS hnm rfl (op2_ok (cellI (ns := ns) 5 rfl) (b := .int 3) rfl ((dMod_i _ 3 (by decide)).trans (by rw [hi]; rfl)))
    have pre : ∀ (o : Out), ifS (tst (op2 dInD (var 14) (var 11))) (putS 11 [] (opA dMax (aCons (con (.int 0)) (aCons (op2 dSub (op2 dAdd (op2 dGetD (var 11) (var 14)) (op2 dMod (op2 dDiv (opA dInt (aCons (erE (callE m__law_cell (aCons (var 0) (aCons (con (.int 5)) aNil)))) aNil)) (con (.int 3))) (con (.int 3)))) (con (.int 1))) aNil))) (var 14)) nxS (eW ns q o5 o7 o8 o9 (some (.sh (.int tm))) (some (oSt st)) (some (.sh (q.at tm).nums)) none (some (.sh (.str c0))) none none none none) = o → s16 (eW ns q o5 o7 o8 o9 (some (.sh (.int tm))) (some (.dic [])) none none none none none none none) = o := fun o ho => by
      unfold s16
      rw [ifS_t t]
      refine (seqS_nx m1).trans ((seqS_nx m2).trans ((seqS_nx lp).trans ((seqS_nx ((setS_ok s14 rfl).trans ?_)).trans ho)))
      rfl
    have v11 : var 11 (eW ns q o5 o7 o8 o9 (some (.sh (.int tm))) (some (oSt st)) (some (.sh (q.at tm).nums)) none (some (.sh (.str c0))) none none none none) = .ok (sD st) := by rw [← oSt_er]; rfl
    have dn : dInD (.str c0) (sD st) = some (.bl ((st.map fun x => (D.str x.1, D.int x.2)).any fun q => keq (ks c0) q.1)) := by
      unfold dInD sD
      simp only
      rw [kOf_str]
    have t2 := tst_ok (op2_ok (g := dInD) (f1 := var 14) (a := .str c0) rfl v11 dn)
    cases ha : (st.map fun x => (D.str x.1, D.int x.2)).any fun q => keq (ks c0) q.1 with
    | false =>
      rw [ha] at t2
      exact ⟨st, some (.sh (q.at tm).nums), some (.sh (.str c0)), ⟨by have := hst2.len; omega, hst2.nn⟩, pre _ ((ifS_f t2).trans rfl)⟩
    | true =>
      rw [ha] at t2
      obtain ⟨x, hx, hx2⟩ := List.any_eq_true.mp ha
      obtain ⟨y, hy, rfl⟩ := List.mem_map.mp hx
      have hx2 : keq (ks c0) (.str y.1) = true := hx2
      rw [keq_ks] at hx2
      have hcy := of_decide_eq_true hx2
      obtain ⟨n, hn⟩ : ∃ n, (st.find? fun y => decide (c0 = y.1)).map (·.2) = some n := by
        cases hf : st.find? fun y => decide (c0 = y.1) with
        | none => exact absurd (List.find?_eq_none.mp hf y hy) (by simp [hcy])
        | some z => exact ⟨z.2, rfl⟩
      have g : op2 dGetD (var 11) (var 14) (eW ns q o5 o7 o8 o9 (some (.sh (.int tm))) (some (oSt st)) (some (.sh (q.at tm).nums)) none (some (.sh (.str c0))) none none none none) = .ok (.int n) := op2_ok v11 (b := .str c0) rfl (by
        unfold dGetD sD
        simp only
        rw [kOf_str]
        simp only
        rw [find_st, hn]; rfl)
      obtain ⟨st', e', h'⟩ := put_st (c := c0) (n := max 0 (n + ns.getD 5 0 / 3 % 3 - 1)) hst2 (by omega)
      refine ⟨st', some (.sh (q.at tm).nums), some (.sh (.str c0)), ⟨by have := h'.len; omega, h'.nn⟩, pre _ ((ifS_t t2).trans ?_)⟩
      refine (putS_ok (kvs := st.map fun x => (D.str x.1, OD.sh (.int x.2))) (c := c0) (d := .int (max 0 (n + ns.getD 5 0 / 3 % 3 - 1))) (opA_args (ds := [.int 0, .int (n + ns.getD 5 0 / 3 % 3 - 1)]) ?_ ?_) rfl rfl rfl (by rw [List.length_map]; have := hst2.len; omega)).trans ?_
      · exact args2 (a := .int 0) rfl (op2_ok (a := .int (n + ns.getD 5 0 / 3 % 3)) (op2_ok g (op2_ok (op2_ok (cellI (ns := ns) 5 rfl) (b := .int 3) rfl (dDiv_i _ 3 (by decide) (by decide))) (b := .int 3) rfl (dMod_i _ 3 (by decide))) (dAdd_int _ _)) (b := .int 1) rfl rfl)
      · rfl
      · rw [e']; rfl
end
end K25
set_option Elab.async false
set_option linter.all false
set_option maxRecDepth 100000
set_option maxHeartbeats 0
namespace K25
open PySem L2 DL DLC
section
variable {ns : List Int} {q : Pl} {o5 o7 o8 o9 o10 o12 o14 : Option OD} {st : List (List Nat × Int)}
theorem len_en (k : Nat) : decide ((((kF q.L).filter fun c => decide (sg st c < (q.sm k c : Int))).length : Int) = 0) = enB q st k := by
  rw [Bool.eq_iff_iff, decide_eq_true_iff]
  unfold enB
  rw [List.all_eq_true]
  constructor
  · intro hl c hc
    have hz : ((kF q.L).filter fun c => decide (sg st c < (q.sm k c : Int))) = [] := List.length_eq_zero_iff.mp (by omega)
    have := List.filter_eq_nil_iff.mp hz c hc
    have := of_decide_eq_false (Bool.eq_false_iff.mpr this)
    exact decide_eq_true (by omega)
  · intro h
    have : ((kF q.L).filter fun c => decide (sg st c < (q.sm k c : Int))) = [] := List.filter_eq_nil_iff.mpr fun c hc => by
      have := of_decide_eq_true (h c hc)
      rw [decide_eq_false (by omega)]; simp
    rw [this]; rfl
theorem l2_ok (h : q.Ok) {k b : Nat} (hk : k ≤ 1000) : l2_law (eW ns q o5 o7 o8 o9 o10 (some (oSt st)) o12 none o14 (some (.sh (.int b))) (some (.sh (.int k))) none none) = .nx (eW ns q o5 o7 o8 o9 o10 (some (oSt st)) (some (.sh (q.at k).nums)) none o14 (some (.sh (.int (if enB q st k = true then k else b : Nat)))) (some (.sh (.int k))) none none) := by
  have hq := h.at (t := k) hk
  have hl := L_len hq
  obtain ⟨m1, m2⟩ := more_ok (q := q) (k := 16) (t := k) (E := [16]) (ρ := eW ns q o5 o7 o8 o9 o10 (some (oSt st)) o12 none o14 (some (.sh (.int b))) (some (.sh (.int k))) none none) rfl rfl rfl (by show 12 < 21; decide) rfl rfl
  unfold l2_law
  refine (seqS_nx m1).trans ((seqS_nx m2).trans ?_)
  show ifS _ _ _ (frz [12] _) = _
  rw [show frz [12] ((eW ns q o5 o7 o8 o9 o10 (some (oSt st)) o12 none o14 (some (.sh (.int b))) (some (.sh (.int k))) none none).set 12 (some (lstF ([q.s, q.b, q.et, k, q.wt, q.ft, q.wa].map fun n : Nat => D.int n)))) = eW ns q o5 o7 o8 o9 o10 (some (oSt st)) (some (.sh (lstF ([q.s, q.b, q.et, k, q.wt, q.ft, q.wa].map fun n : Nat => D.int n)).er)) none o14 (some (.sh (.int b))) (some (.sh (.int k))) none none from rfl, er_lstF]
  show ifS _ _ _ (eW ns q o5 o7 o8 o9 o10 (some (oSt st)) (some (.sh (q.at k).nums)) none o14 (some (.sh (.int b))) (some (.sh (.int k))) none none) = _
  have yl := erC (m := m__law_yarn) (fa := aCons (var 1) (aCons (var 3) (aCons (var 4) (aCons (var 12) aNil)))) (ρ := eW ns q o5 o7 o8 o9 o10 (some (oSt st)) (some (.sh (q.at k).nums)) none o14 (some (.sh (.int b))) (some (.sh (.int k))) none none) (d := .tup [.int ((q.at k).wide : Nat), .int ((q.at k).long (q.at k).pt : Nat), rows (q.at k) (q.at k).pt]) (aC rfl (aC rfl (aC rfl (aC rfl rfl)))) (lawyarn_ok hq) rfl
  have it := itL (xs := (kF q.L).map fun c => .tup [.str c, .int (q.sm k c : Nat)]) (op2_ok (g := dIx) yl (f2 := con (.int 2)) (b := .int 2) rfl rfl)
  have lc := lcE_eq (kF q.L) (fun c => D.tup [.str c, .int (q.sm k c : Nat)]) (fun c => decide (sg st c < (q.sm k c : Int))) (fun c => D.tup [.str c, .int (q.sm k c : Nat)]) (Ee := (([1] ++ ([3] ++ ([4] ++ ([12] ++ [])))) ++ [])) (vs := [13]) (bnd := bName 13) (t := tst (op2 dGt (op2 dIx (var 13) (con (.int 1))) (getE2 (var 11) (op2 dIx (var 13) (con (.int 0))) (con (.int 0))))) (f := var 13) (ρ := eW ns q o5 o7 o8 o9 o10 (some (oSt st)) (some (.sh (q.at k).nums)) none o14 (some (.sh (.int b))) (some (.sh (.int k))) none none) it (by rw [show allSh (([1] ++ ([3] ++ ([4] ++ ([12] ++ [])))) ++ []) (eW ns q o5 o7 o8 o9 o10 (some (oSt st)) (some (.sh (q.at k).nums)) none o14 (some (.sh (.int b))) (some (.sh (.int k))) none none) = true from rfl, Bool.or_true]) (by have : (kF q.L).length ≤ 120 := hl; omega) fun c hc => by
    rw [bName, bk_some]
    refine ⟨tst_ok (op2_ok (op2_ok (a := .tup [.str c, .int (q.sm k c : Nat)]) (b := .int 1) rfl rfl rfl) (get_sD (st := st) (c := c) ?_ (op2_ok (a := .tup [.str c, .int (q.sm k c : Nat)]) (b := .int 0) rfl rfl rfl)) (dGt_int _ _)), fun _ => rfl⟩
    rw [← oSt_er]; rfl
  have ln := lenA (n := ((kF q.L).filter fun c => decide (sg st c < (q.sm k c : Int))).length) ((erE_ok lc).trans (congrArg R.ok (er_lstF _))) (by rw [List.length_map])
  have t := tst_ok (op2_ok (g := dEq) ln (f2 := con (.int 0)) (b := .int 0) rfl (dEq_int _ _))
  rw [len_en] at t
  cases e : enB q st k with
  | true => rw [e] at t; rw [if_pos rfl]; exact (ifS_t t).trans rfl
  | false => rw [e] at t; rw [if_neg (by simp)]; exact (ifS_f t).trans rfl
def bs (q : Pl) (st : List (List Nat × Int)) (pre : List Nat) : Nat := pre.foldl (fun b k => if enB q st k = true then k else b) 0
theorem bs_snoc (pre : List Nat) (k : Nat) : bs q st (pre ++ [k]) = if enB q st k = true then k else bs q st pre := by unfold bs; rw [List.foldl_append]; rfl
theorem upto_succ (n : Nat) : upto (n + 1) = upto n ++ [n + 1] := by unfold upto; rw [List.range_succ, List.map_append]; rfl
theorem bs_prop : ∀ n : Nat, (bs q st (upto n) = 0 ∨ enB q st (bs q st (upto n)) = true) ∧ (∀ k, 1 ≤ k → k ≤ n → enB q st k = true → k ≤ bs q st (upto n)) ∧ bs q st (upto n) ≤ n
  | 0 => ⟨.inl rfl, fun k h1 h2 => by omega, Nat.le_refl _⟩
  | n + 1 => by
    obtain ⟨i1, i2, i3⟩ := bs_prop n
    rw [upto_succ, bs_snoc]
    cases e : enB q st (n + 1) with
    | true => rw [if_pos rfl]; exact ⟨.inr e, fun k _ h2 _ => h2, Nat.le_refl _⟩
    | false =>
      rw [if_neg (by simp)]
      refine ⟨i1, fun k h1 h2 h3 => ?_, by omega⟩
      by_cases z : k = n + 1
      · subst z; rw [e] at h3; cases h3
      · exact i2 k h1 (by omega) h3
theorem best_loop (h : q.Ok) : forS [] [12, 13, 16] (bName 16) (rgE rgF2 (aCons (con (.int 1)) (aCons (con (.int 40)) aNil))) l2_law (eW ns q o5 o7 o8 o9 o10 (some (oSt st)) o12 none o14 (some (.sh (.int (0 : Nat)))) none none none) = .nx (eW ns q o5 o7 o8 o9 o10 (some (oSt st)) none none o14 (some (.sh (.int (bs q st (upto 39) : Nat)))) none none none) := by
  have rg : rgE rgF2 (aCons (con (.int 1)) (aCons (con (.int 40)) aNil)) (eW ns q o5 o7 o8 o9 o10 (some (oSt st)) o12 none o14 (some (.sh (.int (0 : Nat)))) none none none) = .ok ((upto 39).map fun n : Nat => D.int n) := by
    unfold rgE
    rw [args2 (a := .int ((1 : Nat) : Int)) (b := .int ((40 : Nat) : Int)) rfl rfl, R.bind_ok, rgF2, rngOk_nat (by omega), rngOk_nat (by omega), Bool.and_self, if_pos rfl]
    rfl
  rw [forS_fl rg (fl_nats _)]
  have := loop_pre (fg := [12, 13, 16]) (bnd := bName 16) (body := l2_law) (fun n : Nat => D.int n) (fun pre => eW ns q o5 o7 o8 o9 o10 (some (oSt st)) (match pre with | [] => o12 | _ :: _ => none) none o14 (some (.sh (.int (bs q st pre : Nat)))) none none none) (upto 39) fun pre k post e => by
    have hk : k ≤ 39 := (mem_upto.mp (by rw [e]; simp)).2
    refine ⟨_, _, rfl, l2_ok (o12 := match pre with | [] => o12 | _ :: _ => none) (b := bs q st pre) h (k := k) (by omega), ?_⟩
    show fgt [12, 13, 16] _ = _
    rw [bs_snoc]
    cases pre <;> rfl
  exact this
theorem great_best (h : q.Ok) (hk : Sk st 50) : ∃ r : Nat, m_greatest_times [q.obj, sD st] = .ok (.sh (.int r)) ∧ (bs q st (upto 39) < 39 → r = bs q st (upto 39)) := by
  obtain ⟨r, e, p1, p2, p3⟩ := great_ok h (by have := hk.len; omega) hk.nn
  refine ⟨r, e, fun hb => ?_⟩
  obtain ⟨b1, b2, b3⟩ := bs_prop (q := q) (st := st) 39
  generalize bs q st (upto 39) = b at b1 b2 b3 hb ⊢
  rcases Nat.lt_trichotomy r b with z | z | z
  · have e1 : enB q st b = true := b1.resolve_left (by omega)
    have e2 : enB q st (r + 1) = false := p2.resolve_left (by omega)
    rw [en_mono h (by omega) e1] at e2
    cases e2
  · exact z
  · have e1 : enB q st r = true := p1.resolve_left (by omega)
    have := b2 (b + 1) (by omega) (by omega) (en_mono h (by omega) e1)
    omega
def bigSt : List (List Nat × Int) := [([114, 101, 100], 1000000000000000), ([98, 108, 117, 101], 1000000000000000), ([103, 111, 108, 100], 1000000000000000)]
theorem big_ok (h : q.Ok) (hm : ∀ c ∈ q.L, c ∈ nmL) : m_greatest_times [q.obj, sD bigSt] = .ok (.sh (.int ((1000 : Nat) : Int))) := by
  obtain ⟨r, e, p1, p2, p3⟩ := great_ok (q := q) (st := bigSt) h (by decide) (by
    intro x hx
    unfold bigSt at hx
    simp only [List.mem_cons, List.not_mem_nil, or_false] at hx
    rcases hx with rfl | rfl | rfl <;> decide)
  have all : ∀ u, u ≤ 1001 → enB q bigSt u = true := fun u hu => by
    unfold enB
    rw [List.all_eq_true]
    intro c hc
    have hc' := hm c ((kF_mem _ _).mp hc)
    have hs : sg bigSt c = 1000000000000000 := by
      unfold nmL at hc'
      simp only [List.mem_cons, List.not_mem_nil, or_false] at hc'
      rcases hc' with rfl | rfl | rfl <;> rfl
    rw [hs]
    refine decide_eq_true ?_
    have ca : q.A.count c ≤ 60 := Nat.le_trans List.count_le_length h.A
    have cb : q.B.count c ≤ 60 := Nat.le_trans List.count_le_length h.B
    have hf := fin_b h hu
    have hp := pick_b h
    have m1 : q.A.count c * (q.fin u * q.et) ≤ 60 * (1505000 * 1000) := Nat.mul_le_mul ca (Nat.mul_le_mul hf h.et)
    have m2 : q.B.count c * (q.pick * u) ≤ 60 * (1500000 * 1001) := Nat.mul_le_mul cb (Nat.mul_le_mul hp hu)
    unfold Pl.sm
    omega
  have : r = 1000 := by
    rcases p2 with z | z
    · exact z
    · rw [all (r + 1) (by omega)] at z; cases z
  subst this
  exact e
end
end K25
set_option Elab.async false
set_option linter.all false
set_option maxRecDepth 100000
set_option maxHeartbeats 0
namespace K25
open PySem L2 DL DLC
theorem dS_dt (A : List (List Nat)) : (dS A).dt 20 = true := (enc_lst (enc_str 19)).1 A
theorem dS_dt19 (A : List (List Nat)) : (dS A).dt 19 = true := (enc_lst (enc_str 18)).1 A
theorem rows_dt (q : Pl) (t : Nat) : (rows q t).dt 20 = true := by
  unfold rows
  rw [show (20 : Nat) = 19 + 1 from rfl, D.dt_lst, List.all_eq_true]
  intro x hx
  obtain ⟨y, _, rfl⟩ := List.mem_map.mp hx
  rw [show (19 : Nat) = 18 + 1 from rfl, D.dt_tup]; simp
theorem itS {f : En → R D} {ρ : En} {s : List Nat} (h : f ρ = .ok (.str s)) : itE f ρ = .ok (s.map fun c => D.str [c]) := by unfold itE; rw [h]; rfl
theorem fl_dS {i : Nat} {ρ : En} {X : List (List Nat)} (hv : var i ρ = .ok (dS X)) : erE (opAF fList (aCons (var i) aNil)) ρ = .ok (dS X) := (erE_ok (opAF_ok (a := dS X) hv rfl)).trans (congrArg R.ok (er_lstF _))
theorem pick_names {ρ : En} {Ee : List Nat} {it : En → R D} {xs : List Nat} (h : it ρ = .ok (nL xs)) (hx : ∀ x ∈ xs, x < 3) (hl : xs.length ≤ 1000) (h2 : ∀ o, var 2 ((fgt [19] ρ).set 19 o) = .ok (dS nmL)) (hj : 19 < ρ.length) : lcE Ee [19] (bName 19) (itE it) tYesD (op2 dIx (var 2) (var 19)) ρ = .ok (lstF ((xs.map fun x => nmL.getD x []).map D.str)) := by
  have q := lcE_map xs (fun n : Nat => D.int n) (fun x => D.str (nmL.getD x [])) (Ee := Ee) (vs := [19]) (bnd := bName 19) (it := itE it) (f := op2 dIx (var 2) (var 19)) (ρ := ρ) (itL h) (by rw [fl_nats]; rfl) (by omega) fun x hx' => by
    rw [bName, bk_some]
    have h3 : x < nmL.length := hx x hx'
    have e : nmL[x] = nmL.getD x [] := by simp [List.getD, List.getElem?_eq_getElem h3]
    rw [← e]
    refine ix_dS h3 (h2 _) ?_
    unfold var
    rw [List.getElem?_set_self (by unfold fgt; rw [fgt1_len]; exact hj)]; rfl
  rw [q, List.map_map]; rfl
theorem three {α : Type} (xs : List α) : D.lst (xs.map fun _ => D.int 3) = nL (List.replicate xs.length 3) := by
  unfold nL
  rw [List.map_const', List.map_replicate]; rfl
theorem nm_mem {xs : List Nat} (hx : ∀ x ∈ xs, x < 3) : ∀ c ∈ xs.map (fun x => nmL.getD x []), c ∈ nmL := by
  intro c hc
  obtain ⟨x, hx', rfl⟩ := List.mem_map.mp hc
  have h3 : x < nmL.length := hx x hx'
  have e : nmL[x] = nmL.getD x [] := by simp [List.getD, List.getElem?_eq_getElem h3]
  rw [← e]
  exact List.getElem_mem h3
def e6 (ns : List Int) (o1 o2 o3 o4 o5 o6 : Option OD) : En := [some (.sh (.scr ns)), o1, o2, o3, o4, o5, o6, none, none, none, none, none, none, none, none, none, none, none, none, none, none]
def badL : List Int := [9, 401, 0, 1001, 501, -1, 5001]
theorem bad_chk {q : Pl} (h : q.Ok) (he : 1 ≤ q.et) (hp : 1 ≤ q.pt) : ∀ i, i < 7 → ∃ (n0 n1 n2 n3 n4 n5 n6 v : Int), (([(q.s : Int), q.b, q.et, q.pt, q.wt, q.ft, q.wa].take i ++ [badL.getD i 0]) ++ List.replicate (6 - i) (-7)) = [n0, n1, n2, n3, n4, n5, n6] ∧ chk7 n0 n1 n2 n3 n4 n5 n6 = some v ∧ v = badL.getD i 0 := by
  have a0 : badO 10 400 (q.s : Int) = none := badO_n (by have := h.s1; omega) (by have := h.s2; omega)
  have a1 : badO 10 400 (q.b : Int) = none := badO_n (by have := h.b1; omega) (by have := h.b2; omega)
  have a2 : badO 1 1000 (q.et : Int) = none := badO_n (by omega) (by have := h.et; omega)
  have a3 : badO 1 1000 (q.pt : Int) = none := badO_n (by omega) (by have := h.pt; omega)
  have a4 : badO 0 500 (q.wt : Int) = none := badO_n (by omega) (by have := h.wt; omega)
  have a5 : badO 0 500 (q.ft : Int) = none := badO_n (by omega) (by have := h.ft; omega)
  intro i hi
  match i, hi with
  | 0, _ => exact ⟨9, -7, -7, -7, -7, -7, -7, 9, rfl, by unfold chk7; rw [badO_s (show (9 : Int) < 10 ∨ 400 < (9 : Int) by omega)]; rfl, rfl⟩
  | 1, _ => exact ⟨q.s, 401, -7, -7, -7, -7, -7, 401, rfl, by unfold chk7; rw [a0, badO_s (show (401 : Int) < 10 ∨ 400 < (401 : Int) by omega)]; rfl, rfl⟩
  | 2, _ => exact ⟨q.s, q.b, 0, -7, -7, -7, -7, 0, rfl, by unfold chk7; rw [a0, a1, badO_s (show (0 : Int) < 1 ∨ 1000 < (0 : Int) by omega)]; rfl, rfl⟩
  | 3, _ => exact ⟨q.s, q.b, q.et, 1001, -7, -7, -7, 1001, rfl, by unfold chk7; rw [a0, a1, a2, badO_s (show (1001 : Int) < 1 ∨ 1000 < (1001 : Int) by omega)]; rfl, rfl⟩
  | 4, _ => exact ⟨q.s, q.b, q.et, q.pt, 501, -7, -7, 501, rfl, by unfold chk7; rw [a0, a1, a2, a3, badO_s (show (501 : Int) < 0 ∨ 500 < (501 : Int) by omega)]; rfl, rfl⟩
  | 5, _ => exact ⟨q.s, q.b, q.et, q.pt, q.wt, -1, -7, -1, rfl, by unfold chk7; rw [a0, a1, a2, a3, a4, badO_s (show (-1 : Int) < 0 ∨ 500 < (-1 : Int) by omega)]; rfl, rfl⟩
  | 6, _ => exact ⟨q.s, q.b, q.et, q.pt, q.wt, q.ft, 5001, 5001, rfl, by unfold chk7; rw [a0, a1, a2, a3, a4, a5, badO_s (show (5001 : Int) < 0 ∨ 5000 < (5001 : Int) by omega)]; rfl, rfl⟩
end K25
set_option Elab.async false
set_option linter.all false
set_option maxRecDepth 100000
set_option maxHeartbeats 0
namespace K25
open PySem L2 DL DLC
theorem numsI (q : Pl) : q.nums = .lst ([(q.s : Int), q.b, q.et, q.pt, q.wt, q.ft, q.wa].map D.int) := rfl
theorem spoilt_ok {ρ : En} {q : Pl} {i : Nat} (hi : i < 7) (v6 : var 6 ρ = .ok q.nums) (v17 : var 17 ρ = .ok (iL badL)) (v14 : var 14 ρ = .ok (.int i)) : op2 dAdd (op2 dAdd (sliceE (var 6) pN (pI (var 14))) (erE (lstE (aCons (op2 dIx (var 17) (var 14)) aNil)))) (op2 dMul (erE (lstE (aCons (op1 dNeg (con (.int 7))) aNil))) (op2 dSub (con (.int 6)) (var 14))) ρ = .ok (iL (([(q.s : Int), q.b, q.et, q.pt, q.wt, q.ft, q.wa].take i ++ [badL.getD i 0]) ++ List.replicate (6 - i) (-7))) := by
  have a := sl_to (xs := [(q.s : Int), q.b, q.et, q.pt, q.wt, q.ft, q.wa].map D.int) (v6.trans (congrArg R.ok (numsI q))) v14 (by omega) (by simp; omega)
  rw [Int.toNat_natCast, ← List.map_take] at a
  have hb : i < (badL.map D.int).length := hi
  have ib : op2 dIx (var 17) (var 14) ρ = .ok (.int (badL.getD i 0)) := op2_ok v17 v14 (by
    show L2.atI (badL.map D.int) (i : Int) = _
    rw [atI_nat _ _ hb]
    have hb2 : i < badL.length := hi
    simp [List.getD, List.getElem?_eq_getElem hb2])
  have b : erE (lstE (aCons (op2 dIx (var 17) (var 14)) aNil)) ρ = .ok (.lst ([badL.getD i 0].map D.int)) := by
    have : lstE (aCons (op2 dIx (var 17) (var 14)) aNil) ρ = .ok (lstF ([badL.getD i 0].map D.int)) := by
      unfold lstE
      rw [aC ib (show aNil _ = R.ok [] from rfl)]; rfl
    exact (erE_ok this).trans (congrArg R.ok (er_lstF _))
  have c : op2 dMul (erE (lstE (aCons (op1 dNeg (con (.int 7))) aNil))) (op2 dSub (con (.int 6)) (var 14)) ρ = .ok (.lst ((List.replicate (6 - i) (-7 : Int)).map D.int)) := by
    refine op2_ok (a := .lst [.int (-7)]) rfl (op2_ok (a := .int 6) rfl v14 (d := .int ((6 - i : Nat) : Int)) (by rw [show ((6 - i : Nat) : Int) = (6 : Int) - (i : Int) by omega]; rfl)) ?_
    rw [dMul_lst, if_pos (by rw [Int.toNat_natCast, Bool.and_eq_true, Bool.and_eq_true]; exact ⟨by unfold okSz; exact decide_eq_true (by simp; omega), decide_eq_true (by omega), decide_eq_true (by omega)⟩), Int.toNat_natCast, List.map_replicate]
    congr 2
    have : ∀ n : Nat, (List.replicate n [D.int (-7)]).flatten = List.replicate n (D.int (-7)) := fun n => by
      induction n with
      | zero => rfl
      | succ n ih => rw [List.replicate_succ, List.flatten_cons, ih, List.replicate_succ]; rfl
    exact this _
  refine op2_ok (op2_ok a b (dAdd_lst _ _ |>.trans (if_pos (by unfold okSz; exact decide_eq_true (by simp; omega))))) c ?_
  rw [dAdd_lst, if_pos (by unfold okSz; exact decide_eq_true (by simp; omega)), ← List.map_append, ← List.map_append]; rfl
end K25
set_option Elab.async false
set_option linter.all false
set_option maxRecDepth 100000
set_option maxHeartbeats 0
namespace K25
open PySem L2 DL DLC
theorem lstE_ok {fa : En → R (List D)} {ρ : En} {ds : List D} (h : fa ρ = .ok ds) (hl : okSz ds.length = true) : erE (lstE fa) ρ = .ok (.lst ds) := by
  have : lstE fa ρ = .ok (lstF ds) := by unfold lstE; rw [h, R.bind_ok, if_pos hl]
  exact (erE_ok this).trans (congrArg R.ok (er_lstF _))
theorem law_true (ns : List Int) : m_law [.scr ns] = .ok (.sh (.bl true)) := by
  refine mOf_Rt (ρ0 := e6 ns none none none none none none) rfl rfl ?_
  unfold b_law
  obtain ⟨p, e, C, cA, hC, h1, h2, h3, h4⟩ := lw_cloth (ρ := e6 ns none none none none none none) (ns := ns) 0 5 5 (by decide) (by decide) rfl
  refine rt_seq (ρ' := e6 ns (some (.sh (dS C))) none none none none none) ((setS_sh (show erE _ _ = .ok (dS C) from (erE_ok cA).trans (by rw [oS_er])) rfl).trans rfl) ?_
  refine rt_seq (ρ' := e6 ns (some (.sh (dS C))) (some (.sh (dS nmL))) none none none none) ((setS_sh (d := dS nmL) rfl rfl).trans rfl) ?_
  have h0 : 0 < C.length := by rw [hC.len]; exact h1
  have hr := hC.row _ (List.getElem_mem h0)
  -- warp
  have lq := lcE_map C[0] (fun c => D.str [c]) (fun _ => D.int 3) (Ee := [1] ++ []) (vs := [20]) (bnd := bName 20) (it := itE (op2 dIx (var 1) (con (.int 0)))) (f := con (.int 3)) (ρ := e6 ns (some (.sh (dS C))) (some (.sh (dS nmL))) none none none none) (itS (ix_dS h0 (f := var 1) (k := 0) (g := con (.int 0)) rfl rfl)) (by rw [show allSh ([1] ++ []) (e6 ns (some (.sh (dS C))) (some (.sh (dS nmL))) none none none none) = true from rfl, Bool.or_true]) (by omega) fun c hc => by rw [bName, bk_some]; rfl
  have l1 := (erE_ok lq).trans (congrArg R.ok (er_lstF _))
  rw [three, hr] at l1
  obtain ⟨xs, ex, lx, bx⟩ := drawr_ok (ρ := e6 ns (some (.sh (dS C))) (some (.sh (dS nmL))) none none none none) (c := ns.getD 1 0) (l := 3) (n := e) (args2 (cell_ok (ns := ns) 1 rfl) l1) (by omega) (by omega)
  have q3 := pick_names (Ee := (([0] ++ ([] ++ [])) ++ ([] ++ []))) ex bx (by omega) (fun _ => rfl) (by show 19 < 21; decide)
  obtain ⟨A, eA, hA, hAm⟩ : ∃ A : List (List Nat), A = xs.map (fun x => nmL.getD x []) ∧ A.length = e ∧ ∀ c ∈ A, c ∈ nmL := ⟨_, rfl, by rw [List.length_map]; exact lx, nm_mem bx⟩
  rw [← eA] at q3
  refine rt_seq (ρ' := e6 ns (some (.sh (dS C))) (some (.sh (dS nmL))) (some (.sh (dS A))) none none none) ((shSet q3 rfl).trans (by rw [er_lstF]; rfl)) ?_
  -- weft
  have lq2 := lcE_map C D.str (fun _ => D.int 3) (Ee := [1]) (vs := [13]) (bnd := bName 13) (it := itE (var 1)) (f := con (.int 3)) (ρ := e6 ns (some (.sh (dS C))) (some (.sh (dS nmL))) (some (.sh (dS A))) none none none) (it_v rfl) (by rw [flat_strs]; rfl) (by rw [hC.len]; omega) fun c hc => by rw [bName, bk_some]; rfl
  have l2 := (erE_ok lq2).trans (congrArg R.ok (er_lstF _))
  rw [three, hC.len] at l2
  obtain ⟨ys, ey, ly, by_⟩ := drawr_ok (ρ := e6 ns (some (.sh (dS C))) (some (.sh (dS nmL))) (some (.sh (dS A))) none none none) (c := ns.getD 2 0) (l := 3) (n := p) (args2 (cell_ok (ns := ns) 2 rfl) l2) (by omega) (by omega)
  have q4 := pick_names (Ee := (([0] ++ ([] ++ [])) ++ ([] ++ []))) ey by_ (by omega) (fun _ => rfl) (by show 19 < 21; decide)
  obtain ⟨B, eB, hB, hBm⟩ : ∃ B : List (List Nat), B = ys.map (fun x => nmL.getD x []) ∧ B.length = p ∧ ∀ c ∈ B, c ∈ nmL := ⟨_, rfl, by rw [List.length_map]; exact ly, nm_mem by_⟩
  rw [← eB] at q4
  refine rt_seq (ρ' := e6 ns (some (.sh (dS C))) (some (.sh (dS nmL))) (some (.sh (dS A))) (some (.sh (dS B))) none none) ((shSet q4 rfl).trans (by rw [er_lstF]; rfl)) ?_
  -- numbers
  obtain ⟨rs, er, lr, br⟩ := draw_ok (fa := aCons (erE (callE m__law_cell (aCons (var 0) (aCons (con (.int 3)) aNil)))) (aCons (erE (lstE (aCons (con (.int 391)) (aCons (con (.int 391)) (aCons (con (.int 9)) (aCons (con (.int 9)) (aCons (con (.int 501)) (aCons (con (.int 501)) (aCons (con (.int 5001)) aNil))))))))) aNil)) (ρ := e6 ns (some (.sh (dS C))) (some (.sh (dS nmL))) (some (.sh (dS A))) (some (.sh (dS B))) none none) (c := ns.getD 3 0) (ls := [391, 391, 9, 9, 501, 501, 5001]) (args2 (cell_ok (ns := ns) 3 rfl) rfl) (by
    intro l hl
    simp only [List.mem_cons, List.not_mem_nil, or_false] at hl
    rcases hl with rfl | rfl | rfl | rfl | rfl | rfl | rfl <;> omega) (by simp)
  obtain ⟨r0, r1, r2, r3, r4, r5, r6, rfl⟩ : ∃ a b c d e f g, rs = [a, b, c, d, e, f, g] := by
    match rs, lr with
    | [a, b, c, d, e, f, g], _ => exact ⟨a, b, c, d, e, f, g, rfl⟩
  have c0 : r0 < 391 := br 0 (by simp) (by simp)
  have c1 : r1 < 391 := br 1 (by simp) (by simp)
  have c2 : r2 < 9 := br 2 (by simp) (by simp)
  have c3 : r3 < 9 := br 3 (by simp) (by simp)
  have c4 : r4 < 501 := br 4 (by simp) (by simp)
  have c5 : r5 < 501 := br 5 (by simp) (by simp)
  have c6 : r6 < 5001 := br 6 (by simp) (by simp)
  refine rt_seq (ρ' := e6 ns (some (.sh (dS C))) (some (.sh (dS nmL))) (some (.sh (dS A))) (some (.sh (dS B))) (some (.sh (nL [r0, r1, r2, r3, r4, r5, r6]))) none) ((setS_sh er rfl).trans rfl) ?_
  obtain ⟨q, hq⟩ : ∃ q : Pl, q = ⟨C, A, B, 10 + r0, 10 + r1, 1 + r2, 1 + r3, r4, r5, r6⟩ := ⟨_, rfl⟩
  have h : q.Ok := by rw [hq]; exact ⟨by show A.length ≤ 60; omega, by show B.length ≤ 60; omega, by show 10 ≤ 10 + r0; omega, by show 10 + r0 ≤ 400; omega, by show 10 ≤ 10 + r1; omega, by show 10 + r1 ≤ 400; omega, by show 1 + r2 ≤ 1000; omega, by show 1 + r3 ≤ 1000; omega, by show r4 ≤ 500; omega, by show r5 ≤ 500; omega, by show r6 ≤ 5000; omega⟩
  have het : 1 ≤ q.et ∧ q.et ≤ 9 := by rw [hq]; show 1 ≤ 1 + r2 ∧ 1 + r2 ≤ 9; omega
  have hpt : 1 ≤ q.pt ∧ q.pt ≤ 9 := by rw [hq]; show 1 ≤ 1 + r3 ∧ 1 + r3 ≤ 9; omega
  have hm : ∀ c ∈ q.L, c ∈ nmL := by
    rw [hq]
    intro c hc
    rcases List.mem_append.mp hc with hc | hc
    · exact hAm c hc
    · exact hBm c hc
  have h10 : q.L.length ≤ 10 := by
    rw [hq]
    show (A ++ B).length ≤ 10
    rw [List.length_append]; omega
  have hqC : q.C = C := by rw [hq]
  have hqA : q.A = A := by rw [hq]
  have hqB : q.B = B := by rw [hq]
  have k : ∀ (a r : Nat) (k : Nat), op2 dIx (var 5) (con (.int k)) (e6 ns (some (.sh (dS C))) (some (.sh (dS nmL))) (some (.sh (dS A))) (some (.sh (dS B))) (some (.sh (nL [r0, r1, r2, r3, r4, r5, r6]))) none) = .ok (.int r) → op2 dAdd (con (.int a)) (op2 dIx (var 5) (con (.int k))) (e6 ns (some (.sh (dS C))) (some (.sh (dS nmL))) (some (.sh (dS A))) (some (.sh (dS B))) (some (.sh (nL [r0, r1, r2, r3, r4, r5, r6]))) none) = .ok (.int ((a + r : Nat) : Int)) := fun a r k hk => op2_ok (a := .int a) rfl hk (by rw [dAdd_int, Int.natCast_add])
  have nu : erE (lstE (aCons (op2 dAdd (con (.int 10)) (op2 dIx (var 5) (con (.int 0)))) (aCons (op2 dAdd (con (.int 10)) (op2 dIx (var 5) (con (.int 1)))) (aCons (op2 dAdd (con (.int 1)) (op2 dIx (var 5) (con (.int 2)))) (aCons (op2 dAdd (con (.int 1)) (op2 dIx (var 5) (con (.int 3)))) (aCons (op2 dIx (var 5) (con (.int 4))) (aCons (op2 dIx (var 5) (con (.int 5))) (aCons (op2 dIx (var 5) (con (.int 6))) aNil)))))))) (e6 ns (some (.sh (dS C))) (some (.sh (dS nmL))) (some (.sh (dS A))) (some (.sh (dS B))) (some (.sh (nL [r0, r1, r2, r3, r4, r5, r6]))) none) = .ok q.nums := by
    have ar := aC (k 10 r0 0 rfl) (aC (k 10 r1 1 rfl) (aC (k 1 r2 2 rfl) (aC (k 1 r3 3 rfl) (aC (show op2 dIx (var 5) (con (.int 4)) (e6 ns (some (.sh (dS C))) (some (.sh (dS nmL))) (some (.sh (dS A))) (some (.sh (dS B))) (some (.sh (nL [r0, r1, r2, r3, r4, r5, r6]))) none) = .ok (.int r4) from rfl) (aC (show op2 dIx (var 5) (con (.int 5)) (e6 ns (some (.sh (dS C))) (some (.sh (dS nmL))) (some (.sh (dS A))) (some (.sh (dS B))) (some (.sh (nL [r0, r1, r2, r3, r4, r5, r6]))) none) = .ok (.int r5) from rfl) (aC (show op2 dIx (var 5) (con (.int 6)) (e6 ns (some (.sh (dS C))) (some (.sh (dS nmL))) (some (.sh (dS A))) (some (.sh (dS B))) (some (.sh (nL [r0, r1, r2, r3, r4, r5, r6]))) none) = .ok (.int r6) from rfl) (show aNil _ = R.ok [] from rfl)))))))
    rw [hq]
    exact lstE_ok ar rfl
  refine rt_seq (ρ' := eW ns q (some (.sh (nL [r0, r1, r2, r3, r4, r5, r6]))) none none none none none none none none none none none none) ((setS_sh nu rfl).trans (by unfold eW; rw [hqC, hqA, hqB]; rfl)) ?_
  rw [← hqC] at hC
  rw [← hqA] at hA
  rw [← hqB] at hB
  clear nu k er br lr eA eB q3 q4 ex ey l1 l2 lq lq2 cA hq hqC hqA hqB hAm hBm c0 c1 c2 c3 c4 c5 c6
  generalize some (OD.sh (nL [r0, r1, r2, r3, r4, r5, r6])) = o5
  -- told
  have F : ∀ {f : Str} {g : En → R D} {ρ : En} {d : D}, g ρ = .ok q.obj → fldO ["Plan"] f q.obj = some d → op1 (fldO ["Plan"] f) g ρ = .ok d := fun a b => fP a b
  have chk : chk7 q.s q.b q.et q.pt q.wt q.ft q.wa = none := by
    unfold chk7
    have := h.s1; have := h.s2; have := h.b1; have := h.b2; have := h.et; have := h.pt; have := h.wt; have := h.ft; have := h.wa
    rw [badO_n (by omega) (by omega), badO_n (by omega) (by omega), badO_n (by omega) (by omega), badO_n (by omega) (by omega), badO_n (by omega) (by omega), badO_n (by omega) (by omega), badO_n (by omega) (by omega)]; rfl
  have md : m__law_made [dS q.C, dS q.A, dS q.B, q.nums] = .ok (.sh (.tup [.str [118, 97, 108, 117, 101], q.obj])) := made_ok hC h1 (by omega) h3 (by omega) hA hB chk
  refine rt_seq (ρ' := eW ns q o5 (some (.sh (.tup [.str [118, 97, 108, 117, 101], q.obj]))) none none none none none none none none none none none) ((setS_sh (erC (aC (fl_dS rfl) (aC (fl_dS rfl) (aC (fl_dS rfl) (aC (a := q.nums) rfl (show aNil _ = R.ok [] from rfl))))) md rfl) rfl).trans rfl) ?_
  refine rt_seq (ρ' := eW ns q o5 (some (.sh (.tup [.str [118, 97, 108, 117, 101], q.obj]))) none none none none none none none none none none none) ((ifS_f (nes (d := .str [118, 97, 108, 117, 101]) rfl (op2_ok (a := .tup [.str [118, 97, 108, 117, 101], q.obj]) (b := .int 0) rfl rfl rfl) rfl)).trans rfl) ?_
  refine rt_seq (ρ' := eW ns q o5 (some (.sh (.tup [.str [118, 97, 108, 117, 101], q.obj]))) (some (.sh q.obj)) none none none none none none none none none none) ((setS_sh (d := q.obj) (op2_ok (a := .tup [.str [118, 97, 108, 117, 101], q.obj]) (b := .int 1) rfl rfl rfl) rfl).trans rfl) ?_
  generalize some (OD.sh (.tup [.str [118, 97, 108, 117, 101], q.obj])) = o7
  have d1 : (D.tup [dS q.C, dS q.A, dS q.B, .int q.s, .int q.b, .int q.et, .int q.pt]).dt 20 = true := by
    rw [show (20 : Nat) = 19 + 1 from rfl, D.dt_tup]; simp [dS_dt19]
  have ixn : ∀ {ρ : En}, var 3 ρ = .ok q.nums → True := fun _ => trivial
  have N : ∀ {ρ : En} (k n : Nat), var 6 ρ = .ok q.nums → L2.atI ([q.s, q.b, q.et, q.pt, q.wt, q.ft, q.wa].map fun n : Nat => D.int n) (k : Int) = some (.int (n : Nat)) → op2 dIx (var 6) (con (.int k)) ρ = .ok (.int n) := fun k n hv e => op2_ok hv (b := .int k) rfl e
  refine rt_seq (ρ' := eW ns q o5 o7 (some (.sh q.obj)) none none none none none none none none none none) ((ifS_f (nes d1 (tupA (aC (F rfl rfl) (aC (F rfl rfl) (aC (F rfl rfl) (aC (F rfl rfl) (aC (F rfl rfl) (aC (F rfl rfl) (aC (F rfl rfl) (show aNil _ = R.ok [] from rfl)))))))) (by simp)) (tupA (aC rfl (aC rfl (aC rfl (aC (N 0 q.s rfl rfl) (aC (N 1 q.b rfl rfl) (aC (N 2 q.et rfl rfl) (aC (N 3 q.pt rfl rfl) (show aNil _ = R.ok [] from rfl)))))))) (by simp)))).trans rfl) ?_
  have d2 : (D.tup [.int q.wt, .int q.ft, .int q.wa]).dt 20 = true := by
    rw [show (20 : Nat) = 19 + 1 from rfl, D.dt_tup]; simp
  refine rt_seq (ρ' := eW ns q o5 o7 (some (.sh q.obj)) none none none none none none none none none none) ((ifS_f (nes d2 (tupA (aC (F rfl rfl) (aC (F rfl rfl) (aC (F rfl rfl) (show aNil _ = R.ok [] from rfl)))) (by simp)) (tupA (aC (N 4 q.wt rfl rfl) (aC (N 5 q.ft rfl rfl) (aC (N 6 q.wa rfl rfl) (show aNil _ = R.ok [] from rfl)))) (by simp)))).trans rfl) ?_
  -- due
  refine rt_seq (ρ' := eW ns q o5 o7 (some (.sh q.obj)) (some (.sh (.tup [.int (q.wide : Nat), .int (q.long q.pt : Nat), rows q q.pt]))) none none none none none none none none none) ((setS_sh (erC (aC (a := dS q.C) rfl (aC (a := dS q.A) rfl (aC (a := dS q.B) rfl (aC (a := q.nums) rfl (show aNil _ = R.ok [] from rfl))))) (lawyarn_ok h) rfl) rfl).trans rfl) ?_
  obtain ⟨oy, ey, ey2⟩ := yarnof_ok h
  have wh : m__law_whole [.int (q.wide : Nat)] = .ok (.sh (.bl true)) := rfl
  have ix9 : ∀ (k : Int) (d : D), L2.atI [.int (q.wide : Nat), .int (q.long q.pt : Nat), rows q q.pt] k = some d → op2 dIx (var 9) (con (.int k)) (eW ns q o5 o7 (some (.sh q.obj)) (some (.sh (.tup [.int (q.wide : Nat), .int (q.long q.pt : Nat), rows q q.pt]))) none none none none none none none none none) = .ok d := fun k d e => op2_ok (a := .tup [.int (q.wide : Nat), .int (q.long q.pt : Nat), rows q q.pt]) (b := .int k) rfl rfl e
  have nw : notT (tst (erE (callE m__law_whole (aCons (erE (callE m_width_of (aCons (var 8) aNil))) aNil)))) (eW ns q o5 o7 (some (.sh q.obj)) (some (.sh (.tup [.int (q.wide : Nat), .int (q.long q.pt : Nat), rows q q.pt]))) none none none none none none none none none) = .ok false := by
    unfold notT
    rw [tst_ok (erC (m := m__law_whole) (args1 (erC (args1 (a := q.obj) rfl) (wide_ok h) rfl)) wh rfl)]; rfl
  refine rt_seq (ρ' := eW ns q o5 o7 (some (.sh q.obj)) (some (.sh (.tup [.int (q.wide : Nat), .int (q.long q.pt : Nat), rows q q.pt]))) none none none none none none none none none) ((ifS_f (orT_f (nes (d := .int (q.wide : Nat)) rfl (erC (args1 (a := q.obj) rfl) (wide_ok h) rfl) (ix9 0 _ rfl)) (orT_f (nes (d := .int (q.long q.pt : Nat)) rfl (erC (args1 (a := q.obj) rfl) (length_ok h) rfl) (ix9 1 _ rfl)) (orT_f nw (nes (rows_dt q q.pt) (erC (args1 (a := q.obj) rfl) ey ey2) (ix9 2 _ rfl)))))).trans rfl) ?_
  clear ix9 nw
  generalize some (OD.sh (.tup [.int (q.wide : Nat), .int (q.long q.pt : Nat), rows q q.pt])) = o9
  have m1 : q.A.length * q.et ≤ 60 * 1000 := Nat.mul_le_mul h.A h.et
  have m2 : q.B.length * q.pt ≤ 60 * 1000 := Nat.mul_le_mul h.B h.pt
  refine rt_seq (ρ' := eW ns q o5 o7 (some (.sh q.obj)) o9 none none none none none none none none none) ((ifS_f (orT_f (nes (dR_dt _) (erC (args1 (a := q.obj) rfl) (warp_ok h) (oR_er _)) (erC (args2 (a := dS q.A) rfl (N 2 q.et rfl rfl)) (law_runs_ok (by omega) (by have := h.et; omega)) (oR_er _))) (nes (dR_dt _) (erC (args1 (a := q.obj) rfl) (weft_ok h) (oR_er _)) (erC (args2 (a := dS q.B) rfl (N 3 q.pt rfl rfl)) (law_runs_ok (by omega) (by have := h.pt; omega)) (oR_er _))))).trans rfl) ?_
  obtain ⟨tm, htm, htm2⟩ := emod_nat (x := ns.getD 4 0) (n := 12) (by decide)
  refine rt_seq (ρ' := eW ns q o5 o7 (some (.sh q.obj)) o9 (some (.sh (.int tm))) none none none none none none none none) ((setS_ok (d := .int tm) (op2_ok (cellI (ns := ns) 4 rfl) (b := .int 12) rfl ((dMod_i _ 12 (by decide)).trans (by rw [htm]; rfl))) rfl).trans rfl) ?_
  refine rt_seq (ρ' := eW ns q o5 o7 (some (.sh q.obj)) o9 (some (.sh (.int tm))) (some (.dic [])) none none none none none none none) rfl ?_
  obtain ⟨st, o12, o14, hst, e16⟩ := stk_ok (ns := ns) (q := q) (o5 := o5) (o7 := o7) (o8 := some (.sh q.obj)) (o9 := o9) h h10 htm2
  refine rt_seq (show s16 _ = _ from e16) ?_
  refine rt_seq (ρ' := eW ns q o5 o7 (some (.sh q.obj)) o9 (some (.sh (.int tm))) (some (oSt st)) o12 none o14 (some (.sh (.int (0 : Nat)))) none none none) rfl ?_
  refine rt_seq (best_loop h) ?_
  generalize some (OD.sh (.int tm)) = o10
  obtain ⟨r, er, hrb⟩ := great_best h hst
  have dc : erE (opAF fDict (aCons (var 11) aNil)) (eW ns q o5 o7 (some (.sh q.obj)) o9 o10 (some (oSt st)) none none o14 (some (.sh (.int (bs q st (upto 39) : Nat)))) none none none) = .ok (sD st) := (erE_ok (opAF_ok (a := sD st) (by rw [← oSt_er]; rfl) rfl)).trans rfl
  have tl := tst_ok (op2_ok (g := dLt) (f1 := var 15) (f2 := con (.int 39)) (ρ := eW ns q o5 o7 (some (.sh q.obj)) o9 o10 (some (oSt st)) none none o14 (some (.sh (.int (bs q st (upto 39) : Nat)))) none none none) (a := .int (bs q st (upto 39) : Nat)) (b := .int 39) rfl rfl (dLt_int _ _))
  refine rt_seq (ρ' := eW ns q o5 o7 (some (.sh q.obj)) o9 o10 (some (oSt st)) none none o14 (some (.sh (.int (bs q st (upto 39) : Nat)))) none none none) ((ifS_f ?_).trans rfl) ?_
  · by_cases hb : bs q st (upto 39) < 39
    · rw [decide_eq_true (by omega)] at tl
      have := hrb hb
      subst this
      exact andT_t tl (nes (d := .int (bs q st (upto 39) : Nat)) rfl (erC (args2 (a := q.obj) rfl dc) er rfl) rfl)
    · rw [decide_eq_false (by omega)] at tl
      exact andT_f tl
  clear dc tl hrb er
  generalize some (oSt st) = o11
  generalize some (OD.sh (.int (bs q st (upto 39) : Nat))) = o15
  refine rt_seq (ρ' := eW ns q o5 o7 (some (.sh q.obj)) o9 o10 o11 none none o14 o15 none none none) ((ifS_f (nes (d := .int ((1000 : Nat) : Int)) rfl (erC (args2 (a := q.obj) (b := sD bigSt) rfl rfl) (big_ok h hm) rfl) rfl)).trans rfl) ?_
  -- refusals
  have dtp : ∀ (c : List Nat) (v : Int), (D.tup [.str c, .int v]).dt 20 = true := fun c v => by rw [show (20 : Nat) = 19 + 1 from rfl, D.dt_tup]; simp
  have ze : op2 dMul (erE (lstE (aCons (con (.int 0)) aNil))) (con (.int 7)) (eW ns q o5 o7 (some (.sh q.obj)) o9 o10 o11 none none o14 o15 none none none) = .ok (iL [0, 0, 0, 0, 0, 0, 0]) := rfl
  have s3 := sl_from (k := 1) (xs := q.A.map D.str) (f := var 3) (g := con (.int 1)) (ρ := eW ns q o5 o7 (some (.sh q.obj)) o9 o10 o11 none none o14 o15 none none none) rfl rfl (by omega) (by simp; omega)
  have s4 := sl_from (k := 1) (xs := q.B.map D.str) (f := var 4) (g := con (.int 1)) (ρ := eW ns q o5 o7 (some (.sh q.obj)) o9 o10 o11 none none o14 o15 none none none) rfl rfl (by omega) (by simp; omega)
  rw [show (1 : Int).toNat = 1 from rfl, ← List.map_drop] at s3 s4
  have u1 := made_u (A := q.A.drop 1) (B := q.B.drop 1) (n0 := 0) (n1 := 0) (n2 := 0) (n3 := 0) (n4 := 0) (n5 := 0) (n6 := 0) (k := q.A.length - 1) hC h1 (by omega) h3 (by omega) (.inl ⟨by rw [List.length_drop]; omega, by rw [List.length_drop]⟩)
  have L3 : opA dLen (aCons (var 3) aNil) (eW ns q o5 o7 (some (.sh q.obj)) o9 o10 o11 none none o14 o15 none none none) = .ok (.int (q.A.length : Nat)) := len_dS' q.A rfl
  have L4 : opA dLen (aCons (var 4) aNil) (eW ns q o5 o7 (some (.sh q.obj)) o9 o10 o11 none none o14 o15 none none none) = .ok (.int (q.B.length : Nat)) := len_dS' q.B rfl
  refine rt_seq (ρ' := eW ns q o5 o7 (some (.sh q.obj)) o9 o10 o11 none none o14 o15 none none none) ((ifS_f (orT_f (nes (dtp [99, 108, 111, 116, 104] 0) (erC (aC (a := dS []) rfl (aC (a := dS []) rfl (aC (a := dS []) rfl (aC ze (show aNil _ = R.ok [] from rfl))))) made_c rfl) rfl) (nes (dtp [117, 110, 101, 113, 117, 97, 108] ((q.A.length - 1 : Nat) : Int)) (erC (aC (a := dS q.C) rfl (aC (a := dS (q.A.drop 1)) s3 (aC (a := dS (q.B.drop 1)) s4 (aC ze (show aNil _ = R.ok [] from rfl))))) u1 rfl) (tupA (args2 (a := .str [117, 110, 101, 113, 117, 97, 108]) rfl (op2_ok L3 (b := .int 1) rfl (by rw [show ((q.A.length - 1 : Nat) : Int) = (q.A.length : Int) - 1 by omega]; rfl))) (by simp))))).trans rfl) ?_
  have u2 := made_u (A := q.A) (B := q.B ++ [[114, 101, 100]]) (n0 := 0) (n1 := 0) (n2 := 0) (n3 := 0) (n4 := 0) (n5 := 0) (n6 := 0) (k := q.B.length + 1) hC h1 (by omega) h3 (by omega) (.inr ⟨hA, by rw [List.length_append]; simp; omega, by rw [List.length_append]; rfl⟩)
  have ap : op2 dAdd (var 4) (erE (lstE (aCons (con (.str [114, 101, 100])) aNil))) (eW ns q o5 o7 (some (.sh q.obj)) o9 o10 o11 none none o14 o15 none none none) = .ok (dS (q.B ++ [[114, 101, 100]])) := op2_ok (a := dS q.B) (b := dS [[114, 101, 100]]) rfl rfl (by
    unfold dS
    rw [dAdd_lst, if_pos (by unfold okSz; exact decide_eq_true (by simp; omega)), List.map_append])
  refine rt_seq (ρ' := eW ns q o5 o7 (some (.sh q.obj)) o9 o10 o11 none none o14 o15 none none none) ((ifS_f (nes (dtp [117, 110, 101, 113, 117, 97, 108] ((q.B.length + 1 : Nat) : Int)) (erC (aC (a := dS q.C) rfl (aC (a := dS q.A) rfl (aC ap (aC ze (show aNil _ = R.ok [] from rfl))))) u2 rfl) (tupA (args2 (a := .str [117, 110, 101, 113, 117, 97, 108]) rfl (op2_ok L4 (b := .int 1) rfl (by rw [Int.natCast_add]; rfl))) (by simp)))).trans rfl) ?_
  clear ze s3 s4 L3 L4 ap
  refine rt_seq (ρ' := eW ns q o5 o7 (some (.sh q.obj)) o9 o10 o11 none none o14 o15 none (some (.sh (iL badL))) none) ((setS_sh (d := iL badL) rfl rfl).trans rfl) ?_
  obtain ⟨i, hi, hi2⟩ := emod_nat (x := ns.getD 5 0 / 9) (n := 7) (by decide)
  refine rt_seq (ρ' := eW ns q o5 o7 (some (.sh q.obj)) o9 o10 o11 none none (some (.sh (.int i))) o15 none (some (.sh (iL badL))) none) ((setS_ok (d := .int i) (op2_ok (op2_ok (cellI (ns := ns) 5 rfl) (b := .int 9) rfl (dDiv_i _ 9 (by decide) (by decide))) (b := .int 7) rfl ((dMod_i _ 7 (by decide)).trans (by rw [hi]; rfl))) rfl).trans rfl) ?_
  obtain ⟨n0, n1, n2, n3, n4, n5, n6, v, en, ec, ev⟩ := bad_chk h het.1 hpt.1 i hi2
  have sp := spoilt_ok (ρ := eW ns q o5 o7 (some (.sh q.obj)) o9 o10 o11 none none (some (.sh (.int i))) o15 none (some (.sh (iL badL))) none) (q := q) hi2 rfl rfl rfl
  rw [en] at sp
  refine rt_seq (ρ' := eW ns q o5 o7 (some (.sh q.obj)) o9 o10 o11 none none (some (.sh (.int i))) o15 none (some (.sh (iL badL))) (some (.sh (iL [n0, n1, n2, n3, n4, n5, n6])))) ((setS_sh sp rfl).trans rfl) ?_
  have ib : op2 dIx (var 17) (var 14) (eW ns q o5 o7 (some (.sh q.obj)) o9 o10 o11 none none (some (.sh (.int i))) o15 none (some (.sh (iL badL))) (some (.sh (iL [n0, n1, n2, n3, n4, n5, n6])))) = .ok (.int v) := op2_ok (a := iL badL) (b := .int i) rfl rfl (by
    have hb : i < (badL.map D.int).length := hi2
    show L2.atI (badL.map D.int) (i : Int) = _
    rw [atI_nat _ _ hb, ev]
    have hb2 : i < badL.length := hi2
    simp [List.getD, List.getElem?_eq_getElem hb2])
  refine rt_seq (ρ' := eW ns q o5 o7 (some (.sh q.obj)) o9 o10 o11 none none (some (.sh (.int i))) o15 none (some (.sh (iL badL))) (some (.sh (iL [n0, n1, n2, n3, n4, n5, n6])))) ((ifS_f (nes (dtp [114, 97, 110, 103, 101] v) (erC (aC (a := dS q.C) rfl (aC (a := dS q.A) rfl (aC (a := dS q.B) rfl (aC (a := iL [n0, n1, n2, n3, n4, n5, n6]) rfl (show aNil _ = R.ok [] from rfl))))) (made_o hC h1 (by omega) h3 (by omega) hA hB ec) rfl) (tupA (args2 (a := .str [114, 97, 110, 103, 101]) rfl ib) (by simp)))).trans rfl) ?_
  exact ⟨_, retS_ok (d := .bl true) (op2_ok (erC (m := m__law_stock) (args1 (a := q.obj) rfl) stock_ok rfl) (b := .int (-4)) rfl (dEq_self (d := .int (-4)) rfl)) rfl⟩
end K25
set_option Elab.async false
set_option linter.all false
set_option maxRecDepth 100000
set_option maxHeartbeats 0
namespace K25
open PySem PySem.Spec PyProof.Rows L2 DL
/-! ### the head -/
def w__law_draw : He.DefD := ⟨("_law_draw", none), "_law_draw", "_law_draw", defArgs (top 35), defBody (top 35), defScope (top 35), [], []⟩
def w__law_cloth : He.DefD := ⟨("_law_cloth", none), "_law_cloth", "_law_cloth", defArgs (top 37), defBody (top 37), defScope (top 37), [], []⟩
def w_check_cloth : He.DefD := ⟨("check_cloth", none), "check_cloth", "check_cloth", defArgs (top 12), defBody (top 12), defScope (top 12), [], []⟩
def w_check_between : He.DefD := ⟨("check_between", none), "check_between", "check_between", defArgs (top 6), defBody (top 6), defScope (top 6), [], []⟩
def w_Plan : He.DefD := ⟨("Plan", some "__init__"), "__init__", "Plan.__init__", defArgs mi_Plan____init__, defBody mi_Plan____init__, defScope mi_Plan____init__, [], []⟩
def w__law_made : He.DefD := ⟨("_law_made", none), "_law_made", "_law_made", defArgs (top 38), defBody (top 38), defScope (top 38), [], []⟩
def w__law_up : He.DefD := ⟨("_law_up", none), "_law_up", "_law_up", defArgs (top 39), defBody (top 39), defScope (top 39), [], []⟩
def w__law_yarn : He.DefD := ⟨("_law_yarn", none), "_law_yarn", "_law_yarn", defArgs (top 40), defBody (top 40), defScope (top 40), [], []⟩
def w__law_cell : He.DefD := ⟨("_law_cell", none), "_law_cell", "_law_cell", defArgs (top 34), defBody (top 34), defScope (top 34), [], []⟩
def w_divided_up : He.DefD := ⟨("divided_up", none), "divided_up", "divided_up", defArgs (top 7), defBody (top 7), defScope (top 7), [], []⟩
def w_taken : He.DefD := ⟨("taken", none), "taken", "taken", defArgs (top 25), defBody (top 25), defScope (top 25), [], []⟩
def w_width_of : He.DefD := ⟨("width_of", none), "width_of", "width_of", defArgs (top 22), defBody (top 22), defScope (top 22), [], []⟩
def w_length_with : He.DefD := ⟨("length_with", none), "length_with", "length_with", defArgs (top 23), defBody (top 23), defScope (top 23), [], []⟩
def w_yarn_with : He.DefD := ⟨("yarn_with", none), "yarn_with", "yarn_with", defArgs (top 26), defBody (top 26), defScope (top 26), [], []⟩
def w_is_enough : He.DefD := ⟨("is_enough", none), "is_enough", "is_enough", defArgs (top 31), defBody (top 31), defScope (top 31), [], []⟩
def w_greatest_times : He.DefD := ⟨("greatest_times", none), "greatest_times", "greatest_times", defArgs (top 32), defBody (top 32), defScope (top 32), [], []⟩
def w__law_stock : He.DefD := ⟨("_law_stock", none), "_law_stock", "_law_stock", defArgs (top 42), defBody (top 42), defScope (top 42), [], []⟩
def w_length_of : He.DefD := ⟨("length_of", none), "length_of", "length_of", defArgs (top 24), defBody (top 24), defScope (top 24), [], []⟩
def w__law_whole : He.DefD := ⟨("_law_whole", none), "_law_whole", "_law_whole", defArgs (top 36), defBody (top 36), defScope (top 36), [], []⟩
def w_yarn_of : He.DefD := ⟨("yarn_of", none), "yarn_of", "yarn_of", defArgs (top 27), defBody (top 27), defScope (top 27), [], []⟩
def w_runs_of : He.DefD := ⟨("runs_of", none), "runs_of", "runs_of", defArgs (top 28), defBody (top 28), defScope (top 28), [], []⟩
def w_warp_order : He.DefD := ⟨("warp_order", none), "warp_order", "warp_order", defArgs (top 29), defBody (top 29), defScope (top 29), [], []⟩
def w__law_runs : He.DefD := ⟨("_law_runs", none), "_law_runs", "_law_runs", defArgs (top 41), defBody (top 41), defScope (top 41), [], []⟩
def w_weft_order : He.DefD := ⟨("weft_order", none), "weft_order", "weft_order", defArgs (top 30), defBody (top 30), defScope (top 30), [], []⟩
def w_law : He.DefD := ⟨("law", none), "law", "law", defArgs (top 43), defBody (top 43), defScope (top 43), [], []⟩
def fn : List He.DefD := [w__law_draw, w__law_cloth, w_check_cloth, w_check_between, w_Plan, w__law_made, w__law_up, w__law_yarn, w__law_cell, w_divided_up, w_taken, w_width_of, w_length_with, w_yarn_with, w_is_enough, w_greatest_times, w__law_stock, w_length_of, w__law_whole, w_yarn_of, w_runs_of, w_warp_order, w__law_runs, w_weft_order, w_law]
def fa : List He.Fa := [.glo "_law_draw", .glo "_law_cloth", .glo "check_cloth", .glo "check_between", .glo "_law_made", .glo "_law_up", .glo "_law_yarn", .glo "_law_cell", .glo "divided_up", .glo "taken", .glo "width_of", .glo "length_with", .glo "yarn_with", .glo "is_enough", .glo "greatest_times", .glo "_law_stock", .glo "length_of", .glo "_law_whole", .glo "yarn_of", .glo "runs_of", .glo "warp_order", .glo "_law_runs", .glo "weft_order", .glo "law", .glo "BadCloth", .glo "Unequal", .glo "OutOfRange", .glo "HeddleError", .free "abs", .free "len", .free "range", .free "int", .free "list", .free "sorted", .free "isinstance", .free "bool", .free "max", .free "dict", .free "super", .int "MOST" 60, .str "OVER" "#", .str "UNDER" ".", .int "LEAST_SETT" 10, .int "MOST_SETT" 400, .int "MOST_TIMES" 1000, .int "MOST_TAKE" 500, .int "MOST_WASTE" 5000, .int "THOUSAND" 1000, .int "TENTHS" 10, .glo "Plan", .cls "Plan", .noat "Plan" "cloth", .noat "Plan" "warp", .noat "Plan" "weft", .noat "Plan" "sett", .noat "Plan" "beat", .noat "Plan" "ends_times", .noat "Plan" "picks_times", .noat "Plan" "warp_take", .noat "Plan" "weft_take", .noat "Plan" "waste", .mkr "Plan"]
def ex : List DLX.ExD := [ed_BadCloth, ed_OutOfRange, ed_Unequal]
def tb : List (Str × List (Str × Bool)) := [("BadCloth", tab_BadCloth), ("Unequal", tab_Unequal), ("OutOfRange", tab_OutOfRange), ("HeddleError", tab_HeddleError)]
abbrev Rr : PySem.W.OpenRow := PySem.W.OpenLaw.row PySem.Challenge.rw_heddlebook_k25_yarn_of_a_plan
abbrev hk : PySem.W.Hook := DLX.hookX 4 fa fn Rr.prog.main.file ex tb
def ob (s : PySem.W.SharedT) : DLX.AlX := DLX.obXG 4 fa fn Rr.prog.main.file ex tb (HandSHeadRun.getT s)
theorem ob_eq (s : PySem.W.SharedT) : ob s = hk.obs s.abs := DLX.obXG_eq (HandSHeadRun.getT_eq s)
def lo0 : List PySem.Str := ["HeddleError", "OutOfRange", "BadCloth", "Unequal", "check_between", "divided_up", "MOST", "OVER", "UNDER", "check_cloth", "LEAST_SETT", "MOST_SETT", "MOST_TIMES", "MOST_TAKE", "MOST_WASTE", "THOUSAND", "TENTHS", "Plan", "width_of", "length_with", "length_of", "taken", "yarn_with", "yarn_of", "runs_of", "warp_order", "weft_order", "is_enough", "greatest_times", "_law_cell"]
def lo1 : List PySem.Str := ["_law_draw", "_law_whole", "_law_cloth", "_law_made", "_law_up", "_law_yarn", "_law_runs", "_law_stock"]
abbrev lo : List PySem.Str := lo0 ++ lo1
theorem run (w : World) : HandSHeadRun.RunEq Rr (PySem.W.view Rr.prog [43]) hk ob 4000 lo w := by
  intro os
  kernel_rfl
theorem facts {w : World} {K : PySem.W.Frag} {h : Heap} {mg : Str → Option Value} {f : Addr} (X : K.In h) (G : h.Ns mainGlobals mg) (hfa : mg ("law" : Str) = some (.ref f)) (c : DLX.SaysX fa fn Rr.prog.main.file ex tb K) :
    ∃ fd : FuncData, (∀ (s : Shared) (v : Value), BindsTo s fd ⟨[v], []⟩ [("script", v)]) ∧ ∀ base : Heap, K.In base → base.Ns mainGlobals mg → FnOk Rr.prog w K mg base (L2.CX Rr.prog w) 7 f fd ["script"] (spD ⟨K, mg, none⟩ 1 m_law) := by
  obtain ⟨fd__law_draw, F__law_draw⟩ := c.def_ 0 (d := w__law_draw) rfl
  obtain ⟨fd__law_cloth, F__law_cloth⟩ := c.def_ 1 (d := w__law_cloth) rfl
  obtain ⟨fd_check_cloth, F_check_cloth⟩ := c.def_ 2 (d := w_check_cloth) rfl
  obtain ⟨fd_check_between, F_check_between⟩ := c.def_ 3 (d := w_check_between) rfl
  obtain ⟨fd_Plan, F_Plan⟩ := c.def_ 4 (d := w_Plan) rfl
  obtain ⟨fd__law_made, F__law_made⟩ := c.def_ 5 (d := w__law_made) rfl
  obtain ⟨fd__law_up, F__law_up⟩ := c.def_ 6 (d := w__law_up) rfl
  obtain ⟨fd__law_yarn, F__law_yarn⟩ := c.def_ 7 (d := w__law_yarn) rfl
  obtain ⟨fd__law_cell, F__law_cell⟩ := c.def_ 8 (d := w__law_cell) rfl
  obtain ⟨fd_divided_up, F_divided_up⟩ := c.def_ 9 (d := w_divided_up) rfl
  obtain ⟨fd_taken, F_taken⟩ := c.def_ 10 (d := w_taken) rfl
  obtain ⟨fd_width_of, F_width_of⟩ := c.def_ 11 (d := w_width_of) rfl
  obtain ⟨fd_length_with, F_length_with⟩ := c.def_ 12 (d := w_length_with) rfl
  obtain ⟨fd_yarn_with, F_yarn_with⟩ := c.def_ 13 (d := w_yarn_with) rfl
  obtain ⟨fd_is_enough, F_is_enough⟩ := c.def_ 14 (d := w_is_enough) rfl
  obtain ⟨fd_greatest_times, F_greatest_times⟩ := c.def_ 15 (d := w_greatest_times) rfl
  obtain ⟨fd__law_stock, F__law_stock⟩ := c.def_ 16 (d := w__law_stock) rfl
  obtain ⟨fd_length_of, F_length_of⟩ := c.def_ 17 (d := w_length_of) rfl
  obtain ⟨fd__law_whole, F__law_whole⟩ := c.def_ 18 (d := w__law_whole) rfl
  obtain ⟨fd_yarn_of, F_yarn_of⟩ := c.def_ 19 (d := w_yarn_of) rfl
  obtain ⟨fd_runs_of, F_runs_of⟩ := c.def_ 20 (d := w_runs_of) rfl
  obtain ⟨fd_warp_order, F_warp_order⟩ := c.def_ 21 (d := w_warp_order) rfl
  obtain ⟨fd__law_runs, F__law_runs⟩ := c.def_ 22 (d := w__law_runs) rfl
  obtain ⟨fd_weft_order, F_weft_order⟩ := c.def_ 23 (d := w_weft_order) rfl
  obtain ⟨fd_law, F_law⟩ := c.def_ 24 (d := w_law) rfl
  have a__law_draw := He.glo_ok X G (c.fact 0 (f := .glo "_law_draw") rfl)
  have a__law_cloth := He.glo_ok X G (c.fact 1 (f := .glo "_law_cloth") rfl)
  have a_check_cloth := He.glo_ok X G (c.fact 2 (f := .glo "check_cloth") rfl)
  have a_check_between := He.glo_ok X G (c.fact 3 (f := .glo "check_between") rfl)
  have a__law_made := He.glo_ok X G (c.fact 4 (f := .glo "_law_made") rfl)
  have a__law_up := He.glo_ok X G (c.fact 5 (f := .glo "_law_up") rfl)
  have a__law_yarn := He.glo_ok X G (c.fact 6 (f := .glo "_law_yarn") rfl)
  have a__law_cell := He.glo_ok X G (c.fact 7 (f := .glo "_law_cell") rfl)
  have a_divided_up := He.glo_ok X G (c.fact 8 (f := .glo "divided_up") rfl)
  have a_taken := He.glo_ok X G (c.fact 9 (f := .glo "taken") rfl)
  have a_width_of := He.glo_ok X G (c.fact 10 (f := .glo "width_of") rfl)
  have a_length_with := He.glo_ok X G (c.fact 11 (f := .glo "length_with") rfl)
  have a_yarn_with := He.glo_ok X G (c.fact 12 (f := .glo "yarn_with") rfl)
  have a_is_enough := He.glo_ok X G (c.fact 13 (f := .glo "is_enough") rfl)
  have a_greatest_times := He.glo_ok X G (c.fact 14 (f := .glo "greatest_times") rfl)
  have a__law_stock := He.glo_ok X G (c.fact 15 (f := .glo "_law_stock") rfl)
  have a_length_of := He.glo_ok X G (c.fact 16 (f := .glo "length_of") rfl)
  have a__law_whole := He.glo_ok X G (c.fact 17 (f := .glo "_law_whole") rfl)
  have a_yarn_of := He.glo_ok X G (c.fact 18 (f := .glo "yarn_of") rfl)
  have a_runs_of := He.glo_ok X G (c.fact 19 (f := .glo "runs_of") rfl)
  have a_warp_order := He.glo_ok X G (c.fact 20 (f := .glo "warp_order") rfl)
  have a__law_runs := He.glo_ok X G (c.fact 21 (f := .glo "_law_runs") rfl)
  have a_weft_order := He.glo_ok X G (c.fact 22 (f := .glo "weft_order") rfl)
  have a_law := He.glo_ok X G (c.fact 23 (f := .glo "law") rfl)
  have a_BadCloth := He.glo_ok X G (c.fact 24 (f := .glo "BadCloth") rfl)
  have a_Unequal := He.glo_ok X G (c.fact 25 (f := .glo "Unequal") rfl)
  have a_OutOfRange := He.glo_ok X G (c.fact 26 (f := .glo "OutOfRange") rfl)
  have a_HeddleError := He.glo_ok X G (c.fact 27 (f := .glo "HeddleError") rfl)
  have n_abs := He.free_ok X G (c.fact 28 (f := .free "abs") rfl)
  have n_len := He.free_ok X G (c.fact 29 (f := .free "len") rfl)
  have n_range := He.free_ok X G (c.fact 30 (f := .free "range") rfl)
  have n_int := He.free_ok X G (c.fact 31 (f := .free "int") rfl)
  have n_list := He.free_ok X G (c.fact 32 (f := .free "list") rfl)
  have n_sorted := He.free_ok X G (c.fact 33 (f := .free "sorted") rfl)
  have n_isinstance := He.free_ok X G (c.fact 34 (f := .free "isinstance") rfl)
  have n_bool := He.free_ok X G (c.fact 35 (f := .free "bool") rfl)
  have n_max := He.free_ok X G (c.fact 36 (f := .free "max") rfl)
  have n_dict := He.free_ok X G (c.fact 37 (f := .free "dict") rfl)
  have n_super := He.free_ok X G (c.fact 38 (f := .free "super") rfl)
  have g_MOST := He.int_ok X G (c.fact 39 (f := .int "MOST" 60) rfl)
  have g_OVER := He.str_ok X G (c.fact 40 (f := .str "OVER" "#") rfl)
  have g_UNDER := He.str_ok X G (c.fact 41 (f := .str "UNDER" ".") rfl)
  have g_LEAST_SETT := He.int_ok X G (c.fact 42 (f := .int "LEAST_SETT" 10) rfl)
  have g_MOST_SETT := He.int_ok X G (c.fact 43 (f := .int "MOST_SETT" 400) rfl)
  have g_MOST_TIMES := He.int_ok X G (c.fact 44 (f := .int "MOST_TIMES" 1000) rfl)
  have g_MOST_TAKE := He.int_ok X G (c.fact 45 (f := .int "MOST_TAKE" 500) rfl)
  have g_MOST_WASTE := He.int_ok X G (c.fact 46 (f := .int "MOST_WASTE" 5000) rfl)
  have g_THOUSAND := He.int_ok X G (c.fact 47 (f := .int "THOUSAND" 1000) rfl)
  have g_TENTHS := He.int_ok X G (c.fact 48 (f := .int "TENTHS" 10) rfl)
  have a_Plan := He.glo_ok X G (c.fact 49 (f := .glo "Plan") rfl)
  have k_Plan := He.cls_ok (c.fact 50 (f := .cls "Plan") rfl)
  have na_Plan_cloth := He.noat_ok (c.fact 51 (f := .noat "Plan" "cloth") rfl)
  have na_Plan_warp := He.noat_ok (c.fact 52 (f := .noat "Plan" "warp") rfl)
  have na_Plan_weft := He.noat_ok (c.fact 53 (f := .noat "Plan" "weft") rfl)
  have na_Plan_sett := He.noat_ok (c.fact 54 (f := .noat "Plan" "sett") rfl)
  have na_Plan_beat := He.noat_ok (c.fact 55 (f := .noat "Plan" "beat") rfl)
  have na_Plan_ends_times := He.noat_ok (c.fact 56 (f := .noat "Plan" "ends_times") rfl)
  have na_Plan_picks_times := He.noat_ok (c.fact 57 (f := .noat "Plan" "picks_times") rfl)
  have na_Plan_warp_take := He.noat_ok (c.fact 58 (f := .noat "Plan" "warp_take") rfl)
  have na_Plan_weft_take := He.noat_ok (c.fact 59 (f := .noat "Plan" "weft_take") rfl)
  have na_Plan_waste := He.noat_ok (c.fact 60 (f := .noat "Plan" "waste") rfl)
  have mk_Plan := He.mkr_ok (c.fact 61 (f := .mkr "Plan") rfl)
  have no_Plan : ∀ f ∈ ([("cloth" : Str), ("warp" : Str), ("weft" : Str), ("sett" : Str), ("beat" : Str), ("ends_times" : Str), ("picks_times" : Str), ("warp_take" : Str), ("weft_take" : Str), ("waste" : Str)] : List PySem.Str), NoAttr K (He.ga K "Plan") f := fun f hf => by
    simp only [List.mem_cons, List.not_mem_nil, or_false] at hf
    rcases hf with rfl | rfl | rfl | rfl | rfl | rfl | rfl | rfl | rfl | rfl
    all_goals assumption
  have q_Plan : FldC K mg "Plan" ["cloth", "warp", "weft", "sett", "beat", "ends_times", "picks_times", "warp_take", "weft_take", "waste"] := fun C hm => by cases hm.symm.trans a_Plan; exact ⟨k_Plan, no_Plan⟩
  have hany := c.parts.2.2.2.2
  have htop : (Rr.prog.main.scope.names.lookup ("super" : Str)).isSome = false := by decide +kernel
  have e_BadCloth := c.exc (P := Rr.prog) X G 0 (d := ed_BadCloth) rfl
  have e_OutOfRange := c.exc (P := Rr.prog) X G 1 (d := ed_OutOfRange) rfl
  have e_Unequal := c.exc (P := Rr.prog) X G 2 (d := ed_Unequal) rfl
  have y_BadCloth : ∀ C : Addr, mg "BadCloth" = some (.ref C) → XfC K C ∧ ∀ f ∈ [("label" : Str), ("row" : Str)], PySem.W.findIn K (.ref C) f = some none := fun C hm => by cases hm.symm.trans e_BadCloth.mgc; exact ⟨e_BadCloth.xf, e_BadCloth.no⟩
  have y_Unequal : ∀ C : Addr, mg "Unequal" = some (.ref C) → XfC K C ∧ ∀ f ∈ [("label" : Str), ("value" : Str)], PySem.W.findIn K (.ref C) f = some none := fun C hm => by cases hm.symm.trans e_Unequal.mgc; exact ⟨e_Unequal.xf, e_Unequal.no⟩
  have y_OutOfRange : ∀ C : Addr, mg "OutOfRange" = some (.ref C) → XfC K C ∧ ∀ f ∈ [("label" : Str), ("value" : Str)], PySem.W.findIn K (.ref C) f = some none := fun C hm => by cases hm.symm.trans e_OutOfRange.mgc; exact ⟨e_OutOfRange.xf, e_OutOfRange.no⟩
  have h_BadCloth : ∃ D : Addr, mg "BadCloth" = some (.ref D) ∧ DLX.TabOk K mg tab_BadCloth (.ref D) := ⟨_, a_BadCloth, c.tab X G 0 rfl⟩
  have h_Unequal : ∃ D : Addr, mg "Unequal" = some (.ref D) ∧ DLX.TabOk K mg tab_Unequal (.ref D) := ⟨_, a_Unequal, c.tab X G 1 rfl⟩
  have h_OutOfRange : ∃ D : Addr, mg "OutOfRange" = some (.ref D) ∧ DLX.TabOk K mg tab_OutOfRange (.ref D) := ⟨_, a_OutOfRange, c.tab X G 2 rfl⟩
  have h_HeddleError : ∃ D : Addr, mg "HeddleError" = some (.ref D) ∧ DLX.TabOk K mg tab_HeddleError (.ref D) := ⟨_, a_HeddleError, c.tab X G 3 rfl⟩
  cases hfa.symm.trans a_law
  refine ⟨fd_law, fun s v => FunD.bindsA (ps := ["script"]) F_law (fun _ _ _ _ _ _ us hl => match us, hl with | [_], _ => rfl) s [v] rfl, fun base _ _ => ?_⟩
  have x_BadCloth : DLX.ExC Rr.prog w K mg base "BadCloth" 1 l_BadCloth := xc_BadCloth e_BadCloth htop n_super hany
  have x_OutOfRange : DLX.ExC Rr.prog w K mg base "OutOfRange" 1 l_OutOfRange := xc_OutOfRange e_OutOfRange htop n_super hany
  have x_Unequal : DLX.ExC Rr.prog w K mg base "Unequal" 1 l_Unequal := xc_Unequal e_Unequal htop n_super hany
  have c__law_draw : DefOk Rr.prog w K mg base "_law_draw" 1 2 m__law_draw := ok__law_draw F__law_draw a__law_draw n_abs n_len n_range n_int
  have c__law_cloth : DefOk Rr.prog w K mg base "_law_cloth" 2 3 m__law_cloth := ok__law_cloth F__law_cloth a__law_cloth c__law_draw n_range n_int
  have c_check_cloth : DefOk Rr.prog w K mg base "check_cloth" 3 1 m_check_cloth := ok_check_cloth F_check_cloth a_check_cloth n_len n_range g_MOST g_OVER g_UNDER x_BadCloth
  have c_check_between : DefOk Rr.prog w K mg base "check_between" 3 3 m_check_between := ok_check_between F_check_between a_check_between x_OutOfRange
  have o_Plan : ObjC Rr.prog w K mg base "Plan" 4 10 m_Plan := ok_Plan F_Plan c_check_cloth c_check_between n_len n_list g_LEAST_SETT g_MOST_SETT g_MOST_TIMES g_MOST_TAKE g_MOST_WASTE x_Unequal k_Plan no_Plan a_Plan mk_Plan
  have c__law_made : DefOk Rr.prog w K mg base "_law_made" 6 4 m__law_made := ok__law_made F__law_made a__law_made o_Plan h_BadCloth h_Unequal h_OutOfRange h_HeddleError y_BadCloth y_Unequal y_OutOfRange
  have c__law_up : DefOk Rr.prog w K mg base "_law_up" 1 2 m__law_up := ok__law_up F__law_up a__law_up 
  have c__law_yarn : DefOk Rr.prog w K mg base "_law_yarn" 2 4 m__law_yarn := ok__law_yarn F__law_yarn a__law_yarn c__law_up n_len
  have c__law_cell : DefOk Rr.prog w K mg base "_law_cell" 1 2 m__law_cell := ok__law_cell F__law_cell a__law_cell n_len
  have c_divided_up : DefOk Rr.prog w K mg base "divided_up" 1 2 m_divided_up := ok_divided_up F_divided_up a_divided_up 
  have c_taken : DefOk Rr.prog w K mg base "taken" 2 2 m_taken := ok_taken F_taken a_taken c_divided_up g_THOUSAND g_TENTHS
  have c_width_of : DefOk Rr.prog w K mg base "width_of" 2 1 m_width_of := ok_width_of F_width_of a_width_of c_divided_up q_Plan n_len g_THOUSAND
  have c_length_with : DefOk Rr.prog w K mg base "length_with" 2 2 m_length_with := ok_length_with F_length_with a_length_with c_divided_up q_Plan n_len g_THOUSAND
  have c_yarn_with : DefOk Rr.prog w K mg base "yarn_with" 3 2 m_yarn_with := ok_yarn_with F_yarn_with a_yarn_with c_taken c_length_with c_width_of q_Plan
  have c_is_enough : DefOk Rr.prog w K mg base "is_enough" 4 3 m_is_enough := ok_is_enough F_is_enough a_is_enough c_yarn_with
  have c_greatest_times : DefOk Rr.prog w K mg base "greatest_times" 5 2 m_greatest_times := ok_greatest_times F_greatest_times a_greatest_times c_is_enough n_list n_sorted g_MOST_TIMES x_OutOfRange
  have c__law_stock : DefOk Rr.prog w K mg base "_law_stock" 6 1 m__law_stock := ok__law_stock F__law_stock a__law_stock c_greatest_times h_OutOfRange y_OutOfRange
  have c_length_of : DefOk Rr.prog w K mg base "length_of" 3 1 m_length_of := ok_length_of F_length_of a_length_of c_length_with q_Plan
  have c__law_whole : DefOk Rr.prog w K mg base "_law_whole" 1 1 m__law_whole := ok__law_whole F__law_whole a__law_whole n_isinstance n_int n_bool
  have c_yarn_of : DefOk Rr.prog w K mg base "yarn_of" 4 1 m_yarn_of := ok_yarn_of F_yarn_of a_yarn_of c_yarn_with q_Plan
  have c_runs_of : DefOk Rr.prog w K mg base "runs_of" 1 1 m_runs_of := ok_runs_of F_runs_of a_runs_of n_len
  have c_warp_order : DefOk Rr.prog w K mg base "warp_order" 2 1 m_warp_order := ok_warp_order F_warp_order a_warp_order c_runs_of q_Plan
  have c__law_runs : DefOk Rr.prog w K mg base "_law_runs" 1 2 m__law_runs := ok__law_runs F__law_runs a__law_runs n_len
  have c_weft_order : DefOk Rr.prog w K mg base "weft_order" 2 1 m_weft_order := ok_weft_order F_weft_order a_weft_order c_runs_of q_Plan
  exact fn_okD F_law sc_law rfl (t_law c__law_cloth c__law_cell c__law_draw c__law_made c__law_yarn c_width_of c_length_of c__law_whole c_yarn_of c_warp_order c__law_runs c_weft_order c_greatest_times c__law_stock q_Plan n_abs n_list n_int n_max n_range n_len n_dict)
end K25
open PySem PySem.W PySem.Calls PyProof.Rows
theorem K25.holds (hm : ∀ ns : List Int, ns.length ≤ 63 → (∀ z ∈ ns, Builtin.Int.intBits z ≤ 1048576) → K25.m_law [.scr ns] = .ok (.sh (.bl true))) : PySem.Challenge.rw_heddlebook_k25_yarn_of_a_plan.Holds := by
  w_on; o_law
  refine HandSHeadRun.head_any (r := OpenLaw.row PySem.Challenge.rw_heddlebook_k25_yarn_of_a_plan) (q := view (OpenLaw.row PySem.Challenge.rw_heddlebook_k25_yarn_of_a_plan).prog [43]) (H := K25.hk) (ob := K25.ob) (M := 4000) (loose := K25.lo) (d := HandSHeadRun.topDef (OpenLaw.row PySem.Challenge.rw_heddlebook_k25_yarn_of_a_plan).prog 43) (kwd := []) K25.ob_eq
    (by kernel_rfl) (fun s => by kernel_rfl) K25.run (by kernel_rfl) (by kernel_rfl) (by kernel_rfl) (by rfl) (by first | assumption | decide +kernel) (by decide +kernel) ⟨rfl, rfl, rfl, rfl, rfl, by decide +kernel⟩ ?hw ?hc
  case hw => w_witness2
  case hc =>
    refine DL.end_law (l := PySem.Challenge.rw_heddlebook_k25_yarn_of_a_plan) (n := 63) (k := 7) (x := "script") (m := K25.m_law) rfl (by decide) (by kernel_rfl) ⟨rfl, by decide, by decide⟩ ?F hm
    intro w mg fa h Y G hmg0
    obtain ⟨K, KX, c⟩ := Y
    have hmg : mg ("law" : PySem.Str) = some (.ref fa) := by
      have e : (HandSHeadRun.topDef (OpenLaw.row PySem.Challenge.rw_heddlebook_k25_yarn_of_a_plan).prog 43).name = ("law" : PySem.Str) := by kernel_rfl
      rw [← e]
      exact hmg0
    obtain ⟨fd, hb, hF⟩ := K25.facts (w := w) KX G hmg c
    exact ⟨K, fd, KX, hb, hF⟩
theorem PySem.Challenge.cw_heddlebook_k25_yarn_of_a_plan_holds : PySem.Challenge.rw_heddlebook_k25_yarn_of_a_plan.Holds :=
  K25.holds fun ns _ _ => K25.law_true ns
