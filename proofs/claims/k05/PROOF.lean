import PyProof.Rows.All
import Wide.All
import OpenK.AllK
import Wide.FinOn
import HandS.Base
import HandS.Call
import HandS.List
import HandS.Comp
import HandS.Dict
import HandS.Iter
import HandS.Exc
import HandS.Style
import HandS.Words
import HandS.Walk
import HandS.IsInst
import HandS.SortInts
import HandS.WordsList
import HandS.WordsDict
import HandS.More
import HandS.Wide
import HandS.TupSets
import KE.KSortedM
import HandS.EndBits
import HandS.ExcOwn
import HandS.WordsExc
import HandS.ExcInit
import HandS.ExcField
import HandS.SetFor
import KE.KExcIs
import HandS.ExcIs
import KE.SortData
import HandS.SortKw
import HandS.SetKeys
import HandS.Text
import KE.KIntText
import KE.KDictLaws
import HandS.BoundDict
import HandS.Zip
import KE.KeyNested
import HandS.Conv
import KE.DataMinMax
import PySem.Challenge.RW_linkorcut_k05_whole_read_again
set_option Elab.async false
set_option maxRecDepth 100000
set_option linter.all false
namespace Lk
open PySem L2
inductive D where
  | non
  | bl (b : Bool)
  | int (i : Int)
  | str (s : Str)
  | lst (l : List D)
  | tup (l : List D)
  | scr (ns : List Int)
  | dic (l : List (Key × D))
  /-- a dict that is locked: it may be walked -/
  | ldc (l : List (Key × D))
  | obj (C : Addr) (fs : List (Str × D))
  /-- a thing of which nothing is known -/
  | raw
/-- all of H stands in H' -/
def Ex (H H' : Hp) : Prop := ∀ a o, H a = some o → H' a = some o
theorem Ex.refl (H : Hp) : Ex H H := fun _ _ h => h
theorem Ex.trans {H H1 H2 : Hp} (a : Ex H H1) (b : Ex H1 H2) : Ex H H2 := fun x o h => b x o (a x o h)
theorem Ex.new {H : Hp} {p : Addr} {o : HO} (h : H p = none) : Ex H (upd H p o) := fun a u e => by
  rw [upd_ne (ne_of_none e h)]
  exact e
theorem Ex.mut {H H' : Hp} {p : Addr} {o : HO} (e : Ex H H') (h : H p = none) : Ex H (upd H' p o) := fun a u ha => by
  rw [upd_ne (ne_of_none ha h)]
  exact e a u ha
theorem Ex.back {H H' : Hp} {p : Addr} (e : Ex H H') (h : H' p = none) : H p = none := by
  cases h1 : H p with
  | none => rfl
  | some o =>
    rw [e p o h1] at h
    cases h
theorem Ex.l {K : PySem.W.Frag} {H H' : Hp} {a : Addr} {xs : List V} (e : Ex H H') (h : SqL K H a xs) : SqL K H' a xs := by
  rcases h with (h | ⟨o, h⟩) | h
  · exact .inl (.inl (e _ _ h))
  · exact .inl (.inr ⟨o, e _ _ h⟩)
  · exact .inr h
theorem Ex.t {K : PySem.W.Frag} {H H' : Hp} {a : Addr} {xs : List V} (e : Ex H H') (h : SqT K H a xs) : SqT K H' a xs := by
  rcases h with (h | ⟨o, h⟩) | h
  · exact .inl (.inl (e _ _ h))
  · exact .inl (.inr ⟨o, e _ _ h⟩)
  · exact .inr h
mutual
inductive Rep (K : PySem.W.Frag) (G : Hp) : V → D → Prop
  | non : Rep K G .non .non
  | bl (b : Bool) : Rep K G (.bl b) (.bl b)
  | int (i : Int) : Rep K G (.int i) (.int i)
  | str (s : Str) : Rep K G (.str s) (.str s)
  | lst {a : Addr} {xs : List V} {ds : List D} : G a = some (.lst xs) → RepL K G xs ds → Rep K G (.ref a) (.lst ds)
  | tup {a : Addr} {xs : List V} {ds : List D} : SqT K G a xs → RepL K G xs ds → Rep K G (.ref a) (.tup ds)
  | scr {a : Addr} {ns : List Int} : SqL K G a (ns.map V.int) → Rep K G (.ref a) (.scr ns)
  | dic {a : Addr} {ps : List (Key × V)} {ds : List (Key × D)} : G a = some (.dK ps) → RepK K G ps ds → Rep K G (.ref a) (.dic ds)
  | ldc {a : Addr} {od : Obj} {ps : List (Key × V)} {ds : List (Key × D)} : G a = some (.frz od (.dK ps)) → RepK K G ps ds → Rep K G (.ref a) (.ldc ds)
  | obj {a C dx : Addr} {fs : List (Str × V)} {ds : List (Str × D)} : G a = some (.ins C dx fs) → RepF K G fs ds → Rep K G (.ref a) (.obj C ds)
  | raw {a : Addr} : Rep K G (.ref a) .raw
inductive RepL (K : PySem.W.Frag) (G : Hp) : List V → List D → Prop
  | nil : RepL K G [] []
  | cons {v : V} {vs : List V} {d : D} {ds : List D} : Rep K G v d → RepL K G vs ds → RepL K G (v :: vs) (d :: ds)
inductive RepK (K : PySem.W.Frag) (G : Hp) : List (Key × V) → List (Key × D) → Prop
  | nil : RepK K G [] []
  | cons {k : Key} {v : V} {vs : List (Key × V)} {d : D} {ds : List (Key × D)} : Rep K G v d → RepK K G vs ds → RepK K G ((k, v) :: vs) ((k, d) :: ds)
inductive RepF (K : PySem.W.Frag) (G : Hp) : List (Str × V) → List (Str × D) → Prop
  | nil : RepF K G [] []
  | cons {k : Str} {v : V} {vs : List (Str × V)} {d : D} {ds : List (Str × D)} : Rep K G v d → RepF K G vs ds → RepF K G ((k, v) :: vs) ((k, d) :: ds)
end
section
variable {K : PySem.W.Frag} {G G' : Hp}
mutual
theorem Rep.mono (e : Ex G G') {v : V} : {d : D} → Rep K G v d → Rep K G' v d
  | .non, h => by cases h; exact .non
  | .bl _, h => by cases h; exact .bl _
  | .int _, h => by cases h; exact .int _
  | .str _, h => by cases h; exact .str _
  | .lst ds, h => by cases h with | lst h1 h2 => exact .lst (e _ _ h1) (RepL.mono e h2)
  | .tup ds, h => by cases h with | tup h1 h2 => exact .tup (e.t h1) (RepL.mono e h2)
  | .scr _, h => by cases h with | scr h1 => exact .scr (e.l h1)
  | .dic ds, h => by cases h with | dic h1 h2 => exact .dic (e _ _ h1) (RepK.mono e h2)
  | .ldc ds, h => by cases h with | ldc h1 h2 => exact .ldc (e _ _ h1) (RepK.mono e h2)
  | .obj C ds, h => by cases h with | obj h1 h2 => exact .obj (e _ _ h1) (RepF.mono e h2)
  | .raw, h => by cases h; exact .raw
theorem RepL.mono (e : Ex G G') {vs : List V} : {ds : List D} → RepL K G vs ds → RepL K G' vs ds
  | [], h => by cases h; exact .nil
  | _ :: _, h => by cases h with | cons h1 h2 => exact .cons (Rep.mono e h1) (RepL.mono e h2)
theorem RepK.mono (e : Ex G G') {vs : List (Key × V)} : {ds : List (Key × D)} → RepK K G vs ds → RepK K G' vs ds
  | [], h => by cases h; exact .nil
  | (_, _) :: _, h => by cases h with | cons h1 h2 => exact .cons (Rep.mono e h1) (RepK.mono e h2)
theorem RepF.mono (e : Ex G G') {vs : List (Str × V)} : {ds : List (Str × D)} → RepF K G vs ds → RepF K G' vs ds
  | [], h => by cases h; exact .nil
  | (_, _) :: _, h => by cases h with | cons h1 h2 => exact .cons (Rep.mono e h1) (RepF.mono e h2)
end
theorem RepL.length {vs : List V} {ds : List D} (h : RepL K G vs ds) : vs.length = ds.length := by
  induction ds generalizing vs with
  | nil => cases h; rfl
  | cons d ds ih => cases h with | cons h1 h2 => simp [ih h2]
theorem RepL.get {vs : List V} {ds : List D} {i : Nat} {d : D} (h : RepL K G vs ds) (e : ds[i]? = some d) : ∃ v, vs[i]? = some v ∧ Rep K G v d := by
  induction ds generalizing vs i with
  | nil => simp at e
  | cons d0 ds ih =>
    cases h with
    | cons h1 h2 =>
      cases i with
      | zero => simp at e; subst e; exact ⟨_, rfl, h1⟩
      | succ i =>
        obtain ⟨v, e1, e2⟩ := ih h2 (by simpa using e)
        exact ⟨v, by simpa using e1, e2⟩
theorem RepL.getV {vs : List V} {ds : List D} {i : Nat} {v : V} (h : RepL K G vs ds) (e : vs[i]? = some v) : ∃ d, ds[i]? = some d ∧ Rep K G v d := by
  have hl := h.length
  have hi : i < ds.length := by
    have := (List.getElem?_eq_some_iff.mp e).1
    omega
  obtain ⟨w, e1, e2⟩ := h.get (List.getElem?_eq_getElem hi)
  rw [e] at e1
  cases e1
  exact ⟨_, List.getElem?_eq_getElem hi, e2⟩
theorem RepL.app {vs ws : List V} {ds es : List D} (h : RepL K G vs ds) (h' : RepL K G ws es) : RepL K G (vs ++ ws) (ds ++ es) := by
  induction ds generalizing vs with
  | nil => cases h; exact h'
  | cons d ds ih => cases h with | cons h1 h2 => exact .cons h1 (ih h2)
theorem RepL.take {vs : List V} {ds : List D} (n : Nat) (h : RepL K G vs ds) : RepL K G (vs.take n) (ds.take n) := by
  induction ds generalizing vs n with
  | nil => cases h; simp; exact .nil
  | cons d ds ih =>
    cases h with
    | cons h1 h2 =>
      cases n with
      | zero => exact .nil
      | succ n => exact .cons h1 (ih n h2)
theorem RepL.drop {vs : List V} {ds : List D} (n : Nat) (h : RepL K G vs ds) : RepL K G (vs.drop n) (ds.drop n) := by
  induction ds generalizing vs n with
  | nil => cases h; simp; exact .nil
  | cons d ds ih =>
    cases h with
    | cons h1 h2 =>
      cases n with
      | zero => exact .cons h1 h2
      | succ n => exact ih n h2
theorem RepL.ints {vs : List V} {ns : List Int} (h : RepL K G vs (ns.map D.int)) : vs = ns.map V.int := by
  induction ns generalizing vs with
  | nil => cases h; rfl
  | cons n ns ih =>
    cases h with
    | cons h1 h2 => cases h1; rw [ih h2]; rfl
theorem RepL.of_ints (ns : List Int) : RepL K G (ns.map V.int) (ns.map D.int) := by
  induction ns with
  | nil => exact .nil
  | cons n ns ih => exact .cons (.int n) ih
theorem Rep.int_inv {v : V} {i : Int} (h : Rep K G v (.int i)) : v = .int i := by cases h; rfl
theorem Rep.bl_inv {v : V} {i : Bool} (h : Rep K G v (.bl i)) : v = .bl i := by cases h; rfl
theorem Rep.str_inv {v : V} {i : Str} (h : Rep K G v (.str i)) : v = .str i := by cases h; rfl
theorem Rep.non_inv {v : V} (h : Rep K G v .non) : v = .non := by cases h; rfl
end
/-- what is known of a thing of one address -/
structure Raw where
  q : PySem.W.Frag → Hp → Addr → HO → Prop
  mono : ∀ {K : PySem.W.Frag} {G G' : Hp} {a : Addr} {u : HO}, Ex G G' → q K G a u → q K G' a u
mutual
/-- what is held by nobody else and may be changed -/
inductive Own where
  | lst (ds : List D)
  | dic (ds : List (Key × D))
  | tupO (ps : List Pt)
  | lstO (ps : List Pt)
  | dicO (ps : List (Key × Pt))
  | objO (C : Addr) (fs : List (Str × Pt))
  /-- an object that is known to lie at a -/
  | objA (a C : Addr) (fs : List (Str × Pt))
  /-- a thing that is known to lie at a -/
  | pin (a : Addr) (o : Own)
  | raw (r : Raw)
/-- a part of such a thing: data, or held too -/
inductive Pt where
  | dat (d : D)
  | own (o : Own)
end
/-- what is known of a slot, of a value; vw: lent by the caller, to be read -/
inductive Sl where
  | any
  | dat (d : D)
  | own (o : Own)
  | vw (o : Own)
  /-- the exception at a, in an except suite -/
  | exn (a : Addr) (d : Option Addr) (fs : List (Str × D))
/-- the exception's dict d bears the fields fs -/
def XdG (K : PySem.W.Frag) (G : Hp) (d : Option Addr) (fs : List (Str × D)) : Prop := (d = none ∧ fs = []) ∨ ∃ dd vs, d = some dd ∧ G dd = some (.xd vs) ∧ RepF K G vs fs
mutual
/-- o lies at a, over the addresses fp -/
inductive OwnAt (K : PySem.W.Frag) (G H : Hp) : Addr → Own → List Addr → Prop
  | lst {a : Addr} {xs : List V} {ds : List D} : H a = some (.lst xs) → RepL K G xs ds → OwnAt K G H a (.lst ds) [a]
  | dic {a : Addr} {xs : List (Key × V)} {ds : List (Key × D)} : H a = some (.dK xs) → RepK K G xs ds → OwnAt K G H a (.dic ds) [a]
  | tupO {a : Addr} {xs : List V} {ps : List Pt} {fp : List Addr} : H a = some (.tup xs) → PtsL K G H xs ps fp → OwnAt K G H a (.tupO ps) (a :: fp)
  | lstO {a : Addr} {xs : List V} {ps : List Pt} {fp : List Addr} : H a = some (.lst xs) → PtsL K G H xs ps fp → OwnAt K G H a (.lstO ps) (a :: fp)
  | dicO {a : Addr} {xs : List (Key × V)} {ps : List (Key × Pt)} {fp : List Addr} : H a = some (.dK xs) → PtsK K G H xs ps fp → OwnAt K G H a (.dicO ps) (a :: fp)
  | objO {a C dx : Addr} {xs : List (Str × V)} {ps : List (Str × Pt)} {fp : List Addr} : H a = some (.ins C dx xs) → PtsF K G H xs ps fp → OwnAt K G H a (.objO C ps) (a :: fp)
  | objA {a C dx : Addr} {xs : List (Str × V)} {ps : List (Str × Pt)} {fp : List Addr} : H a = some (.ins C dx xs) → PtsF K G H xs ps fp → OwnAt K G H a (.objA a C ps) (a :: fp)
  | pin {a : Addr} {o : Own} {fp : List Addr} : OwnAt K G H a o fp → OwnAt K G H a (.pin a o) fp
  | raw {a : Addr} {u : HO} {r : Raw} : H a = some u → r.q K G a u → OwnAt K G H a (.raw r) [a]
inductive PtAt (K : PySem.W.Frag) (G H : Hp) : V → Pt → List Addr → Prop
  | dat {v : V} {d : D} : Rep K G v d → PtAt K G H v (.dat d) []
  | own {a : Addr} {o : Own} {fp : List Addr} : OwnAt K G H a o fp → PtAt K G H (.ref a) (.own o) fp
inductive PtsL (K : PySem.W.Frag) (G H : Hp) : List V → List Pt → List Addr → Prop
  | nil : PtsL K G H [] [] []
  | cons {v : V} {vs : List V} {p : Pt} {ps : List Pt} {f fp : List Addr} : PtAt K G H v p f → PtsL K G H vs ps fp → PtsL K G H (v :: vs) (p :: ps) (f ++ fp)
inductive PtsK (K : PySem.W.Frag) (G H : Hp) : List (Key × V) → List (Key × Pt) → List Addr → Prop
  | nil : PtsK K G H [] [] []
  | cons {k : Key} {v : V} {vs : List (Key × V)} {p : Pt} {ps : List (Key × Pt)} {f fp : List Addr} : PtAt K G H v p f → PtsK K G H vs ps fp → PtsK K G H ((k, v) :: vs) ((k, p) :: ps) (f ++ fp)
inductive PtsF (K : PySem.W.Frag) (G H : Hp) : List (Str × V) → List (Str × Pt) → List Addr → Prop
  | nil : PtsF K G H [] [] []
  | cons {k : Str} {v : V} {vs : List (Str × V)} {p : Pt} {ps : List (Str × Pt)} {f fp : List Addr} : PtAt K G H v p f → PtsF K G H vs ps fp → PtsF K G H ((k, v) :: vs) ((k, p) :: ps) (f ++ fp)
end
section
variable {K : PySem.W.Frag} {G G' H H' : Hp}
mutual
/-- what is changed elsewhere is no change -/
theorem OwnAt.frame (eg : Ex G G') {a : Addr} : {o : Own} → {fp : List Addr} → OwnAt K G H a o fp → (∀ f ∈ fp, H' f = H f) → OwnAt K G' H' a o fp
  | .lst ds, _, h, e => by cases h with | lst h1 h2 => exact .lst ((e _ (by simp)).trans h1) (h2.mono eg)
  | .dic ds, _, h, e => by cases h with | dic h1 h2 => exact .dic ((e _ (by simp)).trans h1) (h2.mono eg)
  | .tupO ps, _, h, e => by cases h with | tupO h1 h2 => exact .tupO ((e _ (by simp)).trans h1) (PtsL.frame eg h2 fun f hf => e f (by simp [hf]))
  | .lstO ps, _, h, e => by cases h with | lstO h1 h2 => exact .lstO ((e _ (by simp)).trans h1) (PtsL.frame eg h2 fun f hf => e f (by simp [hf]))
  | .dicO ps, _, h, e => by cases h with | dicO h1 h2 => exact .dicO ((e _ (by simp)).trans h1) (PtsK.frame eg h2 fun f hf => e f (by simp [hf]))
  | .objO C ps, _, h, e => by cases h with | objO h1 h2 => exact .objO ((e _ (by simp)).trans h1) (PtsF.frame eg h2 fun f hf => e f (by simp [hf]))
  | .objA _ C ps, _, h, e => by cases h with | objA h1 h2 => exact .objA ((e _ (by simp)).trans h1) (PtsF.frame eg h2 fun f hf => e f (by simp [hf]))
  | .pin _ o, _, h, e => by cases h with | pin h1 => exact .pin (OwnAt.frame eg h1 e)
  | .raw r, _, h, e => by cases h with | raw h1 h2 => exact .raw ((e _ (by simp)).trans h1) (r.mono eg h2)
theorem PtAt.frame (eg : Ex G G') {v : V} : {p : Pt} → {fp : List Addr} → PtAt K G H v p fp → (∀ f ∈ fp, H' f = H f) → PtAt K G' H' v p fp
  | .dat d, _, h, e => by cases h with | dat h1 => exact .dat (h1.mono eg)
  | .own o, _, h, e => by cases h with | own h1 => exact .own (OwnAt.frame eg h1 e)
theorem PtsL.frame (eg : Ex G G') {vs : List V} : {ps : List Pt} → {fp : List Addr} → PtsL K G H vs ps fp → (∀ f ∈ fp, H' f = H f) → PtsL K G' H' vs ps fp
  | [], _, h, e => by cases h; exact .nil
  | _ :: _, _, h, e => by cases h with | cons h1 h2 => exact .cons (PtAt.frame eg h1 fun f hf => e f (by simp [hf])) (PtsL.frame eg h2 fun f hf => e f (by simp [hf]))
theorem PtsK.frame (eg : Ex G G') {vs : List (Key × V)} : {ps : List (Key × Pt)} → {fp : List Addr} → PtsK K G H vs ps fp → (∀ f ∈ fp, H' f = H f) → PtsK K G' H' vs ps fp
  | [], _, h, e => by cases h; exact .nil
  | (_, _) :: _, _, h, e => by cases h with | cons h1 h2 => exact .cons (PtAt.frame eg h1 fun f hf => e f (by simp [hf])) (PtsK.frame eg h2 fun f hf => e f (by simp [hf]))
theorem PtsF.frame (eg : Ex G G') {vs : List (Str × V)} : {ps : List (Str × Pt)} → {fp : List Addr} → PtsF K G H vs ps fp → (∀ f ∈ fp, H' f = H f) → PtsF K G' H' vs ps fp
  | [], _, h, e => by cases h; exact .nil
  | (_, _) :: _, _, h, e => by cases h with | cons h1 h2 => exact .cons (PtAt.frame eg h1 fun f hf => e f (by simp [hf])) (PtsF.frame eg h2 fun f hf => e f (by simp [hf]))
end
mutual
/-- it stands in the heap -/
theorem OwnAt.there {a : Addr} : {o : Own} → {fp : List Addr} → OwnAt K G H a o fp → ∀ f ∈ fp, ∃ u, H f = some u
  | .lst ds, _, h, f, hf => by cases h with | lst h1 h2 => simp at hf; subst hf; exact ⟨_, h1⟩
  | .dic ds, _, h, f, hf => by cases h with | dic h1 h2 => simp at hf; subst hf; exact ⟨_, h1⟩
  | .tupO ps, _, h, f, hf => by cases h with | tupO h1 h2 => exact (List.mem_cons.mp hf).elim (fun e => by subst e; exact ⟨_, h1⟩) (PtsL.there h2 f)
  | .lstO ps, _, h, f, hf => by cases h with | lstO h1 h2 => exact (List.mem_cons.mp hf).elim (fun e => by subst e; exact ⟨_, h1⟩) (PtsL.there h2 f)
  | .dicO ps, _, h, f, hf => by cases h with | dicO h1 h2 => exact (List.mem_cons.mp hf).elim (fun e => by subst e; exact ⟨_, h1⟩) (PtsK.there h2 f)
  | .objO C ps, _, h, f, hf => by cases h with | objO h1 h2 => exact (List.mem_cons.mp hf).elim (fun e => by subst e; exact ⟨_, h1⟩) (PtsF.there h2 f)
  | .objA _ C ps, _, h, f, hf => by cases h with | objA h1 h2 => exact (List.mem_cons.mp hf).elim (fun e => by subst e; exact ⟨_, h1⟩) (PtsF.there h2 f)
  | .pin _ o, _, h, f, hf => by cases h with | pin h1 => exact OwnAt.there h1 f hf
  | .raw r, _, h, f, hf => by cases h with | raw h1 h2 => simp at hf; subst hf; exact ⟨_, h1⟩
theorem PtAt.there {v : V} : {p : Pt} → {fp : List Addr} → PtAt K G H v p fp → ∀ f ∈ fp, ∃ u, H f = some u
  | .dat d, _, h, f, hf => by cases h; cases hf
  | .own o, _, h, f, hf => by cases h with | own h1 => exact OwnAt.there h1 f hf
theorem PtsL.there {vs : List V} : {ps : List Pt} → {fp : List Addr} → PtsL K G H vs ps fp → ∀ f ∈ fp, ∃ u, H f = some u
  | [], _, h, f, hf => by cases h; cases hf
  | _ :: _, _, h, f, hf => by cases h with | cons h1 h2 => exact (List.mem_append.mp hf).elim (PtAt.there h1 f) (PtsL.there h2 f)
theorem PtsK.there {vs : List (Key × V)} : {ps : List (Key × Pt)} → {fp : List Addr} → PtsK K G H vs ps fp → ∀ f ∈ fp, ∃ u, H f = some u
  | [], _, h, f, hf => by cases h; cases hf
  | (_, _) :: _, _, h, f, hf => by cases h with | cons h1 h2 => exact (List.mem_append.mp hf).elim (PtAt.there h1 f) (PtsK.there h2 f)
theorem PtsF.there {vs : List (Str × V)} : {ps : List (Str × Pt)} → {fp : List Addr} → PtsF K G H vs ps fp → ∀ f ∈ fp, ∃ u, H f = some u
  | [], _, h, f, hf => by cases h; cases hf
  | (_, _) :: _, _, h, f, hf => by cases h with | cons h1 h2 => exact (List.mem_append.mp hf).elim (PtAt.there h1 f) (PtsF.there h2 f)
end
mutual
/-- as data -/
def Own.dat : Own → D
  | .lst ds => .lst ds
  | .dic ds => .dic ds
  | .tupO ps => .tup (datL ps)
  | .lstO ps => .lst (datL ps)
  | .dicO ps => .dic (datK ps)
  | .objO C ps => .obj C (datF ps)
  | .objA _ C ps => .obj C (datF ps)
  | .pin _ o => o.dat
  | .raw _ => .raw
def Pt.toD : Pt → D
  | .dat d => d
  | .own o => o.dat
def datL : List Pt → List D
  | [] => []
  | p :: ps => p.toD :: datL ps
def datK : List (Key × Pt) → List (Key × D)
  | [] => []
  | (k, p) :: ps => (k, p.toD) :: datK ps
def datF : List (Str × Pt) → List (Str × D)
  | [] => []
  | (k, p) :: ps => (k, p.toD) :: datF ps
end
mutual
/-- what is frozen with all its addresses is data -/
theorem OwnAt.rep (eg : Ex G G') {a : Addr} : {o : Own} → {fp : List Addr} → OwnAt K G H a o fp → (∀ f ∈ fp, G' f = H f) → Rep K G' (.ref a) o.dat
  | .lst ds, _, h, e => by cases h with | lst h1 h2 => exact .lst ((e _ (by simp)).trans h1) (h2.mono eg)
  | .dic ds, _, h, e => by cases h with | dic h1 h2 => exact .dic ((e _ (by simp)).trans h1) (h2.mono eg)
  | .tupO ps, _, h, e => by cases h with | tupO h1 h2 => exact .tup (.of ((e _ (by simp)).trans h1)) (PtsL.rep eg h2 fun f hf => e f (by simp [hf]))
  | .lstO ps, _, h, e => by cases h with | lstO h1 h2 => exact .lst ((e _ (by simp)).trans h1) (PtsL.rep eg h2 fun f hf => e f (by simp [hf]))
  | .dicO ps, _, h, e => by cases h with | dicO h1 h2 => exact .dic ((e _ (by simp)).trans h1) (PtsK.rep eg h2 fun f hf => e f (by simp [hf]))
  | .objO C ps, _, h, e => by cases h with | objO h1 h2 => exact .obj ((e _ (by simp)).trans h1) (PtsF.rep eg h2 fun f hf => e f (by simp [hf]))
  | .objA _ C ps, _, h, e => by cases h with | objA h1 h2 => exact .obj ((e _ (by simp)).trans h1) (PtsF.rep eg h2 fun f hf => e f (by simp [hf]))
  | .pin _ o, _, h, e => by cases h with | pin h1 => exact OwnAt.rep (o := o) eg h1 e
  | .raw r, _, h, e => by cases h with | raw h1 h2 => exact .raw
theorem PtAt.rep (eg : Ex G G') {v : V} : {p : Pt} → {fp : List Addr} → PtAt K G H v p fp → (∀ f ∈ fp, G' f = H f) → Rep K G' v p.toD
  | .dat d, _, h, e => by cases h with | dat h1 => exact h1.mono eg
  | .own o, _, h, e => by cases h with | own h1 => exact OwnAt.rep eg h1 e
theorem PtsL.rep (eg : Ex G G') {vs : List V} : {ps : List Pt} → {fp : List Addr} → PtsL K G H vs ps fp → (∀ f ∈ fp, G' f = H f) → RepL K G' vs (datL ps)
  | [], _, h, e => by cases h; exact .nil
  | _ :: _, _, h, e => by cases h with | cons h1 h2 => exact .cons (PtAt.rep eg h1 fun f hf => e f (by simp [hf])) (PtsL.rep eg h2 fun f hf => e f (by simp [hf]))
theorem PtsK.rep (eg : Ex G G') {vs : List (Key × V)} : {ps : List (Key × Pt)} → {fp : List Addr} → PtsK K G H vs ps fp → (∀ f ∈ fp, G' f = H f) → RepK K G' vs (datK ps)
  | [], _, h, e => by cases h; exact .nil
  | (_, _) :: _, _, h, e => by cases h with | cons h1 h2 => exact .cons (PtAt.rep eg h1 fun f hf => e f (by simp [hf])) (PtsK.rep eg h2 fun f hf => e f (by simp [hf]))
theorem PtsF.rep (eg : Ex G G') {vs : List (Str × V)} : {ps : List (Str × Pt)} → {fp : List Addr} → PtsF K G H vs ps fp → (∀ f ∈ fp, G' f = H f) → RepF K G' vs (datF ps)
  | [], _, h, e => by cases h; exact .nil
  | (_, _) :: _, _, h, e => by cases h with | cons h1 h2 => exact .cons (PtAt.rep eg h1 fun f hf => e f (by simp [hf])) (PtsF.rep eg h2 fun f hf => e f (by simp [hf]))
end
end
/-- from the frozen part G and the heap H on: both grow, what is newly frozen is new -/
structure Stp (G H G' H' : Hp) : Prop where
  g : Ex G G'
  h : Ex H H'
  gh : Ex G' H'
  fr : ∀ a o, G' a = some o → G a = some o ∨ H a = none
theorem Stp.refl {G H : Hp} (e : Ex G H) : Stp G H G H := ⟨.refl G, .refl H, e, fun _ _ h => .inl h⟩
theorem Stp.trans {G H G1 H1 G2 H2 : Hp} (a : Stp G H G1 H1) (b : Stp G1 H1 G2 H2) : Stp G H G2 H2 :=
  ⟨a.g.trans b.g, a.h.trans b.h, b.gh, fun p o q => (b.fr p o q).elim (fun z => a.fr p o z) fun z => .inr (a.h.back z)⟩
/-- a new object that is not frozen -/
theorem Stp.new {G H : Hp} {p : Addr} {o : HO} (e : Ex G H) (h : H p = none) : Stp G H G (upd H p o) :=
  ⟨.refl G, .new h, e.trans (.new h), fun _ _ q => .inl q⟩
/-- a new object that is frozen -/
theorem Stp.newF {G H : Hp} {p : Addr} {o : HO} (e : Ex G H) (h : H p = none) : Stp G H (upd G p o) (upd H p o) :=
  ⟨.new (e.back h), .new h, fun a u q => by
    unfold upd at q ⊢
    split at q
    · rename_i z; rw [if_pos z]; exact q
    · rename_i z; rw [if_neg z]; exact e a u q, fun a u q => by
    unfold upd at q
    split at q
    · rename_i z; rw [z]; exact .inr h
    · exact .inl q⟩
/-- what was new stays apart from the frozen part -/
theorem Stp.out {G H G' H' : Hp} (t : Stp G H G' H') {a : Addr} {o : HO} (h : H a = some o) (g : G a = none) : G' a = none := by
  cases e : G' a with
  | none => rfl
  | some u =>
    rcases t.fr a u e with z | z
    · rw [g] at z; cases z
    · rw [h] at z; cases z
theorem Stp.same {G H G' H' : Hp} (t : Stp G H G' H') {a : Addr} (h : ∃ o, H a = some o) : H' a = H a := by
  obtain ⟨o, e⟩ := h
  rw [e, t.h a o e]
/-- o lies at a, whosever it is: held, or frozen -/
inductive Vw (K : PySem.W.Frag) (G H : Hp) : Addr → Own → Prop
  | own {a : Addr} {o : Own} {fp : List Addr} : OwnAt K G H a o fp → Vw K G H a o
  | dat {a : Addr} {o : Own} : Rep K G (.ref a) o.dat → Vw K G H a o
theorem Vw.step {K : PySem.W.Frag} {G H G' H' : Hp} {a : Addr} {o : Own} (h : Vw K G H a o) (g : Ex G G') (e : Ex H H') : Vw K G' H' a o := by
  cases h with
  | own w => exact .own (w.frame g fun f hf => by
      obtain ⟨u, hu⟩ := w.there f hf
      rw [hu, e f u hu])
  | dat r => exact .dat (r.mono g)
/-- the frozen part and the heap at the entry; V0: the frozen part under what is lent -/
structure Bs where
  G0 : Hp
  H0 : Hp
  V0 : Hp
theorem XdG.mono {K : PySem.W.Frag} {G G' : Hp} {d : Option Addr} {fs : List (Str × D)} (h : XdG K G d fs) (eg : Ex G G') : XdG K G' d fs := h.imp (fun z => z) fun ⟨dd, vs, e, h1, h2⟩ => ⟨dd, vs, e, eg _ _ h1, RepF.mono eg h2⟩
/-- one slot, over the addresses f -/
inductive Piece (K : PySem.W.Frag) (B : Bs) (G H : Hp) : Option V → Sl → List Addr → Prop
  | any (x : Option V) : Piece K B G H x .any []
  | dat {v : V} {d : D} : Rep K G v d → Piece K B G H (some v) (.dat d) []
  | own {a : Addr} {o : Own} {f : List Addr} : OwnAt K G H a o f → Piece K B G H (some (.ref a)) (.own o) f
  | vw {a : Addr} {o : Own} : Vw K B.V0 B.H0 a o → Piece K B G H (some (.ref a)) (.vw o) []
  | exn {a : Addr} {d : Option Addr} {fs : List (Str × D)} : XdG K G d fs → Piece K B G H (some (.ref a)) (.exn a d fs) []
inductive Sls (K : PySem.W.Frag) (B : Bs) (G H : Hp) : St → List Sl → List Addr → Prop
  | nil : Sls K B G H [] [] []
  | cons {x : Option V} {σ : St} {s : Sl} {ss : List Sl} {f fp : List Addr} : Piece K B G H x s f → Sls K B G H σ ss fp → Sls K B G H (x :: σ) (s :: ss) (f ++ fp)
section
variable {K : PySem.W.Frag} {B : Bs} {G G' H H' : Hp} {ss : List Sl} {σ : St} {fp : List Addr} {x : Option V} {s : Sl} {n : Nat}
theorem Piece.frame (h : Piece K B G H x s fp) (eg : Ex G G') (e : ∀ f ∈ fp, H' f = H f) : Piece K B G' H' x s fp := by
  cases h with
  | any => exact .any _
  | dat h => exact .dat (h.mono eg)
  | own h => exact .own (h.frame eg e)
  | vw h => exact .vw h
  | exn h => exact .exn (h.mono eg)
theorem Piece.there (h : Piece K B G H x s fp) : ∀ f ∈ fp, ∃ u, H f = some u := by
  cases h with
  | any => intro f hf; cases hf
  | dat h => intro f hf; cases hf
  | own h => exact h.there
  | vw h => intro f hf; cases hf
  | exn => intro f hf; cases hf
theorem Sls.length (h : Sls K B G H σ ss fp) : ss.length = σ.length := by
  induction h with
  | nil => rfl
  | cons _ _ ih => simp [ih]
theorem Sls.frame (h : Sls K B G H σ ss fp) (eg : Ex G G') (e : ∀ f ∈ fp, H' f = H f) : Sls K B G' H' σ ss fp := by
  induction h with
  | nil => exact .nil
  | cons h1 h2 ih => exact .cons (h1.frame eg fun f hf => e f (by simp [hf])) (ih fun f hf => e f (by simp [hf]))
theorem Sls.there (h : Sls K B G H σ ss fp) : ∀ f ∈ fp, ∃ u, H f = some u := by
  induction h with
  | nil => intro f hf; cases hf
  | cons h1 h2 ih => intro f hf; exact (List.mem_append.mp hf).elim (h1.there f) (ih f)
/-- one slot taken out -/
theorem Sls.split (h : Sls K B G H σ ss fp) (hn : ss[n]? = some s) : ∃ x l f r, fp = l ++ f ++ r ∧ σ[n]? = some x ∧ Piece K B G H x s f ∧
    ∀ G' H' x' s' f', Ex G G' → (∀ z ∈ l ++ r, H' z = H z) → Piece K B G' H' x' s' f' → Sls K B G' H' (σ.set n x') (ss.set n s') (l ++ f' ++ r) := by
  induction h generalizing n with
  | nil => simp at hn
  | @cons x σ s0 ss f fp h1 h2 ih =>
    cases n with
    | zero =>
      simp at hn
      subst hn
      refine ⟨x, [], f, fp, by simp, by simp, h1, fun G' H' x' s' f' eg e p => ?_⟩
      simpa using Sls.cons p (h2.frame eg fun z hz => e z (by simpa using hz))
    | succ n =>
      obtain ⟨y, l, g, r, e1, e2, e3, e4⟩ := ih (by simpa using hn)
      refine ⟨y, f ++ l, g, r, by rw [e1]; simp, by simpa using e2, e3, fun G' H' x' s' f' eg e p => ?_⟩
      have q := Sls.cons (h1.frame eg fun z hz => e z (by simp [hz])) (e4 G' H' x' s' f' eg (fun z hz => e z (by simp at hz ⊢; exact hz.elim (fun q => .inr (.inl q)) fun q => .inr (.inr q))) p)
      simpa using q
end
structure Sat (K : PySem.W.Frag) (B : Bs) (G : Hp) (ss : List Sl) (σ : St) (H : Hp) : Prop where
  st : Stp B.G0 B.H0 G H
  v0 : Ex B.V0 G
  sl : ∃ fp, Sls K B G H σ ss fp ∧ fp.Nodup ∧ ∀ f ∈ fp, G f = none ∧ B.H0 f = none
/-- what a value is, H being the heap ahead of it -/
def ROk (K : PySem.W.Frag) (G' H H' : Hp) (v : V) : Sl → Prop
  | .any => True
  | .dat d => Rep K G' v d
  | .own o => ∃ a fp, v = .ref a ∧ OwnAt K G' H' a o fp ∧ fp.Nodup ∧ ∀ f ∈ fp, H f = none ∧ G' f = none
  | .vw _ => False
  | .exn _ _ _ => False
section
variable {K : PySem.W.Frag} {B : Bs} {G G' H H' : Hp} {ss : List Sl} {σ : St} {n : Nat}
theorem Sat.gh (S : Sat K B G ss σ H) : Ex G H := S.st.gh
theorem Sat.len (S : Sat K B G ss σ H) : ss.length = σ.length := by obtain ⟨fp, h, _⟩ := S.sl; exact h.length
theorem Sat.step (S : Sat K B G ss σ H) (t : Stp G H G' H') : Sat K B G' ss σ H' := by
  obtain ⟨fp, h, nd, out⟩ := S.sl
  exact ⟨S.st.trans t, S.v0.trans t.g, fp, h.frame t.g fun f hf => t.same (h.there f hf), nd, fun f hf => ⟨by
    obtain ⟨u, hu⟩ := h.there f hf
    exact t.out hu (out f hf).1, (out f hf).2⟩⟩
theorem ROk.step {G1 H1 : Hp} {v : V} {r : Sl} (h : ROk K G' H H' v r) (t : Stp G' H' G1 H1) : ROk K G1 H H1 v r := by
  cases r with
  | any => trivial
  | dat d => exact Rep.mono t.g h
  | own o =>
    obtain ⟨a, fp, e, w, nd, out⟩ := h
    exact ⟨a, fp, e, w.frame t.g fun f hf => t.same (w.there f hf), nd, fun f hf => ⟨(out f hf).1, by
      obtain ⟨u, hu⟩ := w.there f hf
      exact t.out hu (out f hf).2⟩⟩
  | vw o => exact h
  | exn a d fs => exact h
theorem ROk.from {H0 : Hp} {v : V} {r : Sl} (h : ROk K G' H H' v r) (e : Ex H0 H) : ROk K G' H0 H' v r := by
  cases r with
  | any => trivial
  | dat d => exact h
  | own o => obtain ⟨a, fp, e1, w, nd, out⟩ := h; exact ⟨a, fp, e1, w, nd, fun f hf => ⟨e.back (out f hf).1, (out f hf).2⟩⟩
  | vw o => exact h
  | exn a d fs => exact h
theorem Sat.dat {d : D} (S : Sat K B G ss σ H) (h : ss[n]? = some (.dat d)) : ∃ v, σ[n]? = some (some v) ∧ Rep K G v d := by
  obtain ⟨fp, q, _⟩ := S.sl
  obtain ⟨x, l, f, r, _, e2, e3, _⟩ := q.split h
  cases e3 with
  | dat z => exact ⟨_, e2, z⟩
theorem Sat.own {o : Own} (S : Sat K B G ss σ H) (h : ss[n]? = some (.own o)) : ∃ a f, σ[n]? = some (some (.ref a)) ∧ OwnAt K G H a o f ∧ f.Nodup ∧ (∀ z ∈ f, G z = none ∧ B.H0 z = none) := by
  obtain ⟨fp, q, nd, out⟩ := S.sl
  obtain ⟨x, l, f, r, e1, e2, e3, _⟩ := q.split h
  subst e1
  cases e3 with
  | own z => exact ⟨_, f, e2, z, ((List.nodup_append.mp (List.nodup_append.mp nd).1).2.1), fun y hy => out y (by simp [hy])⟩
theorem Sat.vw {o : Own} (S : Sat K B G ss σ H) (h : ss[n]? = some (.vw o)) : ∃ a, σ[n]? = some (some (.ref a)) ∧ Vw K B.V0 B.H0 a o ∧ Vw K G H a o := by
  obtain ⟨fp, q, nd, out⟩ := S.sl
  obtain ⟨x, l, f, r, e1, e2, e3, _⟩ := q.split h
  cases e3 with
  | vw z => exact ⟨_, e2, z, z.step S.v0 S.st.h⟩
theorem Sat.exn {a : Addr} {d : Option Addr} {fs : List (Str × D)} (S : Sat K B G ss σ H) (h : ss[n]? = some (.exn a d fs)) : σ[n]? = some (some (.ref a)) ∧ XdG K G d fs := by
  obtain ⟨fp, q, nd, out⟩ := S.sl
  obtain ⟨x, l, f, r, e1, e2, e3, _⟩ := q.split h
  cases e3 with
  | exn h => exact ⟨e2, h⟩
/-- a slot is set -/
theorem Sat.set (S : Sat K B G ss σ H) {v : V} {r : Sl} {H1 : Hp} (t : Stp G H G' H') (h1 : Ex H1 H) (h : ROk K G' H H' v r) : Sat K B G' (ss.set n r) (σ.set n (some v)) H' := by
  have S' := S.step t
  obtain ⟨fp, q, nd, out⟩ := S.sl
  obtain ⟨fp', q', nd', out'⟩ := S'.sl
  by_cases hn : n < ss.length
  · obtain ⟨x, l, f, w, e1, e2, e3, e4⟩ := (q.frame t.g fun f hf => t.same (q.there f hf)).split (List.getElem?_eq_getElem hn)
    subst e1
    have key : ∃ f', Piece K B G' H' (some v) r f' ∧ f'.Nodup ∧ ∀ z ∈ f', H z = none ∧ G' z = none := by
      cases r with
      | any => exact ⟨[], .any _, .nil, fun z hz => by cases hz⟩
      | dat d => exact ⟨[], .dat h, .nil, fun z hz => by cases hz⟩
      | own o => obtain ⟨a, g, rfl, y, n1, n2⟩ := h; exact ⟨g, .own y, n1, n2⟩
      | vw o => exact h.elim
      | exn a d fs => exact h.elim
    obtain ⟨f', p, n1, n2⟩ := key
    refine ⟨S'.st, S'.v0, l ++ f' ++ w, e4 G' H' _ _ f' (.refl _) (fun _ _ => rfl) p, ?_, ?_⟩
    · have dj : ∀ z ∈ f', z ∉ l ++ f ++ w := fun z hz hm => by
        obtain ⟨u, hu⟩ := q.there z hm
        rw [(n2 z hz).1] at hu
        cases hu
      rw [List.nodup_append] at nd ⊢
      obtain ⟨nl, nw, dlw⟩ := nd
      rw [List.nodup_append] at nl ⊢
      refine ⟨⟨nl.1, n1, fun a ha b hb e => ?_⟩, nw, fun a ha b hb e => ?_⟩
      · subst e; exact dj a hb (by simp [ha])
      · subst e
        rcases List.mem_append.mp ha with z | z
        · exact dlw a (by simp [z]) a hb rfl
        · exact dj a z (by simp [hb])
    · intro z hz
      rw [List.mem_append, List.mem_append] at hz
      rcases hz with (hz | hz) | hz
      · obtain ⟨u, hu⟩ := q.there z (by simp [hz])
        exact ⟨t.out hu (out z (by simp [hz])).1, (out z (by simp [hz])).2⟩
      · exact ⟨(n2 z hz).2, S.st.h.back (n2 z hz).1⟩
      · obtain ⟨u, hu⟩ := q.there z (by simp [hz])
        exact ⟨t.out hu (out z (by simp [hz])).1, (out z (by simp [hz])).2⟩
  · have hn2 : ¬ n < σ.length := by rw [← S.len]; exact hn
    rw [List.set_eq_of_length_le (by omega), List.set_eq_of_length_le (by omega)]
    exact S'
/-- an owned slot changed in place: its addresses may change, others not -/
theorem Sat.put (S : Sat K B G ss σ H) {o o' : Own} {a : Addr} {H1 : Hp} (t : Stp G H G' H1) (hn : ss[n]? = some (.own o)) (ha : σ[n]? = some (some (.ref a)))
    (hw : ∀ f, OwnAt K G H a o f → f.Nodup → (∀ z ∈ f, G z = none ∧ B.H0 z = none) → (∀ z, z ∉ f → H' z = H1 z) ∧ (∀ z ∈ f, ∃ u, H' z = some u) ∧ OwnAt K G' H' a o' f) : Sat K B G' (ss.set n (.own o')) σ H' := by
  obtain ⟨fp, q, nd, out⟩ := S.sl
  obtain ⟨x, l, g, r, e1, e2, e3, e4⟩ := q.split hn
  subst e1
  rw [ha] at e2
  cases e2
  cases e3 with
  | own w =>
    have ng := (List.nodup_append.mp (List.nodup_append.mp nd).1).2.1
    have og : ∀ z ∈ g, G z = none ∧ B.H0 z = none := fun y hy => out y (by simp [hy])
    obtain ⟨k1, k2, k3⟩ := hw g w ng og
    have nd' := nd
    rw [List.nodup_append] at nd'
    have nl := nd'.1
    rw [List.nodup_append] at nl
    have apart : ∀ z ∈ l ++ r, z ∉ g := fun z hz hg => by
      rcases List.mem_append.mp hz with y | y
      · exact nl.2.2 z y z hg rfl
      · exact nd'.2.2 z (by simp [hg]) z y rfl
    have hsame : ∀ z ∈ l ++ r, H' z = H z := fun z hz => by
      rw [k1 z (apart z hz)]
      exact t.same (q.there z (by rcases List.mem_append.mp hz with y | y <;> simp [y]))
    have hσ : σ.set n (some (.ref a)) = σ := by
      apply List.ext_getElem?
      intro i
      by_cases e : n = i
      · subst e
        have hl : n < σ.length := (List.getElem?_eq_some_iff.mp ha).1
        rw [List.getElem?_set_self hl, ha]
      · rw [List.getElem?_set_ne e]
    have q2 := e4 G' H' (some (.ref a)) (.own o') g t.g hsame (.own k3)
    rw [hσ] at q2
    refine ⟨⟨S.st.g.trans t.g, fun z u hz => ?_, fun z u hz => ?_, fun z u hz => (S.st.trans t).fr z u hz⟩, S.v0.trans t.g, _, q2, nd, fun z hz => ⟨?_, (out z hz).2⟩⟩
    · have hng : z ∉ g := fun hg => by rw [(og z hg).2] at hz; cases hz
      rw [k1 z hng]
      exact (S.st.trans t).h z u hz
    · have hng : z ∉ g := fun hg => by
        obtain ⟨w', hw'⟩ := w.there z hg
        rw [t.out hw' (og z hg).1] at hz
        cases hz
      rw [k1 z hng]
      exact t.gh z u hz
    · obtain ⟨u, hu⟩ := q.there z hz
      exact t.out hu (out z hz).1
/-- an owned slot is frozen -/
theorem Sat.frz {o : Own} (S : Sat K B G ss σ H) (h : ss[n]? = some (.own o)) : ∃ G', Ex G G' ∧ Sat K B G' (ss.set n (.dat o.dat)) σ H := by
  obtain ⟨fp, q, nd, out⟩ := S.sl
  obtain ⟨x, l, g, r, e1, e2, e3, e4⟩ := q.split h
  subst e1
  cases e3 with
  | @own a _ _ w =>
    have hG : ∀ z ∈ g, G z = none := fun z hz => (out z (by simp [hz])).1
    let G' : Hp := fun z => if z ∈ g then H z else G z
    have eg : Ex G G' := fun z u hz => by
      show (if z ∈ g then H z else G z) = some u
      rw [if_neg (fun y => by rw [hG z y] at hz; cases hz)]
      exact hz
    have hσ : σ.set n (some (.ref a)) = σ := by
      apply List.ext_getElem?
      intro i
      by_cases e : n = i
      · subst e
        have hl : n < σ.length := (List.getElem?_eq_some_iff.mp e2).1
        rw [List.getElem?_set_self hl, e2]
      · rw [List.getElem?_set_ne e]
    have q2 := e4 G' H (some (.ref a)) (.dat o.dat) [] eg (fun _ _ => rfl) (.dat (w.rep eg fun z hz => by show (if z ∈ g then H z else G z) = H z; rw [if_pos hz]))
    rw [hσ] at q2
    have nd' := nd
    rw [List.nodup_append] at nd'
    have nl := nd'.1
    rw [List.nodup_append] at nl
    refine ⟨G', eg, ⟨S.st.g.trans eg, S.st.h, fun z u hz => ?_, fun z u hz => ?_⟩, S.v0.trans eg, _, q2, ?_, ?_⟩
    · have hz : (if z ∈ g then H z else G z) = some u := hz
      split at hz
      · exact hz
      · exact S.gh z u hz
    · have hz : (if z ∈ g then H z else G z) = some u := hz
      split at hz
      · rename_i y; exact .inr (out z (by simp [y])).2
      · exact S.st.fr z u hz
    · rw [List.append_nil, List.nodup_append]
      exact ⟨nl.1, nd'.2.1, fun a ha b hb => nd'.2.2 a (by simp [ha]) b hb⟩
    · intro z hz
      rw [List.append_nil] at hz
      have hng : z ∉ g := fun y => by
        rcases List.mem_append.mp hz with h1 | h1
        · exact nl.2.2 z h1 z y rfl
        · exact nd'.2.2 z (by simp [y]) z h1 rfl
      refine ⟨?_, (out z (by rcases List.mem_append.mp hz with y | y <;> simp [y])).2⟩
      show (if z ∈ g then H z else G z) = none
      rw [if_neg hng]
      exact (out z (by rcases List.mem_append.mp hz with y | y <;> simp [y])).1
/-- a slot forgotten -/
theorem Sat.anyS (S : Sat K B G ss σ H) (x : Option V) : Sat K B G (ss.set n .any) (σ.set n x) H := by
  obtain ⟨fp, q, nd, out⟩ := S.sl
  by_cases hn : n < ss.length
  · obtain ⟨y, l, g, r, e1, e2, e3, e4⟩ := q.split (List.getElem?_eq_getElem hn)
    subst e1
    have q2 := e4 G H x .any [] (.refl G) (fun _ _ => rfl) (.any x)
    rw [List.append_nil] at q2
    rw [List.nodup_append] at nd
    have nl := nd.1
    rw [List.nodup_append] at nl
    refine ⟨S.st, S.v0, _, q2, ?_, fun z hz => out z (by rcases List.mem_append.mp hz with y | y <;> simp [y])⟩
    rw [List.nodup_append]
    exact ⟨nl.1, nd.2.1, fun a ha b hb => nd.2.2 a (by simp [ha]) b hb⟩
  · have hn2 : ¬ n < σ.length := by rw [← S.len]; exact hn
    rw [List.set_eq_of_length_le (by omega), List.set_eq_of_length_le (by omega)]
    exact S
end
end Lk
namespace Lk
open PySem L2
def mE (X : Cx) (e : Expr) : TE := fun σ H Q => ∀ (pins : List (Addr × Obj)) (s : Shared), Inv X pins σ H s → wpAny (model X.prog X.w) X.A (eval e X.env) (EP X pins σ Q) X.xe s
def mT (X : Cx) (e : Expr) : TT := fun σ H Q => ∀ (pins : List (Addr × Obj)) (s : Shared), Inv X pins σ H s → wpAny (model X.prog X.w) X.A (isTrue e X.env (eval e X.env)) (TP X pins σ Q) X.xe s
def mTw (X : Cx) (e : Expr) : TT := fun σ H Q => ∀ (whole : Sem Value) (pins : List (Addr × Obj)) (s : Shared), Inv X pins σ H s → wpAny (model X.prog X.w) X.A (isTrue e X.env whole) (TP X pins σ Q) X.xe s
def mA (X : Cx) (es : List Expr) : TA := fun σ H Q => ∀ (pos : Pos) (pins : List (Addr × Obj)) (s : Shared), Inv X pins σ H s → wpAny (model X.prog X.w) X.A (spliced (backTo pos (starEach es X.env))) (AP X pins σ Q) X.xe s
def mSs (X : Cx) (st : List Stmt) : TS := fun D σ H => ∀ (pins : List (Addr × Obj)) (s : Shared), Inv X pins σ H s → wpAny (model X.prog X.w) X.A (execs st X.env) (SP X pins D) X.xe s
def mI (X : Cx) (tg it : Expr) : TI := fun σ H R => ∀ (pins : List (Addr × Obj)) (s : Shared), Inv X pins σ H s → wpAny (model X.prog X.w) X.A (eval it X.env) (fun v s1 => wpAny (model X.prog X.w) X.A (pyIter v) (PIE X pins σ tg R) X.xe s1) X.xe s
def mO (X : Cx) (e : Option Expr) : TO := fun σ H Q => ∀ (pins : List (Addr × Obj)) (s : Shared), Inv X pins σ H s → wpAny (model X.prog X.w) X.A (evalPart e X.env) (fun u s' => ∃ o H', Inv X pins σ H' s' ∧ IsPart u o ∧ Q o H') X.xe s
def mC (X : Cx) (op : CmpOp) (a b : Expr) : TE := fun σ H Q => ∀ (pins : List (Addr × Obj)) (s : Shared), Inv X pins σ H s →
  wpAny (model X.prog X.w) X.A (eval a X.env) (fun v s₁ => wpAny (model X.prog X.w) X.A (eval b X.env) (fun u s₂ => wpAny (model X.prog X.w) X.A (compareOp op v u) (EP X pins σ Q) X.xe s₂) X.xe s₁) X.xe s
section
variable {X : Cx} {e : Expr} {σ : St} {H : Hp}
theorem pc_m {op : CmpOp} {a b : Expr} : PC X op a b (mC X op a b) := ⟨fun pins s _ _ _ I h => h pins s I⟩
theorem pe_m : PE X e (mE X e) := ⟨fun pins s _ _ _ I h => h pins s I⟩
theorem pt_m : PT X e (mT X e) := ⟨fun pins s _ _ _ I h => h pins s I⟩
theorem pw_m : PW X e (mTw X e) := ⟨fun wh pins s _ _ _ I h => h wh pins s I⟩
theorem pa_m {es : List Expr} : PA X es (mA X es) := ⟨fun pos pins s _ _ _ I h => h pos pins s I⟩
theorem pss_m {st : List Stmt} : PSs X st (mSs X st) := ⟨fun pins s _ _ _ I h => h pins s I⟩
theorem pi_m {tg it : Expr} : PI X tg it (mI X tg it) := ⟨fun pins s _ _ _ I h => h pins s I⟩
theorem po_m {e : Option Expr} : PO X e (mO X e) := ⟨fun pins s _ _ _ I h => h pins s I⟩
theorem e_of {t : TE} (h : PE X e t) {Q : VK} (q : t σ H Q) : mE X e σ H Q := fun pins s I => h.run pins s σ H Q I q
theorem c_of {op : CmpOp} {a b : Expr} {rr : R2} (ho : OpR X (compareOp op) rr) {Q : VK} (q : tOp rr (mE X a) (mE X b) σ H Q) : mC X op a b σ H Q := fun pins s I =>
  binT pe_m pe_m I q fun v u s2 x y H2 I2 rx ry q => ho pins s2 σ H2 x y v u Q I2 rx ry q
theorem cp_of {op : CmpOp} {a b : Expr} {t : TE} (h : PC X op a b t) {Q : VK} (q : t σ H Q) : mC X op a b σ H Q := fun pins s I => h.run pins s σ H Q I q
theorem t_of {t : TT} (h : PT X e t) {Q : Bool → Hp → Prop} (q : t σ H Q) : mT X e σ H Q := fun pins s I => h.run pins s σ H Q I q
theorem tw_of {t : TT} (h : PW X e t) {Q : Bool → Hp → Prop} (q : t σ H Q) : mTw X e σ H Q := fun wh pins s I => h.run wh pins s σ H Q I q
theorem a_of {es : List Expr} {t : TA} (h : PA X es t) {Q : List V → Hp → Prop} (q : t σ H Q) : mA X es σ H Q := fun pos pins s I => h.run pos pins s σ H Q I q
theorem ss_of {st : List Stmt} {t : TS} (h : PSs X st t) {D : Ends} (q : t D σ H) : mSs X st D σ H := fun pins s I => h.run pins s σ H D I q
theorem i_of {tg it : Expr} {t : TI} (h : PI X tg it t) {R : It → Hp → Prop} (q : t σ H R) : mI X tg it σ H R := fun pins s I => h.run pins s σ H R I q
end
structure Ctx (X : Cx) (k : Nat) : Prop where
  calm : X.calm = true
  nd : X.N.Nodup
  room : Room k X.A
  po : PassesOwn (model X.prog X.w) X.A X.env X.xe
theorem Ctx.hu {X : Cx} {k : Nat} (c : Ctx X k) : X.A.units + 1 < cLine := by have := c.room.units; omega
structure VarOk (X : Cx) (i : Nat) (x : Str) : Prop where
  n : X.N[i]? = some x
  v : Vis X.env.scope x
  d1 : (x == ("__debug__" : Str)) = false
  d2 : (x == ("__classdict__" : Str)) = false
structure LocOk (X : Cx) (i : Nat) (x : Str) : Prop where
  n : X.N[i]? = some x
  l : Loc X.env.scope x
  f : X.fn x = true ∨ X.env.scope.names.lookup x = some .local
/-- e evaluates to r -/
def EE (X : Cx) (ss : List Sl) (e : Expr) (r : Sl) : Prop := ∀ (B : Bs) (G : Hp) (σ : St) (H : Hp), Sat X.K B G ss σ H → ∀ Q : VK, (∀ G' H' v, Stp G H G' H' → ROk X.K G' H H' v r → Q v H') → mE X e σ H Q
/-- e evaluates to a list of ds, whosever it is -/
def EL (X : Cx) (ss : List Sl) (e : Expr) (ds : List D) : Prop := ∀ (B : Bs) (G : Hp) (σ : St) (H : Hp), Sat X.K B G ss σ H → ∀ Q : VK, (∀ G' H' a xs, Stp G H G' H' → SqL X.K H' a xs → RepL X.K G' xs ds → Q (.ref a) H') → mE X e σ H Q
/-- a tracked one (to be added to another) -/
def ELt (X : Cx) (ss : List Sl) (e : Expr) (ds : List D) : Prop := ∀ (B : Bs) (G : Hp) (σ : St) (H : Hp), Sat X.K B G ss σ H → ∀ Q : VK, (∀ G' H' a xs, Stp G H G' H' → H' a = some (.lst xs) → RepL X.K G' xs ds → Q (.ref a) H') → mE X e σ H Q
/-- a dict of ds -/
def ED (X : Cx) (ss : List Sl) (e : Expr) (ds : List (Key × D)) : Prop := ∀ (B : Bs) (G : Hp) (σ : St) (H : Hp), Sat X.K B G ss σ H → ∀ Q : VK, (∀ G' H' a xs, Stp G H G' H' → Rd H' a (.dK xs) → RepK X.K G' xs ds → Q (.ref a) H') → mE X e σ H Q
/-- a op b is c -/
def EC (X : Cx) (ss : List Sl) (op : CmpOp) (a b : Expr) (c : Bool) : Prop := ∀ (B : Bs) (G : Hp) (σ : St) (H : Hp), Sat X.K B G ss σ H → ∀ Q : VK, (∀ G' H', Stp G H G' H' → Q (.bl c) H') → mC X op a b σ H Q
def ET (X : Cx) (ss : List Sl) (e : Expr) (b : Bool) : Prop := ∀ (B : Bs) (G : Hp) (σ : St) (H : Hp), Sat X.K B G ss σ H → ∀ Q : Bool → Hp → Prop, (∀ G' H', Stp G H G' H' → Q b H') → mT X e σ H Q
def ETw (X : Cx) (ss : List Sl) (e : Expr) (b : Bool) : Prop := ∀ (B : Bs) (G : Hp) (σ : St) (H : Hp), Sat X.K B G ss σ H → ∀ Q : Bool → Hp → Prop, (∀ G' H', Stp G H G' H' → Q b H') → mTw X e σ H Q
def EA (X : Cx) (ss : List Sl) (es : List Expr) (ds : List D) : Prop := ∀ (B : Bs) (G : Hp) (σ : St) (H : Hp), Sat X.K B G ss σ H → ∀ Q : List V → Hp → Prop, (∀ G' H' vs, Stp G H G' H' → RepL X.K G' vs ds → Q vs H') → mA X es σ H Q
def EO (X : Cx) (ss : List Sl) (e : Option Expr) (o : Option Int) : Prop := ∀ (B : Bs) (G : Hp) (σ : St) (H : Hp), Sat X.K B G ss σ H → ∀ Q : Option Int → Hp → Prop, (∀ G' H', Stp G H G' H' → Q o H') → mO X e σ H Q
section
variable {X : Cx} {k : Nat} {ss : List Sl} {a b e : Expr} {pos : Pos} {i j : Int} {d d1 d2 : D} {r r1 r2 : Sl} {ds : List D}
theorem ee_var {n : Nat} {x : Str} (v : VarOk X n x) (h : ss[n]? = some (.dat d)) : EE X ss (.Name x pos) (.dat d) := fun B G σ H S Q q => by
  obtain ⟨w, e1, r1⟩ := S.dat h
  exact e_of (pe_var v.n v.v v.d1 v.d2) ⟨w, e1, q G H w (.refl S.gh) r1⟩
theorem ee_int {z} : EE X ss (.Constant (.int i) z pos) (.dat (.int i)) := fun B G σ H S Q q => e_of pe_int (q G H _ (.refl S.gh) (.int i))
theorem ee_bl {c : Bool} {z} : EE X ss (.Constant (.bool c) z pos) (.dat (.bl c)) := fun B G σ H S Q q => e_of pe_bl (q G H _ (.refl S.gh) (.bl c))
theorem ee_non {z} : EE X ss (.Constant .none z pos) (.dat .non) := fun B G σ H S Q q => e_of pe_non (q G H _ (.refl S.gh) .non)
theorem ee_str {x : Str} {z} : EE X ss (.Constant (.str x) z pos) (.dat (.str x)) := fun B G σ H S Q q => e_of pe_str (q G H _ (.refl S.gh) (.str x))
theorem ee_globI {x : Str} {t : Tok} (hg : Gl X x) (hm : X.mg x = some (.int i t)) (hd : (x == ("__debug__" : Str)) = false := by decide) : EE X ss (.Name x pos) (.dat (.int i)) := fun B G σ H S Q q =>
  e_of (pe_glob (v := .int i) hg hm ⟨t, rfl⟩ hd) (q G H _ (.refl S.gh) (.int i))
/-- another telling of the same -/
theorem EE.to (h : EE X ss e r1) (q : r1 = r2) : EE X ss e r2 := q ▸ h
theorem ee_op2 {op : Operator} {rr : R2} (ho : OpR X (binaryOp op) rr) (ha : EE X ss a (.dat d1)) (hb : EE X ss b (.dat d2))
    (hr : ∀ (G H : Hp) (v w : V), Ex G H → Rep X.K G v d1 → Rep X.K G w d2 → ∀ Q : VK, (∀ G' H' z, Stp G H G' H' → ROk X.K G' H H' z r → Q z H') → rr v w H Q) : EE X ss (.BinOp a op b pos) r := fun B G σ H S Q q =>
  e_of (pe_op ho pe_m pe_m) (ha B G σ H S _ fun G1 H1 v t1 r1 => hb B G1 σ H1 (S.step t1) _ fun G2 H2 w t2 r2 =>
    hr G2 H2 v w t2.gh (Rep.mono t2.g r1) r2 Q fun G3 H3 z t3 r3 => q G3 H3 z ((t1.trans t2).trans t3) (r3.from (t1.h.trans t2.h)))
theorem ee_opI0 {op : Operator} {g : Int → Int → Int} (ho : OpR X (binaryOp op) (rI0 fun i j => .int (g i j))) (ha : EE X ss a (.dat (.int i))) (hb : EE X ss b (.dat (.int j))) : EE X ss (.BinOp a op b pos) (.dat (.int (g i j))) :=
  ee_op2 ho ha hb fun G H v w e r1 r2 Q q => ⟨i, j, r1.int_inv, r2.int_inv, q G H _ (.refl e) (.int _)⟩
theorem ee_opI {op : Operator} {C : Int → Int → Prop} {g : Int → Int → Int} (ho : OpR X (binaryOp op) (rI C fun i j => .int (g i j))) (ha : EE X ss a (.dat (.int i))) (hb : EE X ss b (.dat (.int j))) (hc : C i j) : EE X ss (.BinOp a op b pos) (.dat (.int (g i j))) :=
  ee_op2 ho ha hb fun G H v w e r1 r2 Q q => ⟨i, j, r1.int_inv, r2.int_inv, hc, q G H _ (.refl e) (.int _)⟩
theorem ee_add (ha : EE X ss a (.dat (.int i))) (hb : EE X ss b (.dat (.int j))) : EE X ss (.BinOp a .Add b pos) (.dat (.int (i + j))) := ee_opI0 op_add ha hb
theorem ee_sub (ha : EE X ss a (.dat (.int i))) (hb : EE X ss b (.dat (.int j))) : EE X ss (.BinOp a .Sub b pos) (.dat (.int (i - j))) := ee_opI0 op_sub ha hb
theorem ee_mul (ha : EE X ss a (.dat (.int i))) (hb : EE X ss b (.dat (.int j))) (hc : CMul i j) : EE X ss (.BinOp a .Mult b pos) (.dat (.int (i * j))) := ee_opI op_mul ha hb hc
theorem ee_mod (ha : EE X ss a (.dat (.int i))) (hb : EE X ss b (.dat (.int j))) (hc : 0 < j) : EE X ss (.BinOp a .Mod b pos) (.dat (.int (i % j))) := ee_opI op_mod ha hb hc
theorem ee_div (ha : EE X ss a (.dat (.int i))) (hb : EE X ss b (.dat (.int j))) (hc : CDiv i j) : EE X ss (.BinOp a .FloorDiv b pos) (.dat (.int (i / j))) := ee_opI op_fdiv ha hb hc
theorem ee_pow (ha : EE X ss a (.dat (.int i))) (hb : EE X ss b (.dat (.int j))) (hc : CPow i j) : EE X ss (.BinOp a .Pow b pos) (.dat (.int (i ^ j.toNat))) := ee_opI op_pow ha hb hc
theorem ee_adds {x y : Str} (ha : EE X ss a (.dat (.str x))) (hb : EE X ss b (.dat (.str y))) (hl : x.length + y.length ≤ sizeLine) : EE X ss (.BinOp a .Add b pos) (.dat (.str (x ++ y))) :=
  ee_op2 op_add_str ha hb fun G H v w e r1 r2 Q q => ⟨x, y, r1.str_inv, r2.str_inv, hl, q G H _ (.refl e) (.str _)⟩
theorem ec_2 {op : CmpOp} {rr : R2} (ho : OpR X (compareOp op) rr) (ha : EE X ss a (.dat d1)) (hb : EE X ss b (.dat d2)) {c : Bool}
    (hr : ∀ (G H : Hp) (v w : V), Ex G H → Rep X.K G v d1 → Rep X.K G w d2 → ∀ Q : VK, Q (.bl c) H → rr v w H Q) : EC X ss op a b c := fun B G σ H S Q q =>
  c_of ho (ha B G σ H S _ fun G1 H1 v t1 r1 => hb B G1 σ H1 (S.step t1) _ fun G2 H2 w t2 r2 =>
    hr G2 H2 v w t2.gh (Rep.mono t2.g r1) r2 Q (q G2 H2 (t1.trans t2)))
theorem ee_c {op : CmpOp} {c : Bool} (h : EC X ss op a b c) (hm : behindInMarks op b = false) : EE X ss (.Compare a [op] [b] pos) (.dat (.bl c)) := fun B G σ H S Q q =>
  e_of (pe_cmp pc_m hm) (h B G σ H S _ fun G1 H1 t1 => q G1 H1 _ t1 (.bl c))
theorem et_c {op : CmpOp} {c : Bool} (h : EC X ss op a b c) (hm : behindInMarks op b = false) : ET X ss (.Compare a [op] [b] pos) c := fun B G σ H S Q q =>
  t_of (pt_cmp pc_m hm) (h B G σ H S _ fun G1 H1 t1 => ⟨c, rfl, q G1 H1 t1⟩)
theorem ec_lt (ha : EE X ss a (.dat (.int i))) (hb : EE X ss b (.dat (.int j))) : EC X ss .Lt a b (decide (i < j)) := ec_2 op_lt ha hb fun G H v w e r1 r2 Q q => ⟨i, j, r1.int_inv, r2.int_inv, q⟩
theorem ec_gt (ha : EE X ss a (.dat (.int i))) (hb : EE X ss b (.dat (.int j))) : EC X ss .Gt a b (decide (j < i)) := ec_2 op_gt ha hb fun G H v w e r1 r2 Q q => ⟨i, j, r1.int_inv, r2.int_inv, q⟩
theorem ec_eqI (ha : EE X ss a (.dat (.int i))) (hb : EE X ss b (.dat (.int j))) : EC X ss .Eq a b (decide (i = j)) := ec_2 op_eq ha hb fun G H v w e r1 r2 Q q => by
  cases r1.int_inv; cases r2.int_inv
  exact ⟨rfl, by rw [show decide (V.int i = V.int j) = decide (i = j) by rw [dec_int, Bool.beq_eq_decide_eq]]; exact q⟩
theorem ec_neI (ha : EE X ss a (.dat (.int i))) (hb : EE X ss b (.dat (.int j))) : EC X ss .NotEq a b (!decide (i = j)) := ec_2 op_ne ha hb fun G H v w e r1 r2 Q q => by
  cases r1.int_inv; cases r2.int_inv
  exact ⟨rfl, by rw [show decide (V.int i = V.int j) = decide (i = j) by rw [dec_int, Bool.beq_eq_decide_eq]]; exact q⟩
theorem ec_eqS {x y : Str} (ha : EE X ss a (.dat (.str x))) (hb : EE X ss b (.dat (.str y))) : EC X ss .Eq a b (decide (x = y)) := ec_2 op_eq ha hb fun G H v w e r1 r2 Q q => by
  cases r1.str_inv; cases r2.str_inv
  exact ⟨rfl, by rw [show decide (V.str x = V.str y) = decide (x = y) by rw [dec_str, Bool.beq_eq_decide_eq]]; exact q⟩
theorem ec_neS {x y : Str} (ha : EE X ss a (.dat (.str x))) (hb : EE X ss b (.dat (.str y))) : EC X ss .NotEq a b (!decide (x = y)) := ec_2 op_ne ha hb fun G H v w e r1 r2 Q q => by
  cases r1.str_inv; cases r2.str_inv
  exact ⟨rfl, by rw [show decide (V.str x = V.str y) = decide (x = y) by rw [dec_str, Bool.beq_eq_decide_eq]]; exact q⟩
def D.isNon : D → Bool
  | .non => true
  | _ => false
theorem Rep.isNon {K : PySem.W.Frag} {G : Hp} {v : V} {d : D} (h : Rep K G v d) : decide (v = .non) = d.isNon := by
  cases h <;> first | rfl | exact decide_eq_false (fun z => nomatch z)
theorem ec_isN {z} {p : Pos} (ha : EE X ss a (.dat d)) : EC X ss .Is a (.Constant .none z p) d.isNon :=
  ec_2 op_isN ha ee_non fun G H v w e r1 r2 Q q => ⟨r2.non_inv, by rw [r1.isNon]; exact q⟩
theorem et_val {c : Bool} (h : EE X ss e (.dat (.bl c))) (he : ∀ whole, isTrue e X.env whole = (do let v ← whole; standAt e.pos; holding [v] (truthy v)) := by intro _; rfl) : ET X ss e c := fun B G σ H S Q q =>
  t_of (pt_val pe_m he) (h B G σ H S _ fun G1 H1 v t1 r1 => ⟨c, Rep.bl_inv r1, q G1 H1 t1⟩)
theorem etw_and1 {c : Bool} (h : ET X ss a c) : ETw X ss (.BoolOp .And [a] pos) c := fun B G σ H S Q q => tw_of (pw_and1 pt_m) (h B G σ H S Q q)
theorem etw_or1 {c : Bool} (h : ET X ss a c) : ETw X ss (.BoolOp .Or [a] pos) c := fun B G σ H S Q q => tw_of (pw_or1 pt_m) (h B G σ H S Q q)
theorem etw_and {x y : Bool} {rest : List Expr} (h1 : ET X ss a x) (h2 : x = true → ETw X ss (.BoolOp .And (b :: rest) pos) y) : ETw X ss (.BoolOp .And (a :: b :: rest) pos) (x && y) := fun B G σ H S Q q =>
  tw_of (pw_and pt_m pw_m) (h1 B G σ H S _ fun G1 H1 t1 => by
    cases x with
    | true => exact h2 rfl B G1 σ H1 (S.step t1) Q fun G2 H2 t2 => q G2 H2 (t1.trans t2)
    | false => exact q G1 H1 t1)
theorem etw_or {x y : Bool} {rest : List Expr} (h1 : ET X ss a x) (h2 : x = false → ETw X ss (.BoolOp .Or (b :: rest) pos) y) : ETw X ss (.BoolOp .Or (a :: b :: rest) pos) (x || y) := fun B G σ H S Q q =>
  tw_of (pw_or pt_m pw_m) (h1 B G σ H S _ fun G1 H1 t1 => by
    cases x with
    | true => exact q G1 H1 t1
    | false => exact h2 rfl B G1 σ H1 (S.step t1) Q fun G2 H2 t2 => q G2 H2 (t1.trans t2))
theorem et_w {c : Bool} (h : ETw X ss e c) : ET X ss e c := fun B G σ H S Q q => t_of pw_m.pt (h B G σ H S Q q)
/-- and, or, not as values (all of them truths) -/
theorem ee_one {op} {r : Sl} (h : EE X ss a r) : EE X ss (.BoolOp op [a] pos) r := fun B G σ H S Q q => e_of (pe_one pe_m) (h B G σ H S Q q)
theorem ee_and {x y : Bool} {rest : List Expr} (h1 : EE X ss a (.dat (.bl x))) (h2 : x = true → EE X ss (.BoolOp .And (b :: rest) pos) (.dat (.bl y))) : EE X ss (.BoolOp .And (a :: b :: rest) pos) (.dat (.bl (x && y))) := fun B G σ H S Q q =>
  e_of (pe_and pe_m pe_m) (h1 B G σ H S _ fun G1 H1 v t1 r1 => ⟨x, Rep.bl_inv r1, by
    cases x with
    | true => exact h2 rfl B G1 σ H1 (S.step t1) Q fun G2 H2 w t2 r2 => q G2 H2 w (t1.trans t2) r2
    | false => exact q G1 H1 _ t1 (.bl _)⟩)
theorem ee_not {x : Bool} (h : EE X ss a (.dat (.bl x))) : EE X ss (.UnaryOp .Not a pos) (.dat (.bl (!x))) := fun B G σ H S Q q =>
  e_of (pe_not pe_m) (h B G σ H S _ fun G1 H1 v t1 r1 => ⟨x, Rep.bl_inv r1, q G1 H1 _ t1 (.bl _)⟩)
theorem et_not {c : Bool} (h : ET X ss a c) : ET X ss (.UnaryOp .Not a pos) (!c) := fun B G σ H S Q q =>
  t_of (pt_not pt_m) (h B G σ H S _ fun G1 H1 t1 => q G1 H1 t1)
end
end Lk
namespace Lk
open PySem L2
theorem ROk.lst {K : PySem.W.Frag} {H G1 H1 : Hp} {p : Addr} {xs : List V} {ds : List D} (f : H p = none) (g : G1 p = none) (h : H1 p = some (.lst xs)) (r : RepL K G1 xs ds) : ROk K G1 H H1 (.ref p) (.own (.lst ds)) :=
  ⟨p, [p], rfl, .lst h r, by simp, fun z hz => by simp at hz; subst hz; exact ⟨f, g⟩⟩
theorem ROk.dic {K : PySem.W.Frag} {H G1 H1 : Hp} {p : Addr} {xs : List (Key × V)} {ds : List (Key × D)} (f : H p = none) (g : G1 p = none) (h : H1 p = some (.dK xs)) (r : RepK K G1 xs ds) : ROk K G1 H H1 (.ref p) (.own (.dic ds)) :=
  ⟨p, [p], rfl, .dic h r, by simp, fun z hz => by simp at hz; subst hz; exact ⟨f, g⟩⟩
theorem ROk.lst_inv {K : PySem.W.Frag} {H G1 H1 : Hp} {v : V} {ds : List D} (h : ROk K G1 H H1 v (.own (.lst ds))) : ∃ p xs, v = .ref p ∧ H p = none ∧ G1 p = none ∧ H1 p = some (.lst xs) ∧ RepL K G1 xs ds := by
  obtain ⟨p, fp, rfl, w, _, o⟩ := h
  cases w with
  | lst h1 h2 => exact ⟨p, _, rfl, (o p (by simp)).1, (o p (by simp)).2, h1, h2⟩
/-- an owned new thing is frozen -/
theorem ROk.frz {K : PySem.W.Frag} {G H G1 H1 : Hp} {v : V} {o : Own} (t : Stp G H G1 H1) (r : ROk K G1 H H1 v (.own o)) : ∃ G2, Stp G H G2 H1 ∧ Ex G1 G2 ∧ Rep K G2 v o.dat := by
  obtain ⟨p, fp, rfl, w, nd, out⟩ := r
  have eg : Ex G1 (fun z => if z ∈ fp then H1 z else G1 z) := fun z u hz => by
    show (if z ∈ fp then H1 z else G1 z) = some u
    rw [if_neg (fun y => by rw [(out z y).2] at hz; cases hz)]
    exact hz
  refine ⟨fun z => if z ∈ fp then H1 z else G1 z, ⟨t.g.trans eg, t.h, fun z u hz => ?_, fun z u hz => ?_⟩, eg, w.rep eg fun z hz => by show (if z ∈ fp then H1 z else G1 z) = H1 z; rw [if_pos hz]⟩
  · have hz : (if z ∈ fp then H1 z else G1 z) = some u := hz
    split at hz
    · exact hz
    · exact t.gh z u hz
  · have hz : (if z ∈ fp then H1 z else G1 z) = some u := hz
    split at hz
    · rename_i y; exact .inr (out z y).1
    · exact t.fr z u hz
section
variable {X : Cx} {k : Nat} {ss : List Sl} {a b e : Expr} {es : List Expr} {pos : Pos} {i j : Int} {d d1 d2 : D} {r r1 r2 : Sl} {ds : List D}
theorem EE.frz {o : Own} (h : EE X ss e (.own o)) : EE X ss e (.dat o.dat) := fun B G σ H S Q q => h B G σ H S _ fun G1 H1 v t1 r1 => by
  obtain ⟨G2, t2, _, r2⟩ := r1.frz t1
  exact q G2 H1 v t2 r2
theorem EE.frzL (h : EE X ss e (.own (.lst ds))) : EE X ss e (.dat (.lst ds)) := h.frz
theorem el_new (h : EE X ss e (.own (.lst ds))) : EL X ss e ds := fun B G σ H S Q q => h B G σ H S _ fun G1 H1 v t1 r1 => by
  obtain ⟨p, xs, rfl, f, g, h1, h2⟩ := r1.lst_inv
  exact q G1 H1 p xs t1 (.of h1) h2
theorem el_dat (h : EE X ss e (.dat (.lst ds))) : EL X ss e ds := fun B G σ H S Q q => h B G σ H S _ fun G1 H1 v t1 r1 => by
  cases (show Rep X.K G1 v (.lst ds) from r1) with
  | lst h1 h2 => exact q G1 H1 _ _ t1 (.of (t1.gh _ _ h1)) h2
theorem el_scr {ns : List Int} (h : EE X ss e (.dat (.scr ns))) : EL X ss e (ns.map D.int) := fun B G σ H S Q q => h B G σ H S _ fun G1 H1 v t1 r1 => by
  cases (show Rep X.K G1 v (.scr ns) from r1) with
  | scr h1 => exact q G1 H1 _ _ t1 (t1.gh.l h1) (.of_ints ns)
theorem el_own {n : Nat} {x : Str} (v : VarOk X n x) (h : ss[n]? = some (.own (.lst ds))) : EL X ss (.Name x pos) ds := fun B G σ H S Q q => by
  obtain ⟨p, f, e1, w, _⟩ := S.own h
  cases w with
  | lst h1 h2 => exact e_of (pe_var v.n v.v v.d1 v.d2) ⟨_, e1, q G H p _ (.refl S.gh) (.of h1) h2⟩
theorem elt_new (h : EE X ss e (.own (.lst ds))) : ELt X ss e ds := fun B G σ H S Q q => h B G σ H S _ fun G1 H1 v t1 r1 => by
  obtain ⟨p, xs, rfl, f, g, h1, h2⟩ := r1.lst_inv
  exact q G1 H1 p xs t1 h1 h2
theorem ed_own {n : Nat} {x : Str} {kvs : List (Key × D)} (v : VarOk X n x) (h : ss[n]? = some (.own (.dic kvs))) : ED X ss (.Name x pos) kvs := fun B G σ H S Q q => by
  obtain ⟨p, f, e1, w, _⟩ := S.own h
  cases w with
  | dic h1 h2 => exact e_of (pe_var v.n v.v v.d1 v.d2) ⟨_, e1, q G H p _ (.refl S.gh) (.inl h1) h2⟩
theorem ea_nil : EA X ss [] [] := fun B G σ H S Q q => a_of pa_nil (q G H [] (.refl S.gh) .nil)
theorem ea_cons (h : EE X ss e (.dat d)) (hr : EA X ss es ds) (hs : starEach (e :: es) X.env = (false, eval e X.env) :: starEach es X.env := by rfl) : EA X ss (e :: es) (d :: ds) := fun B G σ H S Q q =>
  a_of (pa_cons pe_m pa_m hs) (h B G σ H S _ fun G1 H1 v t1 r1 => hr B G1 σ H1 (S.step t1) _ fun G2 H2 vs t2 r2 => q G2 H2 _ (t1.trans t2) (.cons (Rep.mono t2.g r1) r2))
theorem ee_tup {x1} (h : EA X ss es ds) (hl : ds.length ≤ 1000) : EE X ss (.Tuple es x1 pos) (.dat (.tup ds)) := fun B G σ H S Q q =>
  e_of (pe_tup pa_m) (h B G σ H S _ fun G1 H1 vs t1 r1 => ⟨by rw [r1.length]; exact Nat.le_of_lt (small1000 hl), fun p hp =>
    q (upd G1 p (.tup vs)) _ _ (t1.trans (.newF t1.gh hp)) (.tup (.of upd_same) (r1.mono (.new (t1.gh.back hp))))⟩)
theorem ee_lst (h : EA X ss es ds) (hl : ds.length ≤ 1000) : EE X ss (.List es pos) (.own (.lst ds)) := fun B G σ H S Q q =>
  e_of (pe_lst pa_m) (h B G σ H S _ fun G1 H1 vs t1 r1 => ⟨by rw [r1.length]; exact Nat.le_of_lt (small1000 hl), fun p hp =>
    q G1 _ _ (t1.trans (.new t1.gh hp)) (.lst (t1.h.back hp) (t1.gh.back hp) upd_same r1)⟩)
theorem ee_ixL (hl : EL X ss a ds) (hi : EE X ss b (.dat (.int i))) (hs : PlainIx b) (h : atI ds i = some d) : EE X ss (.Subscript a b pos) (.dat d) := fun B G σ H S Q q =>
  e_of (pe_ix ix_list pe_m pe_m hs) (hl B G σ H S _ fun G1 H1 p xs t1 h1 r1 => hi B G1 σ H1 (S.step t1) _ fun G2 H2 w t2 r2 => by
    have hlen := r1.length
    unfold atI at h
    cases e1 : ixN ds.length i with
    | none => rw [e1] at h; cases h
    | some n =>
      rw [e1] at h
      obtain ⟨v, e2, e3⟩ := r1.get (show ds[n]? = some d from h)
      exact ⟨p, xs, i, v, rfl, Rep.int_inv r2, t2.h.l h1, by unfold atI; rw [hlen, e1]; exact e2, q G2 H2 v (t1.trans t2) (e3.mono t2.g)⟩)
theorem ee_ixT (ht : EE X ss a (.dat (.tup ds))) (hi : EE X ss b (.dat (.int i))) (hs : PlainIx b) (h : atI ds i = some d) : EE X ss (.Subscript a b pos) (.dat d) := fun B G σ H S Q q =>
  e_of (pe_ix ix_tup pe_m pe_m hs) (ht B G σ H S _ fun G1 H1 v0 t1 r0 => hi B G1 σ H1 (S.step t1) _ fun G2 H2 w t2 r2 => by
    cases (show Rep X.K G1 v0 (.tup ds) from r0) with
    | @tup p xs _ h1 r1 =>
    have hlen := r1.length
    unfold atI at h
    cases e1 : ixN ds.length i with
    | none => rw [e1] at h; cases h
    | some n =>
      rw [e1] at h
      obtain ⟨v, e2, e3⟩ := r1.get (show ds[n]? = some d from h)
      exact ⟨p, xs, i, v, rfl, Rep.int_inv r2, (t1.gh.trans t2.h).t h1, by unfold atI; rw [hlen, e1]; exact e2, q G2 H2 v (t1.trans t2) (e3.mono t2.g)⟩)
theorem eo_none : EO X ss none none := fun B G σ H S Q q => fun pins s I => po_none.run pins s σ H Q I (q G H (.refl S.gh))
theorem eo_some (h : EE X ss e (.dat (.int i))) : EO X ss (some e) (some i) := fun B G σ H S Q q => fun pins s I =>
  (po_some pe_m).run pins s σ H Q I (h B G σ H S _ fun G1 H1 v t1 r1 => ⟨i, Rep.int_inv r1, q G1 H1 t1⟩)
def cutD (ds : List D) (lo hi : Option Int) : List D := (ds.drop (HT.sIx ds.length 0 lo)).take (HT.sIx ds.length ds.length hi - HT.sIx ds.length 0 lo)
theorem ee_slL {lo hi : Option Expr} {l u : Option Int} {p2 : Pos} (hl : EL X ss a ds) (h1 : EO X ss lo l) (h2 : EO X ss hi u) : EE X ss (.Subscript a (.Slice lo hi none p2) pos) (.own (.lst (cutD ds l u))) := fun B G σ H S Q q =>
  e_of (pe_slice sl_list pe_m po_m po_m) (hl B G σ H S _ fun G1 H1 p xs t1 h r1 => h1 B G1 σ H1 (S.step t1) _ fun G2 H2 t2 => h2 B G2 σ H2 ((S.step t1).step t2) _ fun G3 H3 t3 =>
    ⟨p, xs, rfl, (t2.h.trans t3.h).l h, fun y hy => q G3 _ _ (((t1.trans t2).trans t3).trans (.new t3.gh hy)) (.lst (((t1.trans t2).trans t3).h.back hy) (t3.gh.back hy) upd_same (by
      have r3 := (r1.mono (t2.g.trans t3.g))
      unfold cutV cutD
      rw [r3.length]
      exact (r3.drop _).take _))⟩)
/-- what a def promises: R of the arguments and of what is wanted -/
def spF (K : PySem.W.Frag) (n : Nat) (R : List D → (Sl → Prop) → Prop) : Sp := fun vs H Q _ => vs.length = n ∧ ∃ (G : Hp) (ds : List D) (post : Sl → Prop), Ex G H ∧ RepL K G vs ds ∧ R ds post ∧
  ∀ r G' H' v, post r → Stp G H G' H' → ROk K G' H H' v r → Q v H'
/-- a def that is called by its name -/
structure Fn (P : Program) (w : World) (K : PySem.W.Frag) (mg : Str → Option Value) (base : Heap) (k : Nat) (x : Str) (n : Nat) (R : List D → (Sl → Prop) → Prop) : Prop where
  ok : ∃ (f : Addr) (fd : FuncData) (ps : List Str), FnOk P w K mg base CX0 k f fd ps (spF K n R) ∧ mg x = some (.ref f) ∧ PySem.W.keepIn K (.ref f) = true ∧ Binds K fd ps [] ∧ ps.length = n
theorem ee_call {m : Nat} {x : Str} {p : Pos} {R : List D → (Sl → Prop) → Prop} {n : Nat} (F : Fn X.prog X.w X.K X.mg X.base m x n R) (c : Ctx X k) (hk : m ≤ k) (hg : Gl X x) (ha : EA X ss (e :: es) ds) (hR : R ds (fun z => z = r)) (hn : ds.length = n)
    (hdb : (x == ("__debug__" : Str)) = false := by decide) (he : starEach (e :: es) X.env = (false, eval e X.env) :: starEach es X.env := by rfl) (hpl : (backTo pos (starEach es X.env)).any (·.1) = false := by rfl) :
    EE X ss (.Call (.Name x p) (e :: es) [] pos) r := fun B G σ H S Q q => by
  obtain ⟨f, fd, ps, hF, hm, hkp, hb, hl⟩ := F.ok
  refine e_of (pe_call (dvs := []) hF (c.room.mono hk) hg hm hkp hb .nil pass0 pa_m hdb he hpl) (ha B G σ H S _ fun G1 H1 vs t1 r1 => ?_)
  show spF _ _ _ (vs ++ []) H1 Q _
  rw [List.append_nil]
  refine ⟨r1.length.trans hn, G1, ds, _, t1.gh, r1, hR, fun r' G2 H2 v e1 t2 r2 => ?_⟩
  subst e1
  exact q G2 H2 v (t1.trans t2) (r2.from t1.h)
end
end Lk
namespace Lk
open PySem L2
structure Post where
  nx : List Sl → Prop
  rt : Sl → Prop
  bk : List Sl → Prop := fun _ => False
  ct : List Sl → Prop := fun _ => False
  /-- what is handed back, with the slots behind it -/
  rs : Sl → List Sl → Prop := fun _ _ => False
  /-- what is raised: its class, its fields, the slots behind it -/
  xt : Addr → List (Str × D) → List Sl → Prop := fun _ _ _ => False
/-- the wish about exceptions -/
def WP (K : PySem.W.Frag) (B : Bs) (xt : Addr → List (Str × D) → List Sl → Prop) : WX := fun cls d σ H => ∃ C fs ss G, cls = .ref C ∧ xt C fs ss ∧ Sat K B G ss σ H ∧ XdG K G d fs
structure Cnt (X : Cx) (B : Bs) (P : Post) (D : Ends) : Prop where
  nx : ∀ ss G σ H, P.nx ss → Sat X.K B G ss σ H → D.nx σ H
  rt : ∀ r G H v, P.rt r → Stp B.G0 B.H0 G H → ROk X.K G B.H0 H v r → D.rt v H
  bk : ∀ ss G σ H, P.bk ss → Sat X.K B G ss σ H → D.bk σ H
  ct : ∀ ss G σ H, P.ct ss → Sat X.K B G ss σ H → D.ct σ H
  rs : ∀ r ss G σ H v, P.rs r ss → Sat X.K B G (r :: ss) (some v :: σ) H → D.rt v H
  xt : Takes X (WP X.K B P.xt)
theorem takes_no {X : Cx} {B : Bs} : Takes X (WP X.K B fun _ _ _ => False) := fun _ _ ⟨_, _, _, _, _, _, _, _, _, _, _, _, _, _, _, _, w⟩ => by
  obtain ⟨_, _, _, _, _, q, _⟩ := w
  exact q.elim
def SS (X : Cx) (sts : List Stmt) (ss : List Sl) (P : Post) : Prop := ∀ (B : Bs) (G : Hp) (σ : St) (H : Hp) (D : Ends), Sat X.K B G ss σ H → Cnt X B P D → mSs X sts D σ H
section
variable {X : Cx} {k : Nat} {ss ss' : List Sl} {a b e c : Expr} {es : List Expr} {st : Stmt} {sts A1 A2 body : List Stmt} {pos pos' : Pos} {i j : Int} {d d1 d2 : D} {r r1 r2 : Sl} {ds : List D} {P : Post} {x : Str} {n : Nat}
theorem ss_nil (h : P.nx ss) : SS X [] ss P := fun B G σ H D S C => ss_of pss_nil (C.nx ss G σ H h S)
/-- what stands behind, as what follows -/
theorem Cnt.seq {B : Bs} {D : Ends} (C : Cnt X B P D) : Cnt X B { P with nx := fun ss' => SS X sts ss' P } { D with nx := mSs X sts D } :=
  ⟨fun ss G σ H h S => h B G σ H D S C, C.rt, C.bk, C.ct, C.rs, C.xt⟩
inductive Le1 : Sl → Sl → Prop
  | refl (s : Sl) : Le1 s s
  | any (s : Sl) : Le1 s .any
inductive Les : List Sl → List Sl → Prop
  | nil : Les [] []
  | cons {s s' : Sl} {t t' : List Sl} : Le1 s s' → Les t t' → Les (s :: t) (s' :: t')
theorem Les.length : ∀ {s t : List Sl}, Les s t → s.length = t.length
  | _, _, .nil => rfl
  | _, _, .cons _ h => by simp [h.length]
theorem Les.get : ∀ {s t : List Sl} {i : Nat} {y : Sl}, Les s t → t[i]? = some y → ∃ x, s[i]? = some x ∧ Le1 x y
  | _, _, i, y, .nil, h => by simp at h
  | _, _, 0, y, .cons (s := s) h1 h2, h => by simp at h; subst h; exact ⟨s, by simp, h1⟩
  | _, _, i + 1, y, .cons h1 h2, h => by
    obtain ⟨x, e1, e2⟩ := Les.get (i := i) h2 (by simpa using h)
    exact ⟨x, by simpa using e1, e2⟩
theorem Sat.weak {K : PySem.W.Frag} {B : Bs} {G : Hp} {σ : St} {H : Hp} (S : Sat K B G ss σ H) (l : Les ss ss') : Sat K B G ss' σ H := by
  obtain ⟨fp, q, nd, out⟩ := S.sl
  have key : ∃ fp', Sls K B G H σ ss' fp' ∧ fp'.Sublist fp := by
    clear nd out S
    induction q generalizing ss' with
    | nil => cases l; exact ⟨[], .nil, .slnil⟩
    | cons h1 h2 ih =>
      cases l with
      | cons l1 l2 =>
        obtain ⟨fp', q', s'⟩ := ih l2
        cases l1 with
        | refl => exact ⟨_, .cons h1 q', .append (.refl _) s'⟩
        | any => exact ⟨_, .cons (.any _) q', (s'.trans (List.sublist_append_right _ _))⟩
  obtain ⟨fp', q', s'⟩ := key
  exact ⟨S.st, S.v0, fp', q', nd.sublist s', fun f hf => out f (s'.subset hf)⟩
theorem SS.weak (l : Les ss ss') (h : SS X sts ss' P) : SS X sts ss P := fun B G σ H D S C => h B G σ H D (S.weak l) C
theorem EE.weak (l : Les ss ss') (h : EE X ss' e r) : EE X ss e r := fun B G σ H S => h B G σ H (S.weak l)
/-- the end of a block, knowing less -/
theorem ss_end (l : Les ss ss') (h : P.nx ss') : SS X [] ss P := .weak l (ss_nil h)
theorem SS.frz {o : Own} (h : ss[n]? = some (.own o)) (k : SS X sts (ss.set n (.dat o.dat)) P) : SS X sts ss P := fun B G σ H D S C => by
  obtain ⟨G', _, S'⟩ := S.frz h
  exact k B G' σ H D S' C
theorem ET.read {o : Own} {y : Bool} (h : ss[n]? = some (.own o)) (k : ET X (ss.set n (.dat o.dat)) e y) : ET X ss e y := fun B G σ H S Q q => by
  obtain ⟨G', hg, S'⟩ := S.frz h
  exact k B G' σ H S' Q fun G2 H2 t => q G H2 ⟨.refl G, t.h, S.gh.trans t.h, fun _ _ z => .inl z⟩
def mG (X : Cx) (tg : Expr) : TG := fun v σ H Q => ∀ (pins : List (Addr × Obj)) (s : Shared) (u : Value), Inv X pins σ H s → RelV v u →
    wpAny (model X.prog X.w) X.A (assign tg X.env u) (fun _ s' => ∃ σ' H', Inv X pins σ' H' s' ∧ Q σ' H') X.xe s
def mGs (X : Cx) (ts : List Expr) : TGs := fun vs σ H Q => ∀ (pins : List (Addr × Obj)) (s : Shared) (us : List Value), Inv X pins σ H s → Vals vs us →
    wpAny (model X.prog X.w) X.A (assignInOrder ((assignEach ts X.env).map (·.2)) us) (fun _ s' => ∃ σ' H', Inv X pins σ' H' s' ∧ Q σ' H') X.xe s
theorem pg_m : PG X e (mG X e) := ⟨fun pins s σ H v u Q I r h => h pins s u I r⟩
theorem pgs_m : PGs X es (mGs X es) := ⟨fun pins s σ H vs us Q I r h => h pins s us I r⟩
theorem g_of {t : TG} (h : PG X e t) {v : V} {σ : St} {H : Hp} {Q : St → Hp → Prop} (q : t v σ H Q) : mG X e v σ H Q := fun pins s u I r => h.run pins s σ H v u Q I r q
theorem gs_of {t : TGs} (h : PGs X es t) {vs : List V} {σ : St} {H : Hp} {Q : St → Hp → Prop} (q : t vs σ H Q) : mGs X es vs σ H Q := fun pins s us I r => h.run pins s σ H vs us Q I r q
/-- σ' is σ but at ws -/
structure Off (ws : List Nat) (σ σ' : St) : Prop where
  len : σ'.length = σ.length
  off : ∀ i : Nat, i ∉ ws → σ'[i]? = σ[i]?
theorem Off.refl {σ : St} : Off [] σ σ := ⟨rfl, fun _ _ => rfl⟩
theorem Off.set {σ : St} {n : Nat} {v : Option V} : Off [n] σ (σ.set n v) := ⟨by simp, fun i h => by rw [List.getElem?_set_ne (by intro e; exact h (by simp [e]))]⟩
theorem Off.trans {u w : List Nat} {σ σ1 σ2 : St} (a : Off u σ σ1) (b : Off w σ1 σ2) : Off (u ++ w) σ σ2 := ⟨b.len.trans a.len, fun i h => by
  rw [List.mem_append, not_or] at h
  rw [b.off i h.2, a.off i h.1]⟩
/-- d handed to the target tg makes ss' of ss, at the places ws -/
def TT1 (X : Cx) (tg : Expr) (d : D) (ss ss' : List Sl) (ws : List Nat) : Prop := ∀ (B : Bs) (G : Hp) (σ : St) (H : Hp) (v : V), Sat X.K B G ss σ H → Rep X.K G v d → ∀ Q : St → Hp → Prop, (∀ σ', Off ws σ σ' → Sat X.K B G ss' σ' H → Q σ' H) → mG X tg v σ H Q
def TTs (X : Cx) (tgs : List Expr) (ds : List D) (ss ss' : List Sl) (ws : List Nat) : Prop := ∀ (B : Bs) (G : Hp) (σ : St) (H : Hp) (vs : List V), Sat X.K B G ss σ H → RepL X.K G vs ds → ∀ Q : St → Hp → Prop, (∀ σ', Off ws σ σ' → Sat X.K B G ss' σ' H → Q σ' H) → mGs X tgs vs σ H Q
theorem tt_name (l : LocOk X n x) (nd : X.N.Nodup) : TT1 X (.Name x pos) d ss (ss.set n (.dat d)) [n] := fun B G σ H v S r Q q =>
  g_of (pg_name nd l.n l.l l.f) (q _ .set (S.set (.refl S.gh) (.refl H) (r := .dat d) r))
theorem tts_nil : TTs X [] [] ss ss [] := fun B G σ H vs S r Q q => by
  cases r
  exact gs_of pgs_nil ⟨rfl, q σ .refl S⟩
theorem tts_cons {s1 s2 : List Sl} {u w : List Nat} (h : TT1 X e d ss s1 u) (h2 : TTs X es ds s1 s2 w) (hs : (assignEach (e :: es) X.env).map (·.2) = assign e X.env :: (assignEach es X.env).map (·.2) := by rfl) : TTs X (e :: es) (d :: ds) ss s2 (u ++ w) := fun B G σ H vs S r Q q => by
  cases r with
  | cons r1 r2 => exact gs_of (pgs_cons pg_m pgs_m hs) ⟨_, _, rfl, h B G σ H _ S r1 _ fun σ1 o1 S1 => h2 B G σ1 H _ S1 r2 Q fun σ2 o2 => q σ2 (o1.trans o2)⟩
theorem tt_tup {z : Nat} {ws : List Nat} (hc : X.calm = true) (h : TTs X es ds ss ss' ws) (hn : (assignEach es X.env).length = ds.length := by rfl) (hst : (assignEach es X.env).findIdx? (·.1) = none := by rfl) : TT1 X (.Tuple es z pos) (.tup ds) ss ss' ws := fun B G σ H v S r Q q => by
  cases r with
  | tup h1 h2 => exact g_of (pg_tup hc pgs_m hn hst) ⟨_, _, rfl, S.gh.t h1, h2.length, h B G σ H _ S h2 Q q⟩
theorem ss_asg (nd : X.N.Nodup) (l : LocOk X n x) (he : EE X ss e r) (h : SS X sts (ss.set n r) P) (hs : swapsWith e (some (.Name x pos')) pos.line X.env = pure false := by rfl) : SS X (.Assign [.Name x pos'] e pos :: sts) ss P := fun B G σ H D S C =>
  ss_of (pss_cons (ps_set nd l.n l.l pe_m hs l.f) pss_m) (he B G σ H S _ fun G1 H1 v t1 r1 => h B G1 _ H1 D (S.set t1 (.refl H) r1) C)
theorem ss_ret (he : EE X ss e r) (h : P.rt r) : SS X (.Return (some e) pos :: sts) ss P := fun B G σ H D S C =>
  ss_of (pss_cons (ps_ret pe_m) pss_m) (he B G σ H S _ fun G1 H1 v t1 r1 => C.rt r G1 H1 v h (S.st.trans t1) (r1.from S.st.h))
/-- an owned thing is handed back -/
theorem ss_retO {o : Own} (v : VarOk X n x) (hn : ss[n]? = some (.own o)) (h : P.rt (.own o)) : SS X (.Return (some (.Name x pos')) pos :: sts) ss P := fun B G σ H D S C => by
  obtain ⟨p, f, e1, w, nd, out⟩ := S.own hn
  exact ss_of (pss_cons (ps_ret (pe_var v.n v.v v.d1 v.d2)) pss_m) ⟨_, e1, C.rt _ G H _ h S.st ⟨p, f, rfl, w, nd, fun z hz => ⟨(out z hz).2, (out z hz).1⟩⟩⟩
theorem ss_expr (he : EE X ss e r) (h : SS X sts ss P) (hs : swapsWith e none pos.line X.env = pure false := by rfl) : SS X (.Expr e pos :: sts) ss P := fun B G σ H D S C =>
  ss_of (pss_cons (ps_expr pe_m hs) pss_m) (he B G σ H S _ fun G1 H1 v t1 r1 => h B G1 _ H1 D (S.step t1) C)
theorem ss_if {y : Bool} (hc : ET X ss c y) (h1 : y = true → SS X A1 ss { P with nx := fun ss' => SS X sts ss' P }) (h2 : y = false → SS X A2 ss { P with nx := fun ss' => SS X sts ss' P }) : SS X (.If c A1 A2 pos :: sts) ss P := fun B G σ H D S C =>
  ss_of (pss_cons (ps_if pt_m pss_m pss_m) pss_m) (hc B G σ H S _ fun G1 H1 t1 => by
    cases y with
    | true => exact h1 rfl B G1 σ H1 _ (S.step t1) C.seq
    | false => exact h2 rfl B G1 σ H1 _ (S.step t1) C.seq)
/-- an if without else -/
theorem ss_when {y : Bool} (hc : ET X ss c y) (h1 : y = true → SS X A1 ss { P with nx := fun ss' => SS X sts ss' P }) (h2 : y = false → SS X sts ss P) : SS X (.If c A1 [] pos :: sts) ss P :=
  ss_if hc h1 fun e => ss_nil (h2 e)
/-- it is walked: ds one by one -/
def EI (X : Cx) (ss : List Sl) (tg it : Expr) (ds : List D) : Prop := ∀ (B : Bs) (G : Hp) (σ : St) (H : Hp), Sat X.K B G ss σ H → ∀ R : It → Hp → Prop,
  (∀ J G1 H1 Gd Y, Stp G H G1 H1 → Walk J ds.length Gd Y → (∀ H', Ex G1 H' → Ex B.H0 H' → Gd H') → (∀ i H2 y H3 G2, i < ds.length → Y i H2 y H3 → Ex G1 G2 → Ex G2 H2 → ∃ G3 d, ds[i]? = some d ∧ Stp G2 H2 G3 H3 ∧ Rep X.K G3 y d) → R J H1) → mI X tg it σ H R
theorem Piece.base {K : PySem.W.Frag} {B : Bs} {G1 G H : Hp} {x : Option V} {s : Sl} {f : List Addr} (h : Piece K B G H x s f) : Piece K ⟨G1, B.H0, B.V0⟩ G H x s f := by
  cases h with
  | any => exact .any _
  | dat h => exact .dat h
  | own h => exact .own h
  | vw h => exact .vw h
  | exn h => exact .exn h
theorem Piece.unb {K : PySem.W.Frag} {B : Bs} {G1 G H : Hp} {x : Option V} {s : Sl} {f : List Addr} (h : Piece K ⟨G1, B.H0, B.V0⟩ G H x s f) : Piece K B G H x s f := by
  cases h with
  | any => exact .any _
  | dat h => exact .dat h
  | own h => exact .own h
  | vw h => exact .vw h
  | exn h => exact .exn h
theorem Sls.base {K : PySem.W.Frag} {B : Bs} {G1 G H : Hp} {σ : St} {f : List Addr} (h : Sls K B G H σ ss f) : Sls K ⟨G1, B.H0, B.V0⟩ G H σ ss f := by
  induction h with
  | nil => exact .nil
  | cons h1 h2 ih => exact .cons h1.base ih
theorem Sls.unb {K : PySem.W.Frag} {B : Bs} {G1 G H : Hp} {σ : St} {f : List Addr} (h : Sls K ⟨G1, B.H0, B.V0⟩ G H σ ss f) : Sls K B G H σ ss f := by
  induction h with
  | nil => exact .nil
  | cons h1 h2 ih => exact .cons h1.unb ih
theorem Sat.rebase {K : PySem.W.Frag} {B : Bs} {G G1 : Hp} {σ : St} {H : Hp} (S : Sat K B G ss σ H) (e0 : Ex B.G0 G1) (e1 : Ex G1 G) : Sat K ⟨G1, B.H0, B.V0⟩ G ss σ H := by
  obtain ⟨fp, q, nd, out⟩ := S.sl
  exact ⟨⟨e1, S.st.h, S.st.gh, fun a o q => (S.st.fr a o q).elim (fun z => .inl (e0 a o z)) .inr⟩, S.v0, fp, q.base, nd, out⟩
theorem Sat.unbase {K : PySem.W.Frag} {B : Bs} {G G1 H1 : Hp} {σ : St} {H : Hp} (S : Sat K ⟨G1, B.H0, B.V0⟩ G ss σ H) (t : Stp B.G0 B.H0 G1 H1) : Sat K B G ss σ H := by
  obtain ⟨fp, q, nd, out⟩ := S.sl
  exact ⟨⟨t.g.trans S.st.g, S.st.h, S.st.gh, fun a o q => (S.st.fr a o q).elim (fun z => t.fr a o z) .inr⟩, S.v0, fp, q.unb, nd, out⟩
theorem ss_for {it tg : Expr} (cx : Ctx X k) (hi : EI X ss tg it ds) (W : Nat → List Sl → Prop) (h0 : W 0 ss)
    (hs : ∀ i d s1, ds[i]? = some d → W i s1 → ∃ s2 ws, TT1 X tg d s1 s2 ws ∧ SS X body s2 ⟨W (i + 1), P.rt, fun s => SS X sts s P, W (i + 1), P.rs, P.xt⟩) (hd : ∀ s1, W ds.length s1 → SS X sts s1 P)
    (hf : ∀ y, foldedSetIterable it X.env y = pure y := by intro _; rfl) : SS X (.For tg it body [] pos :: sts) ss P := fun B G σ H D S C =>
  ss_of (pss_cons (ps_for cx.po cx.calm pi_m pg_m pss_m hf) pss_m) (hi B G σ H S _ fun J G1 H1 Gd Y t1 wk hG hY => by
    have S1 := S.step t1
    refine for_it wk (fun i σ' H' => ∃ s1 G', W i s1 ∧ Ex G1 G' ∧ Sat X.K B G' s1 σ' H') ⟨ss, G1, h0, .refl G1, S1⟩ (fun i σ' H' _ ⟨_, G', _, e, S'⟩ => hG H' (e.trans S'.gh) S'.st.h) ?_ ?_
    · rintro i y σ' H2 H3 hil ⟨s1, G', w, e, S'⟩ hy
      obtain ⟨G3, d, hd, t3, r3⟩ := hY i H2 y H3 G' hil hy e S'.gh
      obtain ⟨s2, ws, ht, hb⟩ := hs i d s1 hd w
      refine ht B G3 σ' H3 y (S'.step t3) r3 _ fun σ2 _ S2 => ?_
      refine hb ⟨G1, B.H0, B.V0⟩ G3 σ2 H3 _ (S2.rebase (S.st.g.trans t1.g) (e.trans t3.g)) ⟨fun s G σ H q z => ⟨s, G, q, z.st.g, z.unbase S1.st⟩, fun r G H v q z => C.rt r G H v q ⟨S1.st.g.trans z.g, z.h, z.gh, fun a o q => (z.fr a o q).elim (fun z => S1.st.fr a o z) .inr⟩,
        fun s G σ H q z => q B G σ H D (z.unbase S1.st) C, fun s G σ H q z => ⟨s, G, q, z.st.g, z.unbase S1.st⟩, fun r s G σ H v q z => C.rs r s G σ H v q (z.unbase S1.st), C.xt.imp fun c d σ H ⟨C', fs, s, G, q1, q2, q3, q4⟩ => ⟨C', fs, s, G, q1, q2, q3.unbase S1.st, q4⟩⟩
    · rintro σ' H' ⟨s1, G', w, e, S'⟩
      exact hd s1 w B G' σ' H' D S' C)
end
end Lk
namespace Lk
open PySem L2
section
variable {X : Cx} {k : Nat} {ss ss' : List Sl} {a b e c tg it elt : Expr} {es : List Expr} {sts body : List Stmt} {pos pos' p : Pos} {i j : Int} {d d1 d2 : D} {r r1 r2 : Sl} {ds : List D} {P : Post} {x : Str} {n : Nat}
theorem ei_list (hl : EE X ss it (.dat (.lst ds))) : EI X ss tg it ds := fun B G σ H S R q =>
  i_of (pi_list pe_m) (hl B G σ H S _ fun G1 H1 v t1 r1 => by
    cases (show Rep X.K G1 v (.lst ds) from r1) with
    | @lst a xs _ h1 h2 =>
      refine ⟨a, rfl, ⟨xs, .of (t1.gh _ _ h1)⟩, ?_⟩
      have w := walk_list (K := X.K) (a := a) (xs := xs)
      rw [h2.length] at w
      refine q _ G1 H1 _ _ t1 w (fun H' e _ => .of (e _ _ h1)) fun i H2 y H3 G2 hi hy e1 e2 => ?_
      obtain ⟨e3, e4⟩ := hy
      obtain ⟨d, e5, e6⟩ := h2.getV e4
      exact ⟨G2, d, e5, by rw [e3]; exact .refl e2, e6.mono e1⟩)
theorem ei_tup (hl : EE X ss it (.dat (.tup ds))) : EI X ss tg it ds := fun B G σ H S R q =>
  i_of (pi_tup pe_m) (hl B G σ H S _ fun G1 H1 v t1 r1 => by
    cases (show Rep X.K G1 v (.tup ds) from r1) with
    | @tup a xs _ h1 h2 =>
      refine ⟨a, rfl, ⟨xs, t1.gh.t h1⟩, ?_⟩
      have w := walk_tup (K := X.K) (a := a) (xs := xs)
      rw [h2.length] at w
      refine q _ G1 H1 _ _ t1 w (fun H' e _ => e.t h1) fun i H2 y H3 G2 hi hy e1 e2 => ?_
      obtain ⟨e3, e4⟩ := hy
      obtain ⟨d, e5, e6⟩ := h2.getV e4
      exact ⟨G2, d, e5, by rw [e3]; exact .refl e2, e6.mono e1⟩)
/-- lo, lo + 1, .. -/
def rngD (lo : Int) (n : Nat) : List D := (List.range n).map fun (i : Nat) => D.int (lo + (i : Int))
theorem rngD_len (lo : Int) (n : Nat) : (rngD lo n).length = n := by unfold rngD; simp
theorem rngD_get {lo : Int} {n i : Nat} (h : i < n) : (rngD lo n)[i]? = some (.int (lo + (i : Int))) := by unfold rngD; simp [h]
theorem ei_rng {J : It} {lo : Int} {n : Nat} {B : Bs} {G H : Hp} {R : It → Hp → Prop} {G1 H1 : Hp} (t1 : Stp G H G1 H1) (q : ∀ J G1 H1 Gd Y, Stp G H G1 H1 → Walk J (rngD lo n).length Gd Y → (∀ H', Ex G1 H' → Ex B.H0 H' → Gd H') → (∀ i H2 y H3 G2, i < (rngD lo n).length → Y i H2 y H3 → Ex G1 G2 → Ex G2 H2 → ∃ G3 d, (rngD lo n)[i]? = some d ∧ Stp G2 H2 G3 H3 ∧ Rep X.K G3 y d) → R J H1) : R (Itr lo n) H1 := by
  have w := walk_range (lo := lo) (n := n)
  refine q _ G1 H1 _ _ t1 (by rw [rngD_len]; exact w) (fun _ _ _ => trivial) fun i H2 y H3 G2 hi hy e1 e2 => ?_
  obtain ⟨e3, e4⟩ := hy
  rw [rngD_len] at hi
  exact ⟨G2, _, rngD_get hi, by rw [e3]; exact .refl e2, by rw [e4]; exact .int _⟩
theorem ei_range1 (hg : Gl X "range") (hm : X.mg "range" = none) (ha : EE X ss a (.dat (.int j))) (hj : -(2 ^ 62) ≤ j ∧ j < 2 ^ 62) (hs : starEach [a] X.env = [(false, eval a X.env)] := by rfl) :
    EI X ss tg (.Call (.Name "range" p) [a] [] pos) (rngD 0 j.toNat) := fun B G σ H S R q =>
  i_of (pi_range1 hg hm pa_m hs) (ea_cons ha ea_nil hs B G σ H S _ fun G1 H1 vs t1 r1 => by
    cases r1 with
    | cons r1 r2 => cases r2; cases r1.int_inv; exact ⟨j, rfl, hj.1, hj.2, ei_rng (B := B) (J := Itr 0 j.toNat) t1 q⟩)
/-- (0, first), (1, second), .. -/
def enuD (ds : List D) : List D := ds.zipIdx.map fun p => D.tup [.int (p.2 : Int), p.1]
theorem enuD_len (ds : List D) : (enuD ds).length = ds.length := by unfold enuD; simp
theorem enuD_get {ds : List D} {i : Nat} {d : D} (h : ds[i]? = some d) : (enuD ds)[i]? = some (.tup [.int (i : Int), d]) := by unfold enuD; simp [List.getElem?_zipIdx, h]
theorem ei_enum {elts : List Expr} {kk : Nat} {tpos : Pos} (hg : Gl X "enumerate") (hm : X.mg "enumerate" = none) (ha : EE X ss a (.dat (.lst ds))) (hs : starEach [a] X.env = [(false, eval a X.env)] := by rfl) :
    EI X ss (.Tuple elts kk tpos) (.Call (.Name "enumerate" p) [a] [] pos) (enuD ds) := fun B G σ H S R q =>
  i_of (pi_enum hg hm pa_m hs) (ea_cons ha ea_nil hs B G σ H S _ fun G1 H1 vs t1 r1 => by
    cases r1 with
    | cons r1 r2 =>
    cases r2
    cases r1 with
    | @lst a xs _ h1 h2 =>
      refine ⟨a, xs, rfl, .of (t1.gh _ _ h1), ?_⟩
      have w := walk_enum (K := X.K) (a := a) (xs := xs)
      rw [h2.length, ← enuD_len ds] at w
      refine q _ G1 H1 _ _ t1 w (fun H' e _ => .of (e _ _ h1)) fun i H2 y H3 G2 hi hy e1 e2 => ?_
      obtain ⟨T, u, v, e3, e4, e5, e6, e7⟩ := hy
      obtain ⟨d, e8, e9⟩ := h2.getV e7
      have e6 := Option.some.inj e6
      subst e3 e5 e6
      exact ⟨_, _, enuD_get e8, .newF e2 e4, .tup (.of upd_same) (.cons (.int _) (.cons (e9.mono (e1.trans (.new (e2.back e4)))) .nil))⟩)
/-- a text, sign by sign -/
def sgnD (z : Str) : List D := z.cps.toList.map fun c => D.str ⟨#[c]⟩
theorem ei_str {z : Str} (ha : EE X ss it (.dat (.str z))) : EI X ss tg it (sgnD z) := fun B G σ H S R q =>
  i_of (pi_str pe_m) (ha B G σ H S _ fun G1 H1 v t1 r1 => by
    cases Rep.str_inv r1
    refine ⟨z, rfl, ?_⟩
    have w := walk_str (z := z)
    have hl : (sgnD z).length = z.cps.size := by unfold sgnD; simp
    refine q _ G1 H1 _ _ t1 (by rw [hl]; exact w) (fun _ _ _ => trivial) fun i H2 y H3 G2 hi hy e1 e2 => ?_
    obtain ⟨e3, c, e4, e5⟩ := hy
    refine ⟨G2, .str ⟨#[c]⟩, ?_, by rw [e3]; exact .refl e2, by rw [e5]; exact .str _⟩
    unfold sgnD
    rw [List.getElem?_map, show z.cps.toList[i]? = some c by rw [← e4]; simp]
    rfl)
/-- it is walked where nothing is changed meanwhile (in a comprehension) -/
def EIc (X : Cx) (ss : List Sl) (tg it : Expr) (ds : List D) : Prop := ∀ (B : Bs) (G : Hp) (σ : St) (H : Hp), Sat X.K B G ss σ H → ∀ R : It → Hp → Prop,
  (∀ J G1 H1 Gd Y, Stp G H G1 H1 → Walk J ds.length Gd Y → (∀ H', Ex H1 H' → Gd H') → (∀ i H2 y H3 G2, i < ds.length → Y i H2 y H3 → Ex G1 G2 → Ex G2 H2 → ∃ G3 d, ds[i]? = some d ∧ Stp G2 H2 G3 H3 ∧ Rep X.K G3 y d) → R J H1) → mI X tg it σ H R
theorem EI.cc (h : EI X ss tg it ds) : EIc X ss tg it ds := fun B G σ H S R q => h B G σ H S R fun J G1 H1 Gd Y t wk g y => q J G1 H1 Gd Y t wk (fun H' e => g H' (t.gh.trans e) ((S.st.h.trans t.h).trans e)) y
theorem eic_el (hl : EL X ss it ds) : EIc X ss tg it ds := fun B G σ H S R q =>
  i_of (pi_list pe_m) (hl B G σ H S _ fun G1 H1 a xs t1 h1 h2 => by
    refine ⟨a, rfl, ⟨xs, h1⟩, ?_⟩
    have w := walk_list (K := X.K) (a := a) (xs := xs)
    rw [h2.length] at w
    refine q _ G1 H1 _ _ t1 w (fun H' e => e.l h1) fun i H2 y H3 G2 hi hy e1 e2 => ?_
    obtain ⟨e3, e4⟩ := hy
    obtain ⟨d, e5, e6⟩ := h2.getV e4
    exact ⟨G2, d, e5, by rw [e3]; exact .refl e2, e6.mono e1⟩)
/-- the slots within a comprehension: its own names forgotten -/
def wipS (ss : List Sl) : List Nat → List Sl
  | [] => ss
  | v :: vs => (wipS ss vs).set v .any
theorem Sat.wip {K : PySem.W.Frag} {B : Bs} {G : Hp} {σ : St} {H : Hp} (S : Sat K B G ss σ H) : ∀ vs : List Nat, Sat K B G (wipS ss vs) (wipe σ vs) H
  | [] => S
  | v :: vs => (Sat.wip S vs).anyS none
def mPT (X : Cx) (ifs : List Expr) : TT := fun σ H Q => ∀ (pins : List (Addr × Obj)) (s : Shared), Inv X pins σ H s →
    wpAny (model X.prog X.w) X.A (forIn ifs true fun c r => if r = true then do let ok ← isTrue c X.env (eval c X.env); pure (ForInStep.yield ok) else pure (ForInStep.yield r)) (TP X pins σ Q) X.xe s
/-- the tests of a comprehension -/
def EP1 (X : Cx) (ss : List Sl) (ifs : List Expr) (y : Bool) : Prop := ∀ (B : Bs) (G : Hp) (σ : St) (H : Hp), Sat X.K B G ss σ H → ∀ Q : Bool → Hp → Prop, (∀ G' H', Stp G H G' H' → Q y H') → mPT X ifs σ H Q
theorem ep_nil : EP1 X ss [] true := fun B G σ H S Q q => fun pins s I => pts_nil.run pins s σ H Q I (q G H (.refl S.gh))
/-- within the block of a comprehension -/
abbrev blkX (X : Cx) (scope : Scope) (s : Shared) (H : Hp) (C : Addr) (cl : List (Str × Addr)) (fp : List Addr) : Cx := X.blk s H scope (compEnvC scope cl C X.env) fp
def Blk (X : Cx) (scope : Scope) (φ : Cx → Prop) : Prop := ∀ (s : Shared) (H : Hp) (C : Addr) (cl : List (Str × Addr)) (fp : List Addr), φ (blkX X scope s H C cl fp)
/-- what one turn of a comprehension is to do with the item d: y whether it is kept, r what is made -/
structure Turn1 (X : Cx) (scope : Scope) (ss : List Sl) (vs : List Nat) (tg elt : Expr) (ifs : List Expr) (d : D) (y : Bool) (r : D) : Prop where
  tn : ∃ ss2 ws, Blk X scope (fun Z => TT1 Z tg d (wipS ss vs) ss2 ws) ∧ (∀ w ∈ ws, w ∈ vs) ∧ Blk X scope (fun Z => EP1 Z ss2 ifs y) ∧ (y = true → Blk X scope (fun Z => EE Z ss2 elt (.dat r)))
theorem wipe_get : ∀ (vs : List Nat) (σ : St) (i : Nat), (wipe σ vs)[i]? = if i ∈ vs ∧ i < σ.length then some none else σ[i]? := by
  intro vs σ i
  induction vs with
  | nil => simp [wipe]
  | cons v vs ih =>
    unfold wipe
    by_cases e : v = i
    · subst e
      by_cases hl : v < σ.length
      · rw [List.getElem?_set_self (by rw [wipe_length]; exact hl), if_pos ⟨by simp, hl⟩]
      · rw [List.getElem?_eq_none (by rw [List.length_set, wipe_length]; omega), if_neg (fun z => hl z.2), List.getElem?_eq_none (by omega)]
    · rw [List.getElem?_set_ne e, ih]
      have : (i ∈ v :: vs ∧ i < σ.length) ↔ (i ∈ vs ∧ i < σ.length) := by
        rw [List.mem_cons]
        constructor
        · rintro ⟨h1 | h1, h2⟩
          · exact absurd h1.symm e
          · exact ⟨h1, h2⟩
        · rintro ⟨h1, h2⟩; exact ⟨.inr h1, h2⟩
      by_cases h : i ∈ vs ∧ i < σ.length
      · rw [if_pos h, if_pos (this.mpr h)]
      · rw [if_neg h, if_neg (fun z => h (this.mp z))]
theorem wipe_eq {σ σ' : St} {vs : List Nat} (hl : σ'.length = σ.length) (ho : ∀ i : Nat, i ∉ vs → σ'[i]? = σ[i]?) : wipe σ' vs = wipe σ vs := by
  apply List.ext_getElem?
  intro i
  rw [wipe_get, wipe_get, hl]
  by_cases h : i ∈ vs ∧ i < σ.length
  · rw [if_pos h, if_pos h]
  · rw [if_neg h, if_neg h]
    by_cases h2 : i ∈ vs
    · have : ¬ i < σ.length := fun z => h ⟨h2, z⟩
      rw [List.getElem?_eq_none (by omega), List.getElem?_eq_none (by omega)]
    · exact ho i h2
def lcOut (n : Nat) (f : Nat → Bool) (g : Nat → D) : List D := ((List.range n).filter f).map g
theorem lcOut_len (n : Nat) (f : Nat → Bool) (g : Nat → D) : (lcOut n f g).length ≤ n := by
  unfold lcOut
  rw [List.length_map]
  have := List.length_filter_le f (List.range n)
  rw [List.length_range] at this
  exact this
theorem lcOut_yes {n : Nat} {f : Nat → Bool} {g : Nat → D} (h : f n = true) : lcOut (n + 1) f g = lcOut n f g ++ [g n] := by
  unfold lcOut
  rw [List.range_succ, List.filter_append, List.map_append, List.filter_cons, if_pos h] <;> rfl
theorem lcOut_no {n : Nat} {f : Nat → Bool} {g : Nat → D} (h : f n = false) : lcOut (n + 1) f g = lcOut n f g := by
  unfold lcOut
  rw [List.range_succ, List.filter_append, List.map_append, List.filter_cons, if_neg (by rw [h]; decide)]
  show _ ++ [] = _
  rw [List.append_nil]
def bG (X : Cx) (scope : Scope) (tg : Expr) : TG := fun v σ H K => ∀ s H0 C cl fp, mG (blkX X scope s H0 C cl fp) tg v σ H K
def bP (X : Cx) (scope : Scope) (ifs : List Expr) : TT := fun σ H K => ∀ s H0 C cl fp, mPT (blkX X scope s H0 C cl fp) ifs σ H K
def bE (X : Cx) (scope : Scope) (elt : Expr) : TE := fun σ H K => ∀ s H0 C cl fp, mE (blkX X scope s H0 C cl fp) elt σ H K
theorem lc_run {ifs : List Expr} {scope : Scope} {vs : List Nat} {f : Nat → Bool} {g : Nat → D} (hi : EIc X ss tg it ds) (ht : ∀ i d, ds[i]? = some d → Turn1 X scope ss vs tg elt ifs d (f i) (g i)) (hl : ds.length ≤ 1000) {B : Bs} {G : Hp} {σ : St} {H : Hp} (S : Sat X.K B G ss σ H) {Q : VK}
    (q : ∀ G' H' v, Stp G H G' H' → ROk X.K G' H H' v (.own (.lst (lcOut ds.length f g))) → Q v H') :
    tLc (mI X tg it) (bG X scope tg) (bP X scope ifs) (bE X scope elt) vs σ H Q := by
  refine hi B G σ H S _ fun J G1 H1 Gd Y t1 wk hG hY Dl hD => ?_
  refine lc_it wk (g := bG X scope tg) (tt := bP X scope ifs) (te := bE X scope elt) (vs := vs) (σ := σ) (D := Dl) (Qd := fun H' => Q (.ref Dl) H') (fun i H' => ∃ G' acc, Ex G1 G' ∧ Stp G H G' H' ∧ Ex H1 H' ∧ G' Dl = none ∧ H' Dl = some (.lst acc) ∧ RepL X.K G' acc (lcOut i f g)) ⟨G1, [], .refl G1, t1.trans (.new t1.gh hD), .new hD, t1.gh.back hD, upd_same, .nil⟩ (fun i H' _ ⟨G', _, e, _, t, _⟩ => hG H' t) ?_ ?_
  · rintro i x H2 H3 hil ⟨G', acc, e, t, t0, gd, hd, ra⟩ hy
    obtain ⟨G3, d, h1, t3, r3⟩ := hY i H2 x H3 G' hil hy e t.gh
    obtain ⟨ss2, ws, hT, hw, hP, hE⟩ := (ht i d h1).tn
    have S3 : Sat X.K B G3 (wipS ss vs) (wipe σ vs) H3 := (S.step (t.trans t3)).wip vs
    have d3 : H3 Dl = some (.lst acc) := t3.h _ _ hd
    have g3 : G3 Dl = none := t3.out hd gd
    intro s H0 C cl fp
    refine hT s H0 C cl fp B G3 _ H3 x S3 r3 _ fun σ2 o2 S2 => ⟨wipe_eq (by rw [o2.len, wipe_length]) fun j hj => ?_, ?_⟩
    · rw [o2.off j (fun z => hj (hw j z)), wipe_get, if_neg (fun z => hj z.1)]
    intro s H0 C cl fp
    refine hP s H0 C cl fp B G3 σ2 H3 S2 _ fun G4 H4 t4 => ?_
    have e4 := (e.trans t3.g).trans t4.g
    have t5 : Stp G H G4 H4 := (t.trans t3).trans t4
    cases hf : f i with
    | false =>
      rw [if_neg (by decide), lcOut_no hf]
      exact ⟨G4, acc, e4, t5, (t0.trans t3.h).trans t4.h, t4.out d3 g3, t4.h _ _ d3, (ra.mono t3.g).mono t4.g⟩
    | true =>
      rw [if_pos rfl]
      intro s H0 C cl fp
      refine hE hf s H0 C cl fp B G4 σ2 H4 (S2.step t4) _ fun G5 H5 y t6 r6 => ?_
      have d5 := t6.h _ _ (t4.h _ _ d3)
      have g5 := t6.out (t4.h _ _ d3) (t4.out d3 g3)
      have hlen : acc.length ≤ i := by rw [ra.length]; exact lcOut_len i f g
      have t7 := t5.trans t6
      have hDl : H Dl = none := t1.h.back hD
      refine ⟨acc, d5, small1000 (by omega), G5, acc ++ [y], e4.trans t6.g, ⟨t7.g, t7.h.mut hDl, t7.gh.mut g5, t7.fr⟩, ((((t0.trans t3.h).trans t4.h).trans t6.h).mut hD), g5, upd_same, ?_⟩
      rw [lcOut_yes hf]
      exact (((ra.mono t3.g).mono t4.g).mono t6.g).app (.cons r6 .nil)
  · rintro H' ⟨G', acc, e, t, _, gd, hd, ra⟩
    exact q G' H' _ t (.lst (t1.h.back hD) gd hd ra)
theorem bG_ok {scope : Scope} (s : Shared) (H : Hp) (C : Addr) (cl : List (Str × Addr)) (fp : List Addr) : PG (X.blk s H scope (compEnvC scope cl C X.env) fp) tg (bG X scope tg) := ⟨fun pins s' σ H' v u Q I r h => h s H C cl fp pins s' u I r⟩
theorem bP_ok {scope : Scope} {ifs : List Expr} (s : Shared) (H : Hp) (C : Addr) (cl : List (Str × Addr)) (fp : List Addr) : PTs (X.blk s H scope (compEnvC scope cl C X.env) fp) ifs (bP X scope ifs) := ⟨fun pins s' σ H' Q I h => h s H C cl fp pins s' I⟩
theorem bE_ok {scope : Scope} (s : Shared) (H : Hp) (C : Addr) (cl : List (Str × Addr)) (fp : List Addr) : PE (X.blk s H scope (compEnvC scope cl C X.env) fp) elt (bE X scope elt) := ⟨fun pins s' σ H' Q I h => h s H C cl fp pins s' I⟩
theorem ee_lc {ifs : List Expr} {scope : Scope} {own : List (Str × Nat)} {f : Nat → Bool} {g : Nat → D} (cx : Ctx X k) (hi : EIc X ss tg it ds) (ok : BlkOk X.N X.env.scope scope own) (hl : ds.length ≤ 1000)
    (ht : ∀ i d, ds[i]? = some d → Turn1 X scope ss (own.map (·.2)) tg elt ifs d (f i) (g i)) (hs : ∀ x, foldedSetIterable it X.env x = pure x := by intro _; rfl) :
    EE X ss (.ListComp elt [⟨tg, it, ifs, 0⟩] scope pos) (.own (.lst (lcOut ds.length f g))) := fun B G σ H S Q q =>
  e_of (pe_lc cx.calm cx.nd pi_m ok (bG_ok (scope := scope)) bP_ok bE_ok hs) (lc_run hi ht hl S q)
theorem ss_asgLc {ifs : List Expr} {scope : Scope} {own : List (Str × Nat)} {f : Nat → Bool} {g : Nat → D} {py spos : Pos} (cx : Ctx X k) (hy : X.N[n]? = some x) (hyl : X.env.scope.names.lookup x = some .local) (hi : EIc X ss tg it ds) (ok : BlkOk X.N X.env.scope scope own) (hl : ds.length ≤ 1000)
    (ht : ∀ i d, ds[i]? = some d → Turn1 X scope ss (own.map (·.2)) tg elt ifs d (f i) (g i)) (h : SS X sts (ss.set n (.own (.lst (lcOut ds.length f g)))) P)
    (hsw : swapsWith (.ListComp elt [⟨tg, it, ifs, 0⟩] scope pos) (some (.Name x py)) spos.line X.env = pure true) (hs : ∀ x, foldedSetIterable it X.env x = pure x := by intro _; rfl) :
    SS X (.Assign [.Name x py] (.ListComp elt [⟨tg, it, ifs, 0⟩] scope pos) spos :: sts) ss P := fun B G σ H D S C =>
  ss_of (pss_cons (ps_setLc cx.calm cx.nd hy hyl hsw pi_m ok (bG_ok (scope := scope)) bP_ok bE_ok hs) pss_m)
    (lc_run hi ht hl S fun G1 H1 v t1 r1 => h B G1 _ H1 D (S.set t1 (.refl H) r1) C)
end
end Lk
namespace Lk
open PySem L2
def valD (ds : List (Key × D)) (k : Key) : Option D := (ds.find? fun kv => decide (kv.1 = k)).map (·.2)
def putD (ds : List (Key × D)) (k : Key) (v : D) : List (Key × D) :=
  if (ds.any fun kv => decide (kv.1 = k)) = true then ds.map (fun kv => if kv.1 = k then (kv.1, v) else kv) else ds ++ [(k, v)]
section
variable {K : PySem.W.Frag} {G : Hp}
theorem RepK.length {ps : List (Key × V)} {ds : List (Key × D)} (h : RepK K G ps ds) : ps.length = ds.length := by
  induction ds generalizing ps with
  | nil => cases h; rfl
  | cons d ds ih => cases h with | cons h1 h2 => simp [ih h2]
theorem RepK.keys {ps : List (Key × V)} {ds : List (Key × D)} (h : RepK K G ps ds) : ps.map (·.1) = ds.map (·.1) := by
  induction ds generalizing ps with
  | nil => cases h; rfl
  | cons d ds ih => cases h with | cons h1 h2 => simp [ih h2]
theorem RepK.val {ps : List (Key × V)} {ds : List (Key × D)} (h : RepK K G ps ds) (k : Key) : (∃ v d, valV ps k = some v ∧ valD ds k = some d ∧ Rep K G v d) ∨ (valV ps k = none ∧ valD ds k = none) := by
  induction ds generalizing ps with
  | nil => cases h; exact .inr ⟨rfl, rfl⟩
  | cons d ds ih =>
    cases h with
    | @cons k' v vs d' _ h1 h2 =>
      by_cases e : k' = k
      · exact .inl ⟨v, d', valV_pos e, by simp [valD, List.find?_cons, e], h1⟩
      · rw [valV_neg e, show valD ((k', d') :: ds) k = valD ds k by simp [valD, List.find?_cons, e]]
        exact ih h2
theorem RepK.put {ps : List (Key × V)} {ds : List (Key × D)} (h : RepK K G ps ds) (k : Key) {v : V} {d : D} (r : Rep K G v d) : RepK K G (putK ps k v) (putD ds k d) := by
  have any : ∀ {ps : List (Key × V)} {ds : List (Key × D)}, RepK K G ps ds → (ps.any fun kv => decide (kv.1 = k)) = (ds.any fun kv => decide (kv.1 = k)) := by
    intro ps ds h
    induction ds generalizing ps with
    | nil => cases h; rfl
    | cons d ds ih => cases h with | cons h1 h2 => simp [ih h2]
  have mp : ∀ {ps : List (Key × V)} {ds : List (Key × D)}, RepK K G ps ds → RepK K G (ps.map (fun kv => if kv.1 = k then (kv.1, v) else kv)) (ds.map (fun kv => if kv.1 = k then (kv.1, d) else kv)) := by
    intro ps ds h
    induction ds generalizing ps with
    | nil => cases h; exact .nil
    | cons d0 ds ih =>
      cases h with
      | @cons k' v' vs d' _ h1 h2 =>
        by_cases e : k' = k
        · simp only [List.map_cons, if_pos e]; exact .cons r (ih h2)
        · simp only [List.map_cons, if_neg e]; exact .cons h1 (ih h2)
  have ap : ∀ {ps : List (Key × V)} {ds : List (Key × D)}, RepK K G ps ds → RepK K G (ps ++ [(k, v)]) (ds ++ [(k, d)]) := by
    intro ps ds h
    induction ds generalizing ps with
    | nil => cases h; exact .cons r .nil
    | cons d0 ds ih => cases h with | cons h1 h2 => exact .cons h1 (ih h2)
  unfold putK putD
  rw [any h]
  split
  · exact mp h
  · exact ap h
end
def srt (ns : List Int) : List Int := ns.mergeSort fun a b => decide (a ≤ b)
theorem srt_perm (ns : List Int) : (srt ns).Perm ns := List.mergeSort_perm _ _
theorem srt_le (ns : List Int) : (srt ns).Pairwise (· ≤ ·) := by
  have h := List.pairwise_mergeSort (le := fun (a b : Int) => decide (a ≤ b)) (fun a b c h1 h2 => by simp only [decide_eq_true_eq] at *; omega) (fun a b => by by_cases z : a ≤ b <;> simp [z]; omega) ns
  exact h.imp fun z => by simpa using z
theorem srt_of {ns ms : List Int} (hp : ms.Perm ns) (hs : ms.Pairwise (· ≤ ·)) : ms = srt ns := PySem.W.ksm_same (hp.trans (srt_perm ns).symm) hs (srt_le ns)
theorem srt_length (ns : List Int) : (srt ns).length = ns.length := (srt_perm ns).length_eq
/-- one argument, two arguments, none of them starred -/
structure A1 (X : Cx) (a : Expr) (pos : Pos) : Prop where
  he : starEach [a] X.env = (false, eval a X.env) :: starEach [] X.env
  hpl : (backTo pos (starEach [] X.env)).any (·.1) = false
structure A2 (X : Cx) (a b : Expr) (pos : Pos) : Prop where
  he : starEach [a, b] X.env = (false, eval a X.env) :: starEach [b] X.env
  h2 : starEach [b] X.env = (false, eval b X.env) :: starEach [] X.env
  hpl : (backTo pos (starEach [b] X.env)).any (·.1) = false
/-- a built-in that the module doesn't hide -/
structure Bi (X : Cx) (x : Str) : Prop where
  g : Gl X x
  m : X.mg x = none
section
variable {X : Cx} {k : Nat} {ss ss' : List Sl} {a b e c o : Expr} {es : List Expr} {sts body : List Stmt} {pos pos' p apos cpos : Pos} {i j : Int} {d d1 d2 : D} {r r1 r2 : Sl} {ds ds1 ds2 : List D} {P : Post} {x : Str} {n : Nat}
theorem ee_len (g : Bi X "len") (h : EL X ss a ds) (A : A1 X a pos := by exact ⟨rfl, rfl⟩) : EE X ss (.Call (.Name "len" p) [a] [] pos) (.dat (.int (ds.length : Int))) := fun B G σ H S Q q =>
  e_of (pe_callB call_len_seq g.g g.m PySem.boot_len (pa_cons pe_m pa_nil A.he) (he := A.he) (hpl := A.hpl)) (h B G σ H S _ fun G1 H1 a xs t1 h1 r1 => ⟨a, xs, rfl, .inl h1, by rw [r1.length]; exact q G1 H1 _ t1 (.int _)⟩)
theorem ee_lenT (g : Bi X "len") (h : EE X ss a (.dat (.tup ds))) (A : A1 X a pos := by exact ⟨rfl, rfl⟩) : EE X ss (.Call (.Name "len" p) [a] [] pos) (.dat (.int (ds.length : Int))) := fun B G σ H S Q q =>
  e_of (pe_callB call_len_seq g.g g.m PySem.boot_len (pa_cons pe_m pa_nil A.he) (he := A.he) (hpl := A.hpl)) (h B G σ H S _ fun G1 H1 v t1 r1 => by
    cases (show Rep X.K G1 v (.tup ds) from r1) with
    | @tup a xs _ h1 h2 => exact ⟨a, xs, rfl, .inr (t1.gh.t h1), by rw [h2.length]; exact q G1 H1 _ t1 (.int _)⟩)
theorem ee_lenS {z : Str} (g : Bi X "len") (h : EE X ss a (.dat (.str z))) (hz : z.length ≤ sizeLine) (A : A1 X a pos := by exact ⟨rfl, rfl⟩) : EE X ss (.Call (.Name "len" p) [a] [] pos) (.dat (.int (z.length : Int))) := fun B G σ H S Q q =>
  e_of (pe_callB call_len_str g.g g.m PySem.boot_len (pa_cons pe_m pa_nil A.he) (he := A.he) (hpl := A.hpl)) (h B G σ H S _ fun G1 H1 v t1 r1 => ⟨z, by rw [Rep.str_inv r1], hz, q G1 H1 _ t1 (.int _)⟩)
theorem ee_min2 (cx : Ctx X k) (g : Bi X "min") (ha : EE X ss a (.dat (.int i))) (hb : EE X ss b (.dat (.int j))) (A : A2 X a b pos := by exact ⟨rfl, rfl, rfl⟩) :
    EE X ss (.Call (.Name "min" p) [a, b] [] pos) (.dat (.int (if j < i then j else i))) := fun B G σ H S Q q =>
  e_of (pe_callB (call_min2 cx.calm) g.g g.m PyProof.Rows.boot_min (pa_cons pe_m (pa_cons pe_m pa_nil A.h2) A.he) (he := A.he) (hpl := A.hpl)) (ha B G σ H S _ fun G1 H1 v t1 r1 => hb B G1 σ H1 (S.step t1) _ fun G2 H2 w t2 r2 => ⟨i, j, by rw [Rep.int_inv r1, Rep.int_inv r2], q G2 H2 _ (t1.trans t2) (.int _)⟩)
theorem ee_max2 (cx : Ctx X k) (g : Bi X "max") (ha : EE X ss a (.dat (.int i))) (hb : EE X ss b (.dat (.int j))) (A : A2 X a b pos := by exact ⟨rfl, rfl, rfl⟩) :
    EE X ss (.Call (.Name "max" p) [a, b] [] pos) (.dat (.int (if j > i then j else i))) := fun B G σ H S Q q =>
  e_of (pe_callB (call_max2 cx.calm) g.g g.m PyProof.Rows.boot_max (pa_cons pe_m (pa_cons pe_m pa_nil A.h2) A.he) (he := A.he) (hpl := A.hpl)) (ha B G σ H S _ fun G1 H1 v t1 r1 => hb B G1 σ H1 (S.step t1) _ fun G2 H2 w t2 r2 => ⟨i, j, by rw [Rep.int_inv r1, Rep.int_inv r2], q G2 H2 _ (t1.trans t2) (.int _)⟩)
theorem ee_listL (g : Bi X "list") (h : EL X ss a ds) (A : A1 X a pos := by exact ⟨rfl, rfl⟩) : EE X ss (.Call (.Name "list" p) [a] [] pos) (.own (.lst ds)) := fun B G σ H S Q q =>
  e_of (pe_callTy call_list_of g.g g.m PyProof.Rows.boot_list (pa_cons pe_m pa_nil A.he) (he := A.he) (hpl := A.hpl)) (h B G σ H S _ fun G1 H1 a xs t1 h1 r1 => ⟨a, xs, rfl, .inl h1, fun y hy =>
    q G1 _ _ (t1.trans (.new t1.gh hy)) (.lst (t1.h.back hy) (t1.gh.back hy) upd_same r1)⟩)
theorem ee_listT (g : Bi X "list") (h : EE X ss a (.dat (.tup ds))) (A : A1 X a pos := by exact ⟨rfl, rfl⟩) : EE X ss (.Call (.Name "list" p) [a] [] pos) (.own (.lst ds)) := fun B G σ H S Q q =>
  e_of (pe_callTy call_list_of g.g g.m PyProof.Rows.boot_list (pa_cons pe_m pa_nil A.he) (he := A.he) (hpl := A.hpl)) (h B G σ H S _ fun G1 H1 v t1 r1 => by
    cases (show Rep X.K G1 v (.tup ds) from r1) with
    | @tup a xs _ h1 h2 => exact ⟨a, xs, rfl, .inr (t1.gh.t h1), fun y hy => q G1 _ _ (t1.trans (.new t1.gh hy)) (.lst (t1.h.back hy) (t1.gh.back hy) upd_same h2)⟩)
/-- list(d): its keys -/
def keyD : Key → D
  | .inl i => .int i
  | .inr z => .str z
theorem RepL.bools {K : PySem.W.Frag} {G : Hp} {vs : List V} {bs : List Bool} (h : RepL K G vs (bs.map D.bl)) : vs = bs.map V.bl := by
  induction bs generalizing vs with
  | nil => cases h; rfl
  | cons n ns ih => cases h with | cons h1 h2 => cases h1; rw [ih h2]; rfl
theorem ee_all {bs : List Bool} (cx : Ctx X k) (g : Bi X "all") (h : EL X ss a (bs.map D.bl)) (A : A1 X a pos := by exact ⟨rfl, rfl⟩) : EE X ss (.Call (.Name "all" p) [a] [] pos) (.dat (.bl (bs.all id))) := fun B G σ H S Q q =>
  e_of (pe_callB (cr_all cx.calm) g.g g.m PyProof.Rows.boot_all (pa_cons pe_m pa_nil A.he) (he := A.he) (hpl := A.hpl)) (h B G σ H S _ fun G1 H1 a xs t1 h1 r1 => ⟨a, bs, rfl, by rw [← r1.bools]; exact h1, q G1 H1 _ t1 (.bl _)⟩)
def tyD : D → Option String
  | .non => some "NoneType"
  | .bl _ => some "bool"
  | .int _ => some "int"
  | .str _ => some "str"
  | .lst _ => some "list"
  | .tup _ => some "tuple"
  | .scr _ => none
  | .dic _ => some "dict"
  | .ldc _ => none
  | .obj _ _ => none
  | .raw => none
theorem tyD_ok {K : PySem.W.Frag} {G H : Hp} {v : V} {T : String} (r : Rep K G v d) (e : Ex G H) (h : tyD d = some T) : TyX K H v (.type T) := by
  cases r with
  | non => cases h; exact .base .non
  | bl y => cases h; exact .base (.bl y)
  | int y => cases h; exact .base (.int y)
  | str y => cases h; exact .base (.str y)
  | lst h1 h2 => cases h; exact .base (.lst (e _ _ h1))
  | tup h1 h2 =>
    cases h
    rcases e.t h1 with (h1 | ⟨ob, h1⟩) | ⟨ob, its, m, h1, h3, _⟩
    · exact .base (.tup h1)
    · exact .fTuple h1
    · exact .kTuple h1 h3
  | scr h1 => cases h
  | dic h1 h2 => cases h; exact .base (.dK (e _ _ h1))
  | ldc h1 h2 => cases h
  | obj h1 h2 => cases h
  | raw => cases h
theorem ee_isi {T U : String} {y : Bool} {nm : Str} {p2 : Pos} (g : Bi X "isinstance") (gT : Bi X nm) (hT : bootBuiltins nm = some (.type U)) (h : EE X ss a (.dat d)) (hd : tyD d = some T) (hk : kitB T U = some y) (hn : nm ≠ "__name__" := by decide) (hdb : (nm == ("__debug__" : Str)) = false := by decide)
    (A : A2 X a (.Name nm p2) pos := by exact ⟨rfl, rfl, rfl⟩) :
    EE X ss (.Call (.Name "isinstance" p) [a, .Name nm p2] [] pos) (.dat (.bl y)) := fun B G σ H S Q q =>
  e_of (pe_callB call_isi g.g g.m PyProof.Rows.boot_isinstance (pa_cons pe_m (pa_cons (pe_bltn (v := .ty U) gT.g gT.m hT rfl hn hdb) pa_nil A.h2) A.he) (he := A.he) (hpl := A.hpl)) (h B G σ H S _ fun G1 H1 v t1 r1 =>
    ⟨v, .ty U, _, _, y, rfl, .ty U, tyD_ok r1 t1.gh hd, kit_ty hk, q G1 H1 _ t1 (.bl _)⟩)
theorem dget_rd {H : Hp} {a : Addr} {kvs : List (Key × V)} {k : Key} (e : Rd H a (.dK kvs)) : DGet H a (kV k) (valV kvs k) := .inl ⟨kvs, k, e, rfl, rfl⟩
theorem keyD_inv {K : PySem.W.Frag} {G : Hp} {v : V} {k : Key} (r : Rep K G v (keyD k)) : v = kV k := by
  cases k with
  | inl z => cases r; rfl
  | inr z => cases r; rfl
theorem ec_inD {kvs : List (Key × D)} {q : Key} (cx : Ctx X k) (ha : EE X ss a (.dat (keyD q))) (hb : ED X ss b kvs) : EC X ss .In a b (valD kvs q).isSome := fun B G σ H S Q c =>
  cp_of (pc_din cx.hu pe_m pe_m) (ha B G σ H S _ fun G1 H1 v t1 r1 => hb B G1 σ H1 (S.step t1) _ fun G2 H2 l xs t2 h2 r2 => by
    cases keyD_inv r1
    refine ⟨l, _, rfl, dget_rd h2, ?_⟩
    have : (valV xs q).isSome = (valD kvs q).isSome := by
      rcases r2.val q with ⟨v, d, e1, e2, _⟩ | ⟨e1, e2⟩ <;> rw [e1, e2] <;> rfl
    rw [this]
    exact c G2 H2 (t1.trans t2))
theorem ee_dnew : EE X ss (.Dict [] [] pos) (.own (.dic [])) := fun B G σ H S Q q => e_of pe_dnewK fun y hy => q G _ _ (.new S.gh hy) (.dic hy (S.gh.back hy) upd_same .nil)
/-- a flat list, a flat dict changed in its place -/
theorem Sat.putL {K : PySem.W.Frag} {B : Bs} {G G1 H1 : Hp} {σ : St} {H : Hp} {l : Addr} {xs : List V} {ds' : List D} (S : Sat K B G ss σ H) (t : Stp G H G1 H1) (hn : ss[n]? = some (.own (.lst ds))) (hl : σ[n]? = some (some (.ref l))) (r : RepL K G1 xs ds') : Sat K B G1 (ss.set n (.own (.lst ds'))) σ (upd H1 l (.lst xs)) :=
  S.put t hn hl fun f w nd out => by
    cases w with
    | lst h1 h2 => exact ⟨fun z hz => upd_ne (fun e => hz (by simp [e])), fun z hz => by simp at hz; subst hz; exact ⟨_, upd_same⟩, .lst upd_same r⟩
theorem Sat.putD {K : PySem.W.Frag} {B : Bs} {G G1 H1 : Hp} {σ : St} {H : Hp} {l : Addr} {xs : List (Key × V)} {kvs kvs' : List (Key × D)} (S : Sat K B G ss σ H) (t : Stp G H G1 H1) (hn : ss[n]? = some (.own (.dic kvs))) (hl : σ[n]? = some (some (.ref l))) (r : RepK K G1 xs kvs') : Sat K B G1 (ss.set n (.own (.dic kvs'))) σ (upd H1 l (.dK xs)) :=
  S.put t hn hl fun f w nd out => by
    cases w with
    | dic h1 h2 => exact ⟨fun z hz => upd_ne (fun e => hz (by simp [e])), fun z hz => by simp at hz; subst hz; exact ⟨_, upd_same⟩, .dic upd_same r⟩
theorem Sat.ownL {K : PySem.W.Frag} {B : Bs} {G : Hp} {σ : St} {H : Hp} (S : Sat K B G ss σ H) (hn : ss[n]? = some (.own (.lst ds))) : ∃ l xs, σ[n]? = some (some (.ref l)) ∧ H l = some (.lst xs) ∧ RepL K G xs ds ∧ G l = none := by
  obtain ⟨a, f, e1, w, nd, out⟩ := S.own hn
  cases w with
  | lst h1 h2 => exact ⟨a, _, e1, h1, h2, (out a (by simp)).1⟩
theorem Sat.ownD {K : PySem.W.Frag} {B : Bs} {G : Hp} {σ : St} {H : Hp} {kvs : List (Key × D)} (S : Sat K B G ss σ H) (hn : ss[n]? = some (.own (.dic kvs))) : ∃ l xs, σ[n]? = some (some (.ref l)) ∧ H l = some (.dK xs) ∧ RepK K G xs kvs ∧ G l = none := by
  obtain ⟨a, f, e1, w, nd, out⟩ := S.own hn
  cases w with
  | dic h1 h2 => exact ⟨a, _, e1, h1, h2, (out a (by simp)).1⟩
/-- xs.append(e) -/
theorem ss_app (v : VarOk X n x) (hn : ss[n]? = some (.own (.lst ds))) (he : EE X ss e (.dat d)) (hl : ds.length ≤ 1000) (h : SS X sts (ss.set n (.own (.lst (ds ++ [d])))) P)
    (hbase : attributeBase (.Name x p) "append" X.env (eval (.Name x p) X.env) = eval (.Name x p) X.env := by rfl)
    (hfew : ((backTo cpos (starEach [e] X.env)).all (fun x => !x.1) && (backToKw cpos (keywordEach [] X.env)).all (fun x => x.1.isSome)
      && decide (([e] : List Expr).length + ([] : List Keyword).length + (if ([] : List Keyword).isEmpty then 0 else 1) < 30)) = true := by rfl)
    (hline : (apos.endLine == cpos.line) = true := by rfl) (hs : starEach [e] X.env = (false, eval e X.env) :: starEach [] X.env := by rfl) (hplain : (backTo cpos (starEach [] X.env)).any (·.1) = false := by rfl) (hsw : swapsWith (.Call (.Attribute (.Name x p) "append" apos) [e] [] cpos) none pos.line X.env = pure false := by rfl) :
    SS X (.Expr (.Call (.Attribute (.Name x p) "append" apos) [e] [] cpos) pos :: sts) ss P := fun B G σ H D S C => by
  obtain ⟨l, xs, h1, h2, h3, g⟩ := S.ownL hn
  refine ss_of (pss_cons (ps_expr (pe_bm PySem.F.plainAttrs_list PySem.F.slot_list_append PySem.F.type_list_append mt_append (pe_var v.n v.v v.d1 v.d2) (pa_cons pe_m pa_nil hs) hbase hfew hline hs hplain) hsw) pss_m) ?_
  refine ⟨.ref l, h1, .inl ⟨rfl, xs, .of h2⟩, he B G σ H S _ fun G1 H1 w t1 r1 => ?_⟩
  have h4 : H1 l = some (.lst xs) := t1.h _ _ h2
  refine ⟨l, xs, w, rfl, rfl, h4, small1000 (by rw [h3.length]; exact hl), ?_⟩
  exact h B G1 σ _ D (S.putL t1 hn h1 ((h3.mono t1.g).app (.cons r1 .nil))) C
/-- d[k] = v -/
theorem ss_dput {kvs : List (Key × D)} {q : Key} (cx : Ctx X k) (v : VarOk X n x) (hn : ss[n]? = some (.own (.dic kvs))) (hk : EE X ss a (.dat (keyD q))) (he : EE X ss e (.dat d)) (hl : kvs.length ≤ 1000) (h : SS X sts (ss.set n (.own (.dic (putD kvs q d)))) P)
    (hs : swapsWith e (some (.Subscript (.Name x p) a pos')) pos.line X.env = pure false := by rfl) : SS X (.Assign [.Subscript (.Name x p) a pos'] e pos :: sts) ss P := fun B G σ H D S C => by
  obtain ⟨l, xs, h1, h2, h3, g⟩ := S.ownD hn
  refine ss_of (pss_cons (ps_dput cx.hu (pe_var v.n v.v v.d1 v.d2) pe_m pe_m hs) pss_m) (he B G σ H S _ fun G1 H1 w t1 r1 => ⟨.ref l, h1, hk B G1 σ H1 (S.step t1) _ fun G2 H2 y t2 r2 => ?_⟩)
  cases keyD_inv r2
  have h4 : H2 l = some (.dK xs) := t2.h _ _ (t1.h _ _ h2)
  refine ⟨l, _, rfl, .k h4 (small1000 (by rw [h3.length]; exact hl)), ?_⟩
  exact h B G2 σ _ D (S.putD (t1.trans t2) hn h1 (((h3.mono t1.g).mono t2.g).put q (Rep.mono t2.g r1))) C
theorem ee_cat (ha : ELt X ss a ds1) (hb : ELt X ss b ds2) (hl : ds1.length + ds2.length ≤ 1000) : EE X ss (.BinOp a .Add b pos) (.own (.lst (ds1 ++ ds2))) := fun B G σ H S Q q =>
  e_of (pe_op op_cat pe_m pe_m) (ha B G σ H S _ fun G1 H1 l xs t1 h1 r1 => hb B G1 σ H1 (S.step t1) _ fun G2 H2 m ys t2 h2 r2 =>
    ⟨l, m, xs, ys, rfl, rfl, t2.h _ _ h1, h2, by rw [r1.length, r2.length]; exact Nat.le_of_lt (small1000 hl), fun y hy => q G2 _ _ ((t1.trans t2).trans (.new t2.gh hy)) (.lst ((t1.trans t2).h.back hy) (t2.gh.back hy) upd_same ((r1.mono t2.g).app r2))⟩)
end
end Lk
namespace Lk
open PySem L2
structure At (X : Cx) (P : Program) (w : World) (K : PySem.W.Frag) (mg : Str → Option Value) (base : Heap) (N : List Str) (sc : Scope) (k : Nat) : Prop where
  p : P = X.prog
  w : w = X.w
  K : K = X.K
  mg : mg = X.mg
  base : base = X.base
  N : X.N = N
  sc : X.env.scope = sc
  fn : ∀ x, X.fn x = true
  cx : Ctx X k
  stk : X.stack = X.env :: X.outer
  frm : X.env.frame = some X.env.locals
def slots0 (n m : Nat) (ds : List D) : List Sl := ds.map Sl.dat ++ List.replicate (m - n) .any
theorem sls_dat {K : PySem.W.Frag} {B : Bs} {G H : Hp} {vs : List V} {ds : List D} (r : RepL K G vs ds) {σ : St} {ss : List Sl} (h : Sls K B G H σ ss []) : Sls K B G H (vs.map some ++ σ) (ds.map Sl.dat ++ ss) [] := by
  induction ds generalizing vs with
  | nil => cases r; exact h
  | cons d ds ih => cases r with | cons r1 r2 => exact .cons (.dat r1) (ih r2)
theorem sls_any {K : PySem.W.Frag} {B : Bs} {G H : Hp} : ∀ m : Nat, Sls K B G H (List.replicate m none) (List.replicate m .any) []
  | 0 => .nil
  | m + 1 => .cons (.any none) (sls_any m)
theorem sat_start {K : PySem.W.Frag} {G H : Hp} {vs : List V} {ds : List D} {N : List Str} {n : Nat} (e : Ex G H) (r : RepL K G vs ds) (hn : ds.length = n) (hN : n ≤ N.length) : Sat K ⟨G, H, G⟩ G (slots0 n N.length ds) (L2.start N vs) H := by
  have hl := r.length
  refine ⟨.refl e, .refl G, [], ?_, .nil, fun f hf => by cases hf⟩
  unfold slots0 L2.start
  rw [show N.length - vs.length = N.length - n by omega]
  exact sls_dat r (sls_any _)
/-- the body's word -/
def Body (P : Program) (w : World) (K : PySem.W.Frag) (mg : Str → Option Value) (base : Heap) (N : List Str) (n k : Nat) (st : Stmt) (R : List D → (Sl → Prop) → Prop) : Prop :=
  ∀ (X : Cx), At X P w K mg base N (defScope st) k → ∀ (ds : List D) (post : Sl → Prop), ds.length = n → R ds post → SS X (defBody st) (slots0 n N.length ds) { nx := fun _ => post (.dat .non), rt := post }
section
variable {P : Program} {w : World} {K : PySem.W.Frag} {mg : Str → Option Value} {base : Heap} {x qual : Str} {st : Stmt} {f : Addr} {fd : FuncData} {N ps : List Str} {n k : Nat} {R : List D → (Sl → Prop) → Prop}
theorem fnok_of (F : Fun K x qual st f fd) (S : FnScope N ps (defScope st)) (hn : ps.length = n) (hN : n ≤ N.length) (h : Body P w K mg base N n k st R) : FnOk P w K mg base CX0 (k + 1) f fd ps (spF K n R) := by
  refine F.ok S (fun vs H Q E q => q.1.trans hn.symm) fun cdv A outer s H vs Q E hr hsp => ?_
  obtain ⟨hl, G, ds, post, e, r, hR, c⟩ := hsp
  refine ⟨_, pss_m, ?_⟩
  have hd : ds.length = n := r.length.symm.trans hl
  refine h _ ⟨rfl, rfl, rfl, rfl, rfl, rfl, rfl, fun _ => rfl, ⟨rfl, S.nd, hr, PassesOwn.never⟩, rfl, rfl⟩ ds post hd hR ⟨G, H, G⟩ G _ H _ (sat_start e r hd hN) ⟨fun ss G' σ H' q S' => c _ G' H' .non q S'.st .non, fun r' G' H' v q t z => c r' G' H' v q t z, fun _ _ _ _ q => q.elim, fun _ _ _ _ q => q.elim, fun _ _ _ _ _ _ q => q.elim, takes_no⟩
theorem fn_of' (F : Fun K x qual st f fd) (S : FnScope N ps (defScope st)) (hm : mg x = some (.ref f)) (b : Binds K fd ps []) (hn : ps.length = n) (hN : n ≤ N.length) (h : Body P w K mg base N n k st R) : Fn P w K mg base (k + 1) x n R :=
  ⟨f, fd, ps, fnok_of F S hn hN h, hm, F.kp, b, hn⟩
end
section
variable {X : Cx} {P : Program} {w : World} {K : PySem.W.Frag} {mg : Str → Option Value} {base : Heap} {N : List Str} {sc : Scope} {k : Nat} {i : Nat} {x : Str}
theorem At.var (a : At X P w K mg base N sc k) (h : N[i]? = some x) (v : Vis sc x) (h1 : (x == ("__debug__" : Str)) = false := by decide) (h2 : (x == ("__classdict__" : Str)) = false := by decide) : VarOk X i x := ⟨by rw [a.N]; exact h, by rw [a.sc]; exact v, h1, h2⟩
theorem At.loc (a : At X P w K mg base N sc k) (h : N[i]? = some x) (v : Loc sc x) : LocOk X i x := ⟨by rw [a.N]; exact h, by rw [a.sc]; exact v, .inl (a.fn x)⟩
theorem At.gl (a : At X P w K mg base N sc k) (h : sc.names.lookup x = some .globalImplicit) : Gl X x := by
  show X.env.scope.names.lookup x = _
  rw [a.sc]; exact h
theorem At.bi (a : At X P w K mg base N sc k) (h : sc.names.lookup x = some .globalImplicit) (hm : mg x = none) : Bi X x := ⟨a.gl h, by rw [← a.mg]; exact hm⟩
end
section
variable {X : Cx} {k : Nat} {ss ss' : List Sl} {a b e c o : Expr} {es : List Expr} {sts body : List Stmt} {pos pos' p apos cpos : Pos} {i j : Int} {d d1 d2 : D} {r r1 r2 : Sl} {ds ds1 ds2 : List D} {P : Post} {x : Str} {n : Nat}
mutual
def D.py : D → PyData
  | .non => .none
  | .bl b => .bool b
  | .int i => .int i
  | .str s => .str s
  | .lst l => .list (pyL l)
  | .tup l => .tuple (pyL l)
  | .scr ns => .list (ns.map PyData.int)
  | .dic _ => .none
  | .ldc _ => .none
  | .obj _ _ => .none
  | .raw => .none
def pyL : List D → List PyData
  | [] => []
  | d :: ds => d.py :: pyL ds
end
mutual
def D.plain : D → Bool
  | .lst l => plainL l
  | .tup l => plainL l
  | .dic _ => false
  | .ldc _ => false
  | .obj _ _ => false
  | .raw => false
  | _ => true
def plainL : List D → Bool
  | [] => true
  | d :: ds => d.plain && plainL ds
end
theorem dp_ints {K : PySem.W.Frag} {H : Hp} : ∀ ns : List Int, DpAll K H (ns.map V.int) (ns.map PyData.int)
  | [] => .nil
  | n :: ns => .cons (.int n) (dp_ints ns)
mutual
theorem Rep.dp {K : PySem.W.Frag} {G H : Hp} (e : Ex G H) {v : V} : {d : D} → Rep K G v d → d.plain = true → Dp K H v d.py
  | .non, h, _ => by cases h; exact .non
  | .bl _, h, _ => by cases h; exact .bl _
  | .int _, h, _ => by cases h; exact .int _
  | .str _, h, _ => by cases h; exact .str _
  | .lst ds, h, p => by cases h with | lst h1 h2 => exact .lst (.of (e _ _ h1)) (RepL.dp e h2 (by simpa [D.plain] using p))
  | .tup ds, h, p => by cases h with | tup h1 h2 => exact .tup (e.t h1) (RepL.dp e h2 (by simpa [D.plain] using p))
  | .scr ns, h, _ => by
    cases h with
    | scr h1 =>
      refine .lst (e.l h1) ?_
      exact dp_ints ns
  | .dic _, _, p => by simp [D.plain] at p
  | .ldc _, _, p => by simp [D.plain] at p
  | .obj _ _, _, p => by simp [D.plain] at p
  | .raw, _, p => by simp [D.plain] at p
theorem RepL.dp {K : PySem.W.Frag} {G H : Hp} (e : Ex G H) {vs : List V} : {ds : List D} → RepL K G vs ds → plainL ds = true → DpAll K H vs (pyL ds)
  | [], h, _ => by cases h; exact .nil
  | d :: ds, h, p => by
    cases h with
    | cons h1 h2 =>
      have p' : d.plain = true ∧ plainL ds = true := by simpa [plainL] using p
      exact .cons (Rep.dp e h1 p'.1) (RepL.dp e h2 p'.2)
end
/-- data that == may be asked of -/
structure EqOk (d : D) : Prop where
  plain : d.plain = true
  shaped : SeqAt.shaped d.py = true
theorem Ctx.u64 {X : Cx} {k : Nat} (cx : Ctx X k) : X.A.units + 64 < cLine := cx.room.units
theorem ec_eqD (cx : Ctx X k) (ha : EE X ss a (.dat d1)) (hb : EE X ss b (.dat d2)) (o1 : EqOk d1) (o2 : EqOk d2) : EC X ss .Eq a b (PyData.eqv d1.py d2.py) :=
  ec_2 (op_eqD cx.u64) ha hb fun G H v w e r1 r2 Q q => ⟨_, _, r1.dp e o1.plain, r2.dp e o2.plain, o1.shaped, o2.shaped, q⟩
theorem ec_neD (cx : Ctx X k) (ha : EE X ss a (.dat d1)) (hb : EE X ss b (.dat d2)) (o1 : EqOk d1) (o2 : EqOk d2) : EC X ss .NotEq a b (!PyData.eqv d1.py d2.py) :=
  ec_2 (op_neD cx.u64) ha hb fun G H v w e r1 r2 Q q => ⟨_, _, r1.dp e o1.plain, r2.dp e o2.plain, o1.shaped, o2.shaped, q⟩
end
end Lk
namespace Lk
open PySem L2
theorem map_get {α : Type} {xs : List α} {en : α → D} {i : Nat} {d : D} (h : (xs.map en)[i]? = some d) : ∃ t, xs[i]? = some t ∧ d = en t := by
  rw [List.getElem?_map] at h
  cases e : xs[i]? with
  | none => rw [e] at h; cases h
  | some t => rw [e] at h; cases h; exact ⟨t, rfl, rfl⟩
def cut {α : Type} (xs : List α) (lo hi : Option Int) : List α := (xs.drop (HT.sIx xs.length 0 lo)).take (HT.sIx xs.length xs.length hi - HT.sIx xs.length 0 lo)
theorem cutD_map {α : Type} (xs : List α) (en : α → D) (lo hi : Option Int) : cutD (xs.map en) lo hi = (cut xs lo hi).map en := by
  unfold cutD cut
  rw [List.length_map, List.map_take, List.map_drop]
theorem cut_length {α : Type} (xs : List α) (lo hi : Option Int) : (cut xs lo hi).length ≤ xs.length := by
  unfold cut
  rw [List.length_take, List.length_drop]
  omega
theorem atI_map {α : Type} {xs : List α} {en : α → D} {i : Int} {t : α} (h : atI xs i = some t) : atI (xs.map en) i = some (en t) := by
  unfold atI at h ⊢
  rw [List.length_map]
  cases e : ixN xs.length i with
  | none => rw [e] at h; cases h
  | some n =>
    rw [e] at h
    show (xs.map en)[n]? = some (en t)
    rw [List.getElem?_map, show xs[n]? = some t from h]
    rfl
theorem atI_of {α : Type} {xs : List α} {i : Int} (h0 : 0 ≤ i) (h : i < xs.length) : atI xs i = some (xs[i.toNat]'(by omega)) := by
  unfold atI ixN
  rw [if_pos h0, if_pos h]
  show xs[i.toNat]? = _
  rw [List.getElem?_eq_getElem]
section
variable {X : Cx} {k : Nat} {ss ss' s1 s2 : List Sl} {a b e c o tg it elt : Expr} {es : List Expr} {sts body : List Stmt} {pos pos' p apos cpos : Pos} {i j : Int} {d d1 d2 : D} {r r1 r2 : Sl} {ds ds1 ds2 : List D} {P : Post} {x : Str} {n : Nat}
  {α β : Type} {xs ys : List α} {en : α → D} {t : α}
theorem ee_ixLT (hl : EL X ss a (xs.map en)) (hi : EE X ss b (.dat (.int i))) (hs : PlainIx b) (h : atI xs i = some t) : EE X ss (.Subscript a b pos) (.dat (en t)) := ee_ixL hl hi hs (atI_map h)
theorem ee_slLT {lo hi : Option Expr} {l u : Option Int} {p2 : Pos} (hl : EL X ss a (xs.map en)) (h1 : EO X ss lo l) (h2 : EO X ss hi u) : EE X ss (.Subscript a (.Slice lo hi none p2) pos) (.own (.lst ((cut xs l u).map en))) := by
  have h := ee_slL (pos := pos) (p2 := p2) hl h1 h2
  rw [cutD_map] at h
  exact h
theorem ee_lenT' (g : Bi X "len") (h : EL X ss a (xs.map en)) (A : A1 X a pos := by exact ⟨rfl, rfl⟩) : EE X ss (.Call (.Name "len" p) [a] [] pos) (.dat (.int (xs.length : Int))) := by
  have q := ee_len (p := p) g h A
  rw [List.length_map] at q
  exact q
theorem ss_appT (v : VarOk X n x) (hn : ss[n]? = some (.own (.lst (xs.map en)))) (he : EE X ss e (.dat (en t))) (hl : xs.length ≤ 1000) (h : SS X sts (ss.set n (.own (.lst ((xs ++ [t]).map en)))) P)
    (hbase : attributeBase (.Name x p) "append" X.env (eval (.Name x p) X.env) = eval (.Name x p) X.env := by rfl)
    (hfew : ((backTo cpos (starEach [e] X.env)).all (fun x => !x.1) && (backToKw cpos (keywordEach [] X.env)).all (fun x => x.1.isSome)
      && decide (([e] : List Expr).length + ([] : List Keyword).length + (if ([] : List Keyword).isEmpty then 0 else 1) < 30)) = true := by rfl)
    (hline : (apos.endLine == cpos.line) = true := by rfl) (hs : starEach [e] X.env = (false, eval e X.env) :: starEach [] X.env := by rfl) (hplain : (backTo cpos (starEach [] X.env)).any (·.1) = false := by rfl) (hsw : swapsWith (.Call (.Attribute (.Name x p) "append" apos) [e] [] cpos) none pos.line X.env = pure false := by rfl) :
    SS X (.Expr (.Call (.Attribute (.Name x p) "append" apos) [e] [] cpos) pos :: sts) ss P := by
  refine ss_app v hn he (by rw [List.length_map]; exact hl) ?_ hbase hfew hline hs hplain hsw
  rw [List.map_append] at h
  exact h
theorem ee_catT (ha : ELt X ss a (xs.map en)) (hb : ELt X ss b (ys.map en)) (hl : xs.length + ys.length ≤ 1000) : EE X ss (.BinOp a .Add b pos) (.own (.lst ((xs ++ ys).map en))) := by
  rw [List.map_append]
  exact ee_cat ha hb (by rw [List.length_map, List.length_map]; exact hl)
/-- a walk over a typed list -/
theorem ss_forT (cx : Ctx X k) (hi : EI X ss tg it (xs.map en)) (W : Nat → List Sl → Prop) (h0 : W 0 ss)
    (hs : ∀ i t s1, xs[i]? = some t → W i s1 → ∃ s2 ws, TT1 X tg (en t) s1 s2 ws ∧ SS X body s2 ⟨W (i + 1), P.rt, fun s => SS X sts s P, W (i + 1), P.rs, P.xt⟩) (hd : ∀ s1, W xs.length s1 → SS X sts s1 P)
    (hf : ∀ y, foldedSetIterable it X.env y = pure y := by intro _; rfl) : SS X (.For tg it body [] pos :: sts) ss P :=
  ss_for cx hi W h0 (fun i d s1 h1 h2 => by
    obtain ⟨t, h3, rfl⟩ := map_get h1
    exact hs i t s1 h3 h2) (fun s1 h => hd s1 (by rw [List.length_map] at h; exact h)) hf
theorem enuD_map {i : Nat} {d : D} (h : (enuD (xs.map en))[i]? = some d) : ∃ t, xs[i]? = some t ∧ d = .tup [.int (i : Int), en t] := by
  unfold enuD at h
  rw [List.getElem?_map, List.getElem?_zipIdx, List.getElem?_map] at h
  cases e : xs[i]? with
  | none => rw [e] at h; cases h
  | some t => rw [e] at h; simp at h; exact ⟨t, rfl, h.symm⟩
theorem ss_forE (cx : Ctx X k) (hi : EI X ss tg it (enuD (xs.map en))) (W : Nat → List Sl → Prop) (h0 : W 0 ss)
    (hs : ∀ i t s1, xs[i]? = some t → W i s1 → ∃ s2 ws, TT1 X tg (.tup [.int (i : Int), en t]) s1 s2 ws ∧ SS X body s2 ⟨W (i + 1), P.rt, fun s => SS X sts s P, W (i + 1), P.rs, P.xt⟩) (hd : ∀ s1, W xs.length s1 → SS X sts s1 P)
    (hf : ∀ y, foldedSetIterable it X.env y = pure y := by intro _; rfl) : SS X (.For tg it body [] pos :: sts) ss P :=
  ss_for cx hi W h0 (fun i d s1 h1 h2 => by
    obtain ⟨t, h3, rfl⟩ := enuD_map h1
    exact hs i t s1 h3 h2) (fun s1 h => hd s1 (by rw [enuD_len, List.length_map] at h; exact h)) hf
theorem ss_forR {lo : Int} {n : Nat} (cx : Ctx X k) (hi : EI X ss tg it (rngD lo n)) (W : Nat → List Sl → Prop) (h0 : W 0 ss)
    (hs : ∀ i s1, i < n → W i s1 → ∃ s2 ws, TT1 X tg (.int (lo + (i : Int))) s1 s2 ws ∧ SS X body s2 ⟨W (i + 1), P.rt, fun s => SS X sts s P, W (i + 1), P.rs, P.xt⟩) (hd : ∀ s1, W n s1 → SS X sts s1 P)
    (hf : ∀ y, foldedSetIterable it X.env y = pure y := by intro _; rfl) : SS X (.For tg it body [] pos :: sts) ss P :=
  ss_for cx hi W h0 (fun i d s1 h1 h2 => by
    have hl : i < n := by have := (List.getElem?_eq_some_iff.mp h1).1; rw [rngD_len] at this; exact this
    rw [rngD_get hl] at h1
    cases h1
    exact hs i s1 hl h2) (fun s1 h => hd s1 (by rw [rngD_len] at h; exact h)) hf
theorem lcOut_T {f : α → Bool} {g : α → D} {f' : Nat → Bool} {g' : Nat → D} (h : ∀ i t, xs[i]? = some t → f' i = f t ∧ g' i = g t) : lcOut xs.length f' g' = (xs.filter f).map g := by
  have key : ∀ n, n ≤ xs.length → lcOut n f' g' = ((xs.take n).filter f).map g := by
    intro n
    induction n with
    | zero => intro _; rfl
    | succ n ih =>
      intro hn
      obtain ⟨h1, h2⟩ := h n xs[n] (List.getElem?_eq_getElem (by omega))
      rw [List.take_succ, List.getElem?_eq_getElem (show n < xs.length by omega), List.filter_append, List.map_append, ← ih (by omega)]
      cases hf : f xs[n] with
      | true => rw [lcOut_yes (h1.trans hf), h2]; simp [hf]
      | false => rw [lcOut_no (h1.trans hf)]; simp [hf]
  have := key xs.length (Nat.le_refl _)
  rw [List.take_length] at this
  exact this
def onI (xs : List α) (f : α → β) (z : β) (i : Nat) : β := match xs[i]? with
  | some t => f t
  | none => z
theorem onI_get {f : α → β} {z : β} {i : Nat} (h : xs[i]? = some t) : onI xs f z i = f t := by unfold onI; rw [h]
variable {ifs : List Expr} {scope : Scope} {own : List (Str × Nat)} {f : α → Bool} {g : α → β} {en2 : β → D}
theorem lc_T : lcOut xs.length (onI xs f false) (onI xs (fun t => en2 (g t)) .non) = ((xs.filter f).map g).map en2 := by
  have q := lcOut_T (xs := xs) (f := f) (g := fun t => en2 (g t)) (f' := onI xs f false) (g' := onI xs (fun t => en2 (g t)) .non) fun i t h => ⟨onI_get h, onI_get h⟩
  rw [q, List.map_map]
  rfl
/-- [elt for tg in it if ..], the items of type α, what is made of type β -/
theorem ee_lcT (en2 : β → D) (f : α → Bool) (g : α → β) (cx : Ctx X k) (hi : EIc X ss tg it (xs.map en)) (ok : BlkOk X.N X.env.scope scope own) (hl : xs.length ≤ 1000)
    (ht : ∀ (i : Nat) (t : α), xs[i]? = some t → Turn1 X scope ss (own.map (·.2)) tg elt ifs (en t) (f t) (en2 (g t))) (hs : ∀ x, foldedSetIterable it X.env x = pure x := by intro _; rfl) :
    EE X ss (.ListComp elt [⟨tg, it, ifs, 0⟩] scope pos) (.own (.lst (((xs.filter f).map g).map en2))) := by
  rw [← lc_T (xs := xs) (f := f) (g := g) (en2 := en2)]
  have q := ee_lc (pos := pos) (f := onI xs f false) (g := onI xs (fun t => en2 (g t)) .non) cx hi ok (by rw [List.length_map]; exact hl) (fun i d h => by
    obtain ⟨t, h1, rfl⟩ := map_get h
    rw [onI_get h1, onI_get h1]
    exact ht i t h1) hs
  rw [List.length_map] at q
  exact q
theorem ss_asgLcT {py spos : Pos} (en2 : β → D) (f : α → Bool) (g : α → β) (cx : Ctx X k) (hy : X.N[n]? = some x) (hyl : X.env.scope.names.lookup x = some .local) (hi : EIc X ss tg it (xs.map en)) (ok : BlkOk X.N X.env.scope scope own) (hl : xs.length ≤ 1000)
    (ht : ∀ (i : Nat) (t : α), xs[i]? = some t → Turn1 X scope ss (own.map (·.2)) tg elt ifs (en t) (f t) (en2 (g t))) (h : SS X sts (ss.set n (.own (.lst (((xs.filter f).map g).map en2)))) P)
    (hsw : swapsWith (.ListComp elt [⟨tg, it, ifs, 0⟩] scope pos) (some (.Name x py)) spos.line X.env = pure true) (hs : ∀ x, foldedSetIterable it X.env x = pure x := by intro _; rfl) :
    SS X (.Assign [.Name x py] (.ListComp elt [⟨tg, it, ifs, 0⟩] scope pos) spos :: sts) ss P := by
  rw [← lc_T (xs := xs) (f := f) (g := g) (en2 := en2)] at h
  refine ss_asgLc (pos := pos) (f := onI xs f false) (g := onI xs (fun t => en2 (g t)) .non) cx hy hyl hi ok (by rw [List.length_map]; exact hl) (fun i d h => by
    obtain ⟨t, h1, rfl⟩ := map_get h
    rw [onI_get h1, onI_get h1]
    exact ht i t h1) ?_ hsw hs
  rw [List.length_map]
  exact h
end
section
variable {X : Cx} {scope : Scope} {s : Shared} {H : Hp} {C : Addr} {cl : List (Str × Addr)} {fp : List Addr} {k : Nat}
theorem Ctx.blk (c : Ctx X k) : Ctx (blkX X scope s H C cl fp) k := ⟨c.calm, c.nd, c.room, PassesOwn.never⟩
end
theorem Le1.of {s s' : Sl} (h : s = s') : Le1 s s' := h ▸ .refl s
theorem Les.same {s t t' : List Sl} {y : Sl} (h : Les t t') : Les (y :: t) (y :: t') := .cons (.refl y) h
section
variable {X : Cx} {ss ss' : List Sl} {c : Expr} {sts A1' A2' : List Stmt} {pos : Pos} {P : Post} {y : Bool}
/-- an if behind which the two ways are one again -/
theorem ss_ifm (M : List Sl) (hc : ET X ss c y) (h1 : y = true → SS X A1' ss { P with nx := fun s => Les s M }) (h2 : y = false → SS X A2' ss { P with nx := fun s => Les s M }) (h : SS X sts M P) : SS X (.If c A1' A2' pos :: sts) ss P := by
  have tr : ∀ {Q : List Sl → Prop} {A : List Stmt}, SS X A ss { P with nx := fun s => Les s M } → SS X A ss { P with nx := fun ss' => SS X sts ss' P } := fun q B G σ H D S C =>
    q B G σ H D S ⟨fun s G σ H l S' => C.nx s G σ H (.weak l h) S', C.rt, C.bk, C.ct, C.rs, C.xt⟩
  exact ss_if hc (fun e => tr (Q := fun _ => True) (h1 e)) (fun e => tr (Q := fun _ => True) (h2 e))
end
/-- the letters' own ties, poles, nets -/
abbrev Tie := Int × Int × Int
abbrev ePair (q : Int × Int) : D := .tup [.int q.1, .int q.2]
abbrev eTie (t : Tie) : D := .tup [.int t.1, .int t.2.1, .int t.2.2]
abbrev Net := (Int × Int) × List Tie
abbrev eNet (n : Net) : D := .tup [ePair n.1, .lst (n.2.map eTie)]
theorem EE.asPair {X : Cx} {ss : List Sl} {e : Expr} {a b : Int} (h : EE X ss e (.dat (.tup [.int a, .int b]))) : EE X ss e (.dat (ePair (a, b))) := h
theorem EE.asTie {X : Cx} {ss : List Sl} {e : Expr} {a b c : Int} (h : EE X ss e (.dat (.tup [.int a, .int b, .int c]))) : EE X ss e (.dat (eTie (a, b, c))) := h
end Lk
namespace Lk
open PySem L2
section
variable {X : Cx} {P : Program} {w : World} {K : PySem.W.Frag} {mg : Str → Option Value} {base : Heap} {N : List Str} {sc scope : Scope} {k : Nat} {i : Nat} {x : Str} {s : Shared} {H : Hp} {C : Addr} {cl : List (Str × Addr)} {fp : List Addr}
theorem At.bvar (a : At X P w K mg base N sc k) (h : N[i]? = some x) (v : Vis (relS scope sc) x) (h1 : (x == ("__debug__" : Str)) = false := by decide) (h2 : (x == ("__classdict__" : Str)) = false := by decide) : VarOk (blkX X scope s H C cl fp) i x :=
  ⟨by show X.N[i]? = _; rw [a.N]; exact h, by show Vis (relS scope X.env.scope) x; rw [a.sc]; exact v, h1, h2⟩
theorem At.bloc (a : At X P w K mg base N sc k) (h : N[i]? = some x) (v : (relS scope sc).names.lookup x = some .local ∨ ((relS scope sc).names.lookup x = some .cell ∧ scope.names.lookup x = some .cell)) : LocOk (blkX X scope s H C cl fp) i x :=
  ⟨by show X.N[i]? = _; rw [a.N]; exact h, by show Loc (relS scope X.env.scope) x; rw [a.sc]; exact v.elim .inl (fun z => .inr z.1), v.elim (fun z => .inr (by show (relS scope X.env.scope).names.lookup x = _; rw [a.sc]; exact z)) (fun z => .inl (by show (scope.names.lookup x == some .cell) = true; rw [z.2]; rfl))⟩
theorem At.bgl (a : At X P w K mg base N sc k) (h : (relS scope sc).names.lookup x = some .globalImplicit) : Gl (blkX X scope s H C cl fp) x := by
  show (relS scope X.env.scope).names.lookup x = _
  rw [a.sc]; exact h
theorem At.bbi (a : At X P w K mg base N sc k) (h : (relS scope sc).names.lookup x = some .globalImplicit) (hm : mg x = none) : Bi (blkX X scope s H C cl fp) x := ⟨a.bgl h, by show X.mg x = none; rw [← a.mg]; exact hm⟩
theorem At.blk (a : At X P w K mg base N sc k) {own : List (Str × Nat)} (h : blkC N sc scope own = true) : BlkOk X.N X.env.scope scope own := by rw [a.N, a.sc]; exact blkOk_by h
theorem At.sw (a : At X P w K mg base N sc k) (h : sc.names.lookup x = some .local) : X.env.scope.names.lookup x = some .local := by rw [a.sc]; exact h
theorem At.nn (a : At X P w K mg base N sc k) (h : N[i]? = some x) : X.N[i]? = some x := by rw [a.N]; exact h
end
section
variable {X : Cx} {k : Nat} {ss ss' : List Sl} {a b e c : Expr} {es : List Expr} {sts : List Stmt} {pos p p2 : Pos} {i j : Int} {d : D} {P : Post} {x : Str} {n : Nat} {y : Bool}
theorem ee_powL {v : Int} {z z2} (hc : CPow i j) (h : i ^ j.toNat = v) : EE X ss (.BinOp (.Constant (.int i) z p) .Pow (.Constant (.int j) z2 p2) pos) (.dat (.int v)) := by
  rw [← h]; exact ee_pow ee_int ee_int hc
theorem le_then {a b : Int} (e : y = true) : Le1 (.dat (.int a)) (.dat (.int (cond y a b))) := by rw [e]; exact .refl _
theorem le_else {a b : Int} (e : y = false) : Le1 (.dat (.int b)) (.dat (.int (cond y a b))) := by rw [e]; exact .refl _
theorem le_thenL {α : Type} {en : α → D} {a b : List α} (e : y = true) : Le1 (.own (.lst (a.map en))) (.own (.lst ((cond y a b).map en))) := by rw [e]; exact .refl _
theorem le_elseL {α : Type} {en : α → D} {a b : List α} (e : y = false) : Le1 (.own (.lst (b.map en))) (.own (.lst ((cond y a b).map en))) := by rw [e]; exact .refl _
end
end Lk
namespace Lk
open PySem L2
def at0 {α : Type} (z : α) (xs : List α) (i : Int) : α := (xs[i.toNat]?).getD z
theorem at0_ok {α : Type} {z : α} {xs : List α} {i : Int} (h0 : 0 ≤ i) (h : i < xs.length) : atI xs i = some (at0 z xs i) := by
  rw [atI_of h0 h]
  unfold at0
  rw [List.getElem?_eq_getElem (by omega)]
  rfl
theorem at0_mem {α : Type} {z : α} {xs : List α} {i : Int} (h0 : 0 ≤ i) (h : i < xs.length) : at0 z xs i ∈ xs := by
  unfold at0
  rw [List.getElem?_eq_getElem (show i.toNat < xs.length by omega)]
  exact List.getElem_mem _
theorem min_ite (i j : Int) : (if j < i then j else i) = min i j := by
  by_cases h : j < i
  · rw [if_pos h]; omega
  · rw [if_neg h]; omega
theorem max_ite (i j : Int) : (if j > i then j else i) = max i j := by
  by_cases h : j > i
  · rw [if_pos h]; omega
  · rw [if_neg h]; omega
theorem filter_tt {α : Type} (xs : List α) : xs.filter (fun _ => true) = xs := by
  induction xs with
  | nil => rfl
  | cons a xs ih => simp
def tle (a b : Tie) : Bool := decide (a.1 < b.1 ∨ (a.1 = b.1 ∧ (a.2.1 < b.2.1 ∨ (a.2.1 = b.2.1 ∧ a.2.2 ≤ b.2.2))))
def srtT (ts : List Tie) : List Tie := ts.mergeSort tle
theorem tle_trans (a b c : Tie) (h1 : tle a b = true) (h2 : tle b c = true) : tle a c = true := by
  unfold tle at *
  simp only [decide_eq_true_eq] at *
  omega
theorem tle_total (a b : Tie) : (tle a b || tle b a) = true := by
  unfold tle
  simp only [Bool.or_eq_true, decide_eq_true_eq]
  omega
theorem tle_anti {a b : Tie} (h1 : tle a b = true) (h2 : tle b a = true) : a = b := by
  unfold tle at *
  simp only [decide_eq_true_eq] at *
  obtain ⟨a1, a2, a3⟩ := a
  obtain ⟨b1, b2, b3⟩ := b
  simp only at h1 h2
  have e1 : a1 = b1 := by omega
  have e2 : a2 = b2 := by omega
  have e3 : a3 = b3 := by omega
  rw [e1, e2, e3]
theorem srtT_perm (ts : List Tie) : (srtT ts).Perm ts := List.mergeSort_perm _ _
theorem srtT_le (ts : List Tie) : (srtT ts).Pairwise (fun a b => tle a b = true) := List.pairwise_mergeSort tle_trans tle_total ts
theorem srtT_of {ts us : List Tie} (hp : us.Perm ts) (hs : us.Pairwise (fun a b => tle a b = true)) : us = srtT ts :=
  (hp.trans (srtT_perm ts).symm).eq_of_pairwise (fun _ _ _ _ h1 h2 => tle_anti h1 h2) hs (srtT_le ts)
theorem srtT_length (ts : List Tie) : (srtT ts).length = ts.length := (srtT_perm ts).length_eq
theorem srtT_mem {ts : List Tie} {t : Tie} : t ∈ srtT ts ↔ t ∈ ts := (srtT_perm ts).mem_iff
theorem code_tle {B : Int} {a b : Tie} (h1 : TS.Bd B [a.1, a.2.1, a.2.2]) (h2 : TS.Bd B [b.1, b.2.1, b.2.2]) (h : TS.code B [a.1, a.2.1, a.2.2] ≤ TS.code B [b.1, b.2.1, b.2.2]) : tle a b = true := by
  unfold tle
  rw [decide_eq_true_eq]
  rcases Int.lt_trichotomy a.1 b.1 with z | z | z
  · exact .inl z
  · refine .inr ⟨z, ?_⟩
    rw [z] at h
    have h' : TS.code B [a.2.1, a.2.2] ≤ TS.code B [b.2.1, b.2.2] := by
      refine Int.not_lt.mp fun y => ?_
      have := (TS.code_same (B := B) (d := b.1) (r := [b.2.1, b.2.2]) (q := [a.2.1, a.2.2]) rfl).mpr y
      omega
    have g1 : TS.Bd B [a.2.1, a.2.2] := fun m hm => h1 m (List.mem_cons_of_mem _ hm)
    have g2 : TS.Bd B [b.2.1, b.2.2] := fun m hm => h2 m (List.mem_cons_of_mem _ hm)
    rcases Int.lt_trichotomy a.2.1 b.2.1 with y | y | y
    · exact .inl y
    · refine .inr ⟨y, ?_⟩
      rw [y] at h'
      refine Int.not_lt.mp fun u => ?_
      have q : TS.code B [b.2.2] < TS.code B [a.2.2] := TS.code_lt rfl (fun m hm => by simp at hm) (fun m hm => by simp at hm) u
      have := (TS.code_same (B := B) (d := b.2.1) (r := [b.2.2]) (q := [a.2.2]) rfl).mpr q
      omega
    · have q : TS.code B [b.2.1, b.2.2] < TS.code B [a.2.1, a.2.2] := TS.code_lt rfl (fun m hm => g2 m (List.mem_cons_of_mem _ hm)) (fun m hm => g1 m (List.mem_cons_of_mem _ hm)) y
      omega
  · have q : TS.code B [b.1, b.2.1, b.2.2] < TS.code B [a.1, a.2.1, a.2.2] := TS.code_lt rfl (fun m hm => h2 m (List.mem_cons_of_mem _ hm)) (fun m hm => h1 m (List.mem_cons_of_mem _ hm)) z
    omega
theorem RepL.permS {K : PySem.W.Frag} {G : Hp} {α : Type} {en : α → D} {xs ys : List V} (h : xs.Perm ys) : ∀ {ts : List α}, RepL K G xs (ts.map en) → ∃ us : List α, us.Perm ts ∧ RepL K G ys (us.map en) := by
  induction h with
  | nil => intro ts r; cases ts with
    | nil => exact ⟨[], .refl _, r⟩
    | cons t ts => cases r
  | cons x p ih => intro ts r; cases ts with
    | nil => cases r
    | cons t ts =>
      cases r with
      | cons r1 r2 =>
        obtain ⟨us, q, z⟩ := ih r2
        exact ⟨t :: us, q.cons t, .cons r1 z⟩
  | swap x y l => intro ts r; cases ts with
    | nil => cases r
    | cons t ts =>
      cases ts with
      | nil => cases r with | cons r1 r2 => cases r2
      | cons u ts =>
        cases r with
        | cons r1 r2 =>
          cases r2 with
          | cons r2 r3 => exact ⟨u :: t :: ts, .swap t u ts, .cons r2 (.cons r1 r3)⟩
  | trans p q ih1 ih2 =>
    intro ts r
    obtain ⟨us, q1, z1⟩ := ih1 r
    obtain ⟨ws, q2, z2⟩ := ih2 z1
    exact ⟨ws, q2.trans q1, z2⟩
theorem RepL.perm {K : PySem.W.Frag} {G : Hp} {α : Type} {en : α → D} {xs ys : List V} {ts : List α} (r : RepL K G xs (ts.map en)) (h : ys.Perm xs) : ∃ us : List α, us.Perm ts ∧ RepL K G ys (us.map en) := RepL.permS h.symm r
theorem RepL.mem_map {K : PySem.W.Frag} {G : Hp} {α : Type} {en : α → D} {xs : List V} {ts : List α} (r : RepL K G xs (ts.map en)) {x : V} (h : x ∈ xs) : ∃ t ∈ ts, Rep K G x (en t) := by
  induction ts generalizing xs with
  | nil => cases r; cases h
  | cons t ts ih =>
    cases r with
    | cons r1 r2 =>
      rcases List.mem_cons.mp h with e | e
      · subst e; exact ⟨t, by simp, r1⟩
      · obtain ⟨u, h1, h2⟩ := ih r2 e
        exact ⟨u, by simp [h1], h2⟩
theorem rep_tupI {K : PySem.W.Frag} {G H : Hp} {x : V} {t : Tie} (e : Ex G H) (r : Rep K G x (eTie t)) : TupI K H x [t.1, t.2.1, t.2.2] := by
  cases r with
  | tup h1 h2 =>
    have := h2.ints (ns := [t.1, t.2.1, t.2.2])
    rw [this] at h1
    exact ⟨_, rfl, e.t h1⟩
def bnd (ts : List Tie) : Int := ts.foldr (fun t z => max z (max (max t.1 t.2.1) t.2.2 + 1)) 1
theorem bnd_ok {ts : List Tie} : ∀ t ∈ ts, t.1 < bnd ts ∧ t.2.1 < bnd ts ∧ t.2.2 < bnd ts := by
  induction ts with
  | nil => intro t h; cases h
  | cons u ts ih =>
    intro t h
    have hb : bnd (u :: ts) = max (bnd ts) (max (max u.1 u.2.1) u.2.2 + 1) := rfl
    rcases List.mem_cons.mp h with e | e
    · subst e; omega
    · have := ih t e; omega
def Pos3 (ts : List Tie) : Prop := ∀ t ∈ ts, 0 ≤ t.1 ∧ 0 ≤ t.2.1 ∧ 0 ≤ t.2.2
section
variable {X : Cx} {k : Nat} {ss : List Sl} {a b e : Expr} {pos p : Pos} {i j : Int}
theorem ee_sortedT {ts : List Tie} (g : Bi X "sorted") (h : EL X ss a (ts.map eTie)) (h64 : ts.length < 64 ∧ Pos3 ts) (A : A1 X a pos := by exact ⟨rfl, rfl⟩) : EE X ss (.Call (.Name "sorted" p) [a] [] pos) (.own (.lst ((srtT ts).map eTie))) := fun B G σ H S Q q =>
  e_of (pe_callB (cr_sortT (d := 3) (B := bnd ts) (by decide)) g.g g.m PyProof.Rows.boot_sorted (pa_cons pe_m pa_nil A.he) (he := A.he) (hpl := A.hpl)) (h B G σ H S _ fun G1 H1 a xs t1 h1 r1 => by
    have hlen : xs.length = ts.length := by rw [r1.length, List.length_map]
    have bd : ∀ t ∈ ts, TS.Bd (bnd ts) [t.1, t.2.1, t.2.2] := fun t ht m hm => by
      have h2 := bnd_ok t ht
      have h3 := h64.2 t ht
      simp only [List.mem_cons, List.not_mem_nil, or_false] at hm
      omega
    refine ⟨a, xs, rfl, h1, by omega, fun x hx => ?_, fun ys y hp hs hy => ?_⟩
    · obtain ⟨t, ht, r⟩ := r1.mem_map hx
      exact ⟨_, rep_tupI t1.gh r, rfl, bd t ht⟩
    · obtain ⟨us, hu, r2⟩ := r1.perm hp
      have e : us = srtT ts := srtT_of hu (by
        have key : ∀ (us : List Tie) (ys : List V), (∀ t ∈ us, t ∈ ts) → RepL X.K G1 ys (us.map eTie) → ys.Pairwise (fun x y => ∀ n m, TupI X.K H1 x n → TupI X.K H1 y m → TS.code (bnd ts) n ≤ TS.code (bnd ts) m) → us.Pairwise (fun a b => tle a b = true) := by
          intro us
          induction us with
          | nil => intro _ _ _ _; exact .nil
          | cons u us ih =>
            intro ys hm r hp
            cases r with
            | @cons v vs _ _ r3 r4 =>
              cases hp with
              | cons h5 h6 =>
                refine .cons (fun b hb => ?_) (ih vs (fun t ht => hm t (by simp [ht])) r4 h6)
                obtain ⟨n, hn⟩ := List.mem_iff_getElem?.mp hb
                obtain ⟨v', hv, rv⟩ := r4.get (i := n) (d := eTie b) (by rw [List.getElem?_map, hn]; rfl)
                exact code_tle (bd u (hm u (by simp))) (bd b (hm b (by simp [hb]))) (h5 v' (List.mem_of_getElem? hv) _ _ (rep_tupI t1.gh r3) (rep_tupI t1.gh rv))
        exact key us ys (fun t ht => hu.mem_iff.mp ht) r2 hs)
      subst e
      exact q G1 _ _ (t1.trans (.new t1.gh hy)) (.lst (t1.h.back hy) (t1.gh.back hy) upd_same r2))
end
end Lk
namespace Lk
open PySem L2
inductive Stp1 where
  | ix (i : Nat)
  | fl (f : Str)
def Own.getc : Own → List Stp1 → Option Own
  | o, [] => some o
  | .tupO ps, .ix i :: π => match ps[i]? with
    | some (.own o) => o.getc π
    | _ => none
  | .lstO ps, .ix i :: π => match ps[i]? with
    | some (.own o) => o.getc π
    | _ => none
  | .objO C fs, .fl f :: π => match fs.lookup f with
    | some (.own o) => o.getc π
    | _ => none
  | .objA _ C fs, .fl f :: π => match fs.lookup f with
    | some (.own o) => o.getc π
    | _ => none
  | _, _ => none
def Own.unpin : Own → Own
  | .pin _ o => o
  | o => o
def Own.get (o : Own) (π : List Stp1) : Option Own := o.unpin.getc π
def setF (f : Str) (p : Pt) : List (Str × Pt) → List (Str × Pt)
  | [] => []
  | (g, q) :: r => if f == g then (g, p) :: r else (g, q) :: setF f p r
def Own.updc : Own → List Stp1 → Own → Own
  | _, [], o' => o'
  | .tupO ps, .ix i :: π, o' => .tupO (match ps[i]? with
    | some (.own o) => ps.set i (.own (o.updc π o'))
    | _ => ps)
  | .lstO ps, .ix i :: π, o' => .lstO (match ps[i]? with
    | some (.own o) => ps.set i (.own (o.updc π o'))
    | _ => ps)
  | .objO C fs, .fl f :: π, o' => .objO C (match fs.lookup f with
    | some (.own o) => setF f (.own (o.updc π o')) fs
    | _ => fs)
  | .objA a C fs, .fl f :: π, o' => .objA a C (match fs.lookup f with
    | some (.own o) => setF f (.own (o.updc π o')) fs
    | _ => fs)
  | o, _, _ => o
def Own.upd : Own → List Stp1 → Own → Own
  | .pin a o, π, o' => .pin a (o.updc π o')
  | o, π, o' => o.updc π o'
/-- l is where the path leads from a -/
def Reach (H : Hp) : Addr → List Stp1 → Addr → Prop
  | a, [], l => l = a
  | a, .ix i :: π, l => ∃ b vs, (H a = some (.tup vs) ∨ H a = some (.lst vs)) ∧ vs[i]? = some (.ref b) ∧ Reach H b π l
  | a, .fl f :: π, l => ∃ b C dx fs, H a = some (.ins C dx fs) ∧ fs.lookup f = some (.ref b) ∧ Reach H b π l
section
variable {K : PySem.W.Frag} {G H : Hp}
theorem PtsL.length {vs : List V} {ps : List Pt} {fp : List Addr} (h : PtsL K G H vs ps fp) : vs.length = ps.length := by
  induction ps generalizing vs fp with
  | nil => cases h; rfl
  | cons p ps ih => cases h with | cons h1 h2 => simp [ih h2]
theorem PtsL.split {vs : List V} {ps : List Pt} {fp : List Addr} {i : Nat} {p : Pt} (h : PtsL K G H vs ps fp) (hi : ps[i]? = some p) : ∃ l f r v, fp = l ++ f ++ r ∧ vs[i]? = some v ∧ PtAt K G H v p f ∧
    ∀ G' H' p' f', Ex G G' → (∀ z ∈ l ++ r, H' z = H z) → PtAt K G' H' v p' f' → PtsL K G' H' vs (ps.set i p') (l ++ f' ++ r) := by
  induction ps generalizing vs fp i with
  | nil => simp at hi
  | cons q ps ih =>
    cases h with
    | @cons v vs _ _ f fp h1 h2 =>
      cases i with
      | zero =>
        simp at hi
        subst hi
        refine ⟨[], f, fp, v, by simp, by simp, h1, fun G' H' p' f' eg e w => ?_⟩
        simpa using PtsL.cons w (h2.frame eg fun z hz => e z (by simpa using hz))
      | succ i =>
        obtain ⟨l, g, r, w, e1, e2, e3, e4⟩ := ih h2 (by simpa using hi)
        refine ⟨f ++ l, g, r, w, by rw [e1]; simp, by simpa using e2, e3, fun G' H' p' f' eg e y => ?_⟩
        have q := PtsL.cons (h1.frame eg fun z hz => e z (by simp [hz])) (e4 G' H' p' f' eg (fun z hz => e z (by simp at hz ⊢; exact hz.elim (fun q => .inr (.inl q)) fun q => .inr (.inr q))) y)
        simpa using q
theorem PtsF.split {vs : List (Str × V)} {ps : List (Str × Pt)} {fp : List Addr} {g : Str} {p : Pt} (h : PtsF K G H vs ps fp) (hi : ps.lookup g = some p) : ∃ l f r v, fp = l ++ f ++ r ∧ vs.lookup g = some v ∧ PtAt K G H v p f ∧
    ∀ G' H' p' f', Ex G G' → (∀ z ∈ l ++ r, H' z = H z) → PtAt K G' H' v p' f' → PtsF K G' H' vs (setF g p' ps) (l ++ f' ++ r) := by
  induction ps generalizing vs fp with
  | nil => cases hi
  | cons q ps ih =>
    cases h with
    | @cons k v vs q ps f fp h1 h2 =>
      rw [List.lookup_cons] at hi ⊢
      cases hk : g == k with
      | true =>
        rw [hk] at hi
        cases hi
        refine ⟨[], f, fp, v, by simp, by simp, h1, fun G' H' p' f' eg e w => ?_⟩
        unfold setF
        rw [hk]
        simpa using PtsF.cons w (h2.frame eg fun z hz => e z (by simpa using hz))
      | false =>
        rw [hk] at hi
        obtain ⟨l, g', r, w, e1, e2, e3, e4⟩ := ih h2 hi
        refine ⟨f ++ l, g', r, w, by rw [e1]; simp, by simpa using e2, e3, fun G' H' p' f' eg e y => ?_⟩
        have q := PtsF.cons (k := k) (h1.frame eg fun z hz => e z (by simp [hz])) (e4 G' H' p' f' eg (fun z hz => e z (by simp at hz ⊢; exact hz.elim (fun q => .inr (.inl q)) fun q => .inr (.inr q))) y)
        unfold setF
        rw [hk]
        simpa using q
theorem RepL.set {vs : List V} {ds : List D} (h : RepL K G vs ds) (m : Nat) {v : V} {d : D} (r : Rep K G v d) : RepL K G (vs.set m v) (ds.set m d) := by
  induction ds generalizing vs m with
  | nil => cases h; exact .nil
  | cons d0 ds ih =>
    cases h with
    | cons q1 q2 =>
      cases m with
      | zero => exact .cons r q2
      | succ m => exact .cons q1 (ih q2 m)
theorem nodup_mid {α : Type} {l f r : List α} (h : (l ++ f ++ r).Nodup) : f.Nodup ∧ ∀ z ∈ l ++ r, z ∉ f := by
  rw [List.nodup_append] at h
  have h1 := h.1
  rw [List.nodup_append] at h1
  refine ⟨h1.2.1, fun z hz hf => ?_⟩
  rcases List.mem_append.mp hz with y | y
  · exact h1.2.2 z y z hf rfl
  · exact h.2.2 z (by simp [hf]) z y rfl
/-- the part at the end of a path, over a run of the addresses -/
theorem OwnAt.subc {π : List Stp1} : ∀ {a : Addr} {o o1 : Own} {fp : List Addr}, OwnAt K G H a o fp → o.getc π = some o1 → ∃ l g u w, fp = u ++ g ++ w ∧ OwnAt K G H l o1 g ∧ Reach H a π l ∧
    ∀ G' H' o2 g', Ex G G' → (∀ z ∈ u ++ w, H' z = H z) → OwnAt K G' H' l o2 g' → OwnAt K G' H' a (o.updc π o2) (u ++ g' ++ w) := by
  induction π with
  | nil =>
    intro a o o1 fp h hg
    have hg : o = o1 := by cases o <;> (simp only [Own.getc, Option.some.injEq] at hg; exact hg)
    subst hg
    refine ⟨a, fp, [], [], by simp, h, rfl, fun G' H' o2 g' _ _ w => ?_⟩
    have : o.updc [] o2 = o2 := by cases o <;> rfl
    rw [this]
    simpa using w
  | cons s π ih =>
    intro a o o1 fp h hg
    cases o with
    | lst ds => simp [Own.getc] at hg
    | dic ds => simp [Own.getc] at hg
    | dicO ps => simp [Own.getc] at hg
    | pin a0 o => simp [Own.getc] at hg
    | raw r => simp [Own.getc] at hg
    | tupO ps =>
      cases s with
      | fl f => simp [Own.getc] at hg
      | ix i =>
        cases h with
        | @tupO _ vs _ fp h1 h2 =>
          unfold Own.getc at hg
          cases hp : ps[i]? with
          | none => rw [hp] at hg; cases hg
          | some p =>
            rw [hp] at hg
            cases p with
            | dat d => cases hg
            | own o' =>
              obtain ⟨l, f, r, v, e1, e2, e3, e4⟩ := h2.split hp
              subst e1
              cases e3 with
              | @own b _ _ w =>
                obtain ⟨m, g, u', w', e5, w1, w2, w5⟩ := ih w hg
                subst e5
                refine ⟨m, g, a :: (l ++ u'), w' ++ r, by simp, w1, ⟨b, vs, .inl h1, e2, w2⟩, fun G' H' o2 g' eg es wo => ?_⟩
                have sa : H' a = H a := es a (by simp)
                have q := OwnAt.tupO (sa.trans h1) (e4 G' H' _ (u' ++ g' ++ w') eg (fun z hz => es z (by simp at hz ⊢; exact .inr (hz.elim .inl fun q => .inr (.inr (.inr q))))) (.own (w5 G' H' o2 g' eg (fun z hz => es z (by simp at hz ⊢; exact .inr (hz.elim (fun q => .inr (.inl q)) fun q => .inr (.inr (.inl q))))) wo)))
                unfold Own.updc
                rw [hp]
                simpa using q
    | lstO ps =>
      cases s with
      | fl f => simp [Own.getc] at hg
      | ix i =>
        cases h with
        | @lstO _ vs _ fp h1 h2 =>
          unfold Own.getc at hg
          cases hp : ps[i]? with
          | none => rw [hp] at hg; cases hg
          | some p =>
            rw [hp] at hg
            cases p with
            | dat d => cases hg
            | own o' =>
              obtain ⟨l, f, r, v, e1, e2, e3, e4⟩ := h2.split hp
              subst e1
              cases e3 with
              | @own b _ _ w =>
                obtain ⟨m, g, u', w', e5, w1, w2, w5⟩ := ih w hg
                subst e5
                refine ⟨m, g, a :: (l ++ u'), w' ++ r, by simp, w1, ⟨b, vs, .inr h1, e2, w2⟩, fun G' H' o2 g' eg es wo => ?_⟩
                have sa : H' a = H a := es a (by simp)
                have q := OwnAt.lstO (sa.trans h1) (e4 G' H' _ (u' ++ g' ++ w') eg (fun z hz => es z (by simp at hz ⊢; exact .inr (hz.elim .inl fun q => .inr (.inr (.inr q))))) (.own (w5 G' H' o2 g' eg (fun z hz => es z (by simp at hz ⊢; exact .inr (hz.elim (fun q => .inr (.inl q)) fun q => .inr (.inr (.inl q))))) wo)))
                unfold Own.updc
                rw [hp]
                simpa using q
    | objO C fs =>
      cases s with
      | ix i => simp [Own.getc] at hg
      | fl g0 =>
        cases h with
        | @objO _ _ dx vs _ fp h1 h2 =>
          unfold Own.getc at hg
          cases hp : fs.lookup g0 with
          | none => rw [hp] at hg; cases hg
          | some p =>
            rw [hp] at hg
            cases p with
            | dat d => cases hg
            | own o' =>
              obtain ⟨l, f, r, v, e1, e2, e3, e4⟩ := h2.split hp
              subst e1
              cases e3 with
              | @own b _ _ w =>
                obtain ⟨m, g, u', w', e5, w1, w2, w5⟩ := ih w hg
                subst e5
                refine ⟨m, g, a :: (l ++ u'), w' ++ r, by simp, w1, ⟨b, C, dx, vs, h1, e2, w2⟩, fun G' H' o2 g' eg es wo => ?_⟩
                have sa : H' a = H a := es a (by simp)
                have q := OwnAt.objO (sa.trans h1) (e4 G' H' _ (u' ++ g' ++ w') eg (fun z hz => es z (by simp at hz ⊢; exact .inr (hz.elim .inl fun q => .inr (.inr (.inr q))))) (.own (w5 G' H' o2 g' eg (fun z hz => es z (by simp at hz ⊢; exact .inr (hz.elim (fun q => .inr (.inl q)) fun q => .inr (.inr (.inl q))))) wo)))
                unfold Own.updc
                rw [hp]
                simpa using q
    | objA a0 C fs =>
      cases s with
      | ix i => simp [Own.getc] at hg
      | fl g0 =>
        cases h with
        | @objA _ _ dx vs _ fp h1 h2 =>
          unfold Own.getc at hg
          cases hp : fs.lookup g0 with
          | none => rw [hp] at hg; cases hg
          | some p =>
            rw [hp] at hg
            cases p with
            | dat d => cases hg
            | own o' =>
              obtain ⟨l, f, r, v, e1, e2, e3, e4⟩ := h2.split hp
              subst e1
              cases e3 with
              | @own b _ _ w =>
                obtain ⟨m, g, u', w', e5, w1, w2, w5⟩ := ih w hg
                subst e5
                refine ⟨m, g, a :: (l ++ u'), w' ++ r, by simp, w1, ⟨b, C, dx, vs, h1, e2, w2⟩, fun G' H' o2 g' eg es wo => ?_⟩
                have sa : H' a = H a := es a (by simp)
                have q := OwnAt.objA (sa.trans h1) (e4 G' H' _ (u' ++ g' ++ w') eg (fun z hz => es z (by simp at hz ⊢; exact .inr (hz.elim .inl fun q => .inr (.inr (.inr q))))) (.own (w5 G' H' o2 g' eg (fun z hz => es z (by simp at hz ⊢; exact .inr (hz.elim (fun q => .inr (.inl q)) fun q => .inr (.inr (.inl q))))) wo)))
                unfold Own.updc
                rw [hp]
                simpa using q
theorem OwnAt.unpin {a : Addr} {o : Own} {fp : List Addr} (h : OwnAt K G H a o fp) : OwnAt K G H a o.unpin fp := by
  cases o with
  | pin a0 o => cases h with | pin h => exact h
  | _ => exact h
theorem OwnAt.subG {π : List Stp1} {a : Addr} {o o1 : Own} {fp : List Addr} (h : OwnAt K G H a o fp) (hg : o.get π = some o1) : ∃ l g u w, fp = u ++ g ++ w ∧ OwnAt K G H l o1 g ∧ Reach H a π l ∧
    ∀ G' H' o2 g', Ex G G' → (∀ z ∈ u ++ w, H' z = H z) → OwnAt K G' H' l o2 g' → OwnAt K G' H' a (o.upd π o2) (u ++ g' ++ w) := by
  cases o with
  | pin a0 o =>
    cases h with
    | pin h =>
      obtain ⟨l, g, u, w, e, w1, w2, w3⟩ := h.subc (π := π) (o1 := o1) hg
      exact ⟨l, g, u, w, e, w1, w2, fun G' H' o2 g' x y z => .pin (w3 G' H' o2 g' x y z)⟩
  | _ => exact h.subc hg
/-- the part at the end of a path -/
theorem OwnAt.sub {π : List Stp1} {a : Addr} {o o1 : Own} {fp : List Addr} (h : OwnAt K G H a o fp) (hg : o.get π = some o1) (nd : fp.Nodup) : ∃ l g, OwnAt K G H l o1 g ∧ Reach H a π l ∧ (∀ z ∈ g, z ∈ fp) ∧ g.Nodup ∧
    ∀ G' H' o2, Ex G G' → (∀ z ∈ fp, z ∉ g → H' z = H z) → OwnAt K G' H' l o2 g → OwnAt K G' H' a (o.upd π o2) fp := by
  obtain ⟨l, g, u, w, e, w1, w2, w3⟩ := h.subG hg
  subst e
  obtain ⟨ng, ap⟩ := nodup_mid nd
  exact ⟨l, g, w1, w2, fun z hz => by simp [hz], ng, fun G' H' o2 x y z => w3 G' H' o2 g x (fun q hq => y q (by rcases List.mem_append.mp hq with q | q <;> simp [q]) (ap q hq)) z⟩
theorem Reach.fun {π : List Stp1} : ∀ {a l m : Addr}, Reach H a π l → Reach H a π m → l = m := by
  induction π with
  | nil => intro a l m h1 h2; exact h1.trans h2.symm
  | cons s π ih =>
    intro a l m h1 h2
    cases s with
    | ix i =>
      obtain ⟨b, vs, e1, e2, e3⟩ := h1
      obtain ⟨c, ws, g1, g2, g3⟩ := h2
      have : vs = ws := by rcases e1 with e1 | e1 <;> rcases g1 with g1 | g1 <;> (rw [e1] at g1; cases g1; try rfl)
      subst this
      rw [e2] at g2
      cases g2
      exact ih e3 g3
    | fl f =>
      obtain ⟨b, C, dx, fs, e1, e2, e3⟩ := h1
      obtain ⟨c, C', dx', fs', g1, g2, g3⟩ := h2
      rw [e1] at g1
      cases g1
      rw [e2] at g2
      cases g2
      exact ih e3 g3
theorem Reach.snoc {π : List Stp1} {s : Stp1} : ∀ {a b l : Addr}, Reach H a π b → Reach H b [s] l → Reach H a (π ++ [s]) l := by
  induction π with
  | nil => intro a b l h1 h2; cases h1; exact h2
  | cons t π ih =>
    intro a b l h1 h2
    cases t with
    | ix i => obtain ⟨c, vs, e1, e2, e3⟩ := h1; exact ⟨c, vs, e1, e2, ih e3 h2⟩
    | fl f => obtain ⟨c, C, dx, fs, e1, e2, e3⟩ := h1; exact ⟨c, C, dx, fs, e1, e2, ih e3 h2⟩
theorem Reach.mono {H' : Hp} (e : Ex H H') {π : List Stp1} : ∀ {a l : Addr}, Reach H a π l → Reach H' a π l := by
  induction π with
  | nil => intro a l h; exact h
  | cons t π ih =>
    intro a l h
    cases t with
    | ix i => obtain ⟨c, vs, e1, e2, e3⟩ := h; exact ⟨c, vs, e1.imp (e _ _) (e _ _), e2, ih e3⟩
    | fl f => obtain ⟨c, C, dx, fs, e1, e2, e3⟩ := h; exact ⟨c, C, dx, fs, e _ _ e1, e2, ih e3⟩
end
/-- e is something that lies as o tells, whosever it is -/
def EV (X : Cx) (ss : List Sl) (e : Expr) (o : Own) : Prop := ∀ (B : Bs) (G : Hp) (σ : St) (H : Hp), Sat X.K B G ss σ H → ∀ Q : VK, (∀ G' H' a, Stp G H G' H' → Vw X.K G' H' a o → Q (.ref a) H') → mE X e σ H Q
/-- e is the part of slot n at the end of π -/
def EW (X : Cx) (ss : List Sl) (e : Expr) (n : Nat) (π : List Stp1) : Prop := ∀ (B : Bs) (G : Hp) (σ : St) (H : Hp), Sat X.K B G ss σ H → ∀ Q : VK, (∀ a l, σ[n]? = some (some (.ref a)) → Reach H a π l → Q (.ref l) H) → mE X e σ H Q
/-- parts: data, or new things -/
def EPs (X : Cx) (ss : List Sl) (es : List Expr) (ps : List Pt) : Prop := ∀ (B : Bs) (G : Hp) (σ : St) (H : Hp), Sat X.K B G ss σ H → ∀ Q : List V → Hp → Prop,
  (∀ G' H' vs fp, Stp G H G' H' → PtsL X.K G' H' vs ps fp → fp.Nodup → (∀ f ∈ fp, H f = none ∧ G' f = none) → Q vs H') → mA X es σ H Q
section
variable {X : Cx} {k : Nat} {ss ss' : List Sl} {a b e c : Expr} {es : List Expr} {sts : List Stmt} {pos pos' p apos cpos : Pos} {i j : Int} {d : D} {P : Post} {x : Str} {n m : Nat} {o o1 o2 : Own} {ps : List Pt} {ds : List D} {π : List Stp1} {q : Pt}
theorem Vw.unpin {K : PySem.W.Frag} {G H : Hp} {a : Addr} {o : Own} (h : Vw K G H a o) : Vw K G H a o.unpin := by
  cases h with
  | own w => exact .own w.unpin
  | dat r =>
    refine .dat ?_
    cases o <;> exact r
theorem ev_own (v : VarOk X n x) (h : ss[n]? = some (.own o)) : EV X ss (.Name x pos) o := fun B G σ H S Q c => by
  obtain ⟨a, f, e1, w, _⟩ := S.own h
  exact e_of (pe_var v.n v.v v.d1 v.d2) ⟨_, e1, c G H a (.refl S.gh) (.own w)⟩
theorem EV.unpin (h : EV X ss e o) : EV X ss e o.unpin := fun B G σ H S Q c => h B G σ H S Q fun G1 H1 a t w => c G1 H1 a t w.unpin
theorem ev_vw (v : VarOk X n x) (h : ss[n]? = some (.vw o)) : EV X ss (.Name x pos) o := fun B G σ H S Q c => by
  obtain ⟨a, e1, _, w⟩ := S.vw h
  exact e_of (pe_var v.n v.v v.d1 v.d2) ⟨_, e1, c G H a (.refl S.gh) w⟩
/-- data that lies at an address may be lent -/
theorem ev_dat (h : EE X ss e (.dat o.dat)) (hr : ∀ {K : PySem.W.Frag} {G : Hp} {v : V}, Rep K G v o.dat → ∃ a, v = .ref a) : EV X ss e o := fun B G σ H S Q c => h B G σ H S _ fun G1 H1 v t1 r1 => by
  obtain ⟨a, rfl⟩ := hr (show Rep X.K G1 v o.dat from r1)
  exact c G1 H1 a t1 (.dat r1)
theorem ev_new (h : EE X ss e (.own o)) : EV X ss e o := fun B G σ H S Q c => h B G σ H S _ fun G1 H1 v t1 r1 => by
  obtain ⟨a, fp, rfl, w, _⟩ := r1
  exact c G1 H1 a t1 (.own w)
theorem datL_get {ps : List Pt} {m : Nat} {q : Pt} (h : ps[m]? = some q) : (datL ps)[m]? = some q.toD := by
  induction ps generalizing m with
  | nil => simp at h
  | cons p ps ih =>
    cases m with
    | zero => simp at h; subst h; rfl
    | succ m => exact ih (by simpa using h)
theorem datL_len (ps : List Pt) : (datL ps).length = ps.length := by
  induction ps with
  | nil => rfl
  | cons p ps ih => simp [datL, ih]
/-- the parts of a tuple, seen -/
theorem Vw.tup {K : PySem.W.Frag} {G H : Hp} {a : Addr} (w : Vw K G H a (.tupO ps)) (e : Ex G H) : ∃ vs, SqT K H a vs ∧ vs.length = ps.length ∧ (∀ (m : Nat) (d : D), ps[m]? = some (.dat d) → ∃ v, vs[m]? = some v ∧ Rep K G v d) ∧
    ∀ (m : Nat) (o : Own), ps[m]? = some (.own o) → (∀ {K : PySem.W.Frag} {G : Hp} {v : V}, Rep K G v o.dat → ∃ a, v = .ref a) → ∃ b, vs[m]? = some (.ref b) ∧ Vw K G H b o := by
  cases w with
  | own w =>
    cases w with
    | @tupO _ vs _ fp h1 h2 =>
      refine ⟨vs, .of h1, h2.length, fun m d hm => ?_, fun m o hm _ => ?_⟩
      · obtain ⟨_, _, _, v, _, e2, e3, _⟩ := h2.split hm
        cases e3 with | dat r => exact ⟨v, e2, r⟩
      · obtain ⟨_, _, _, v, _, e2, e3, _⟩ := h2.split hm
        cases e3 with | own w => exact ⟨_, e2, .own w⟩
  | dat r =>
    cases (show Rep K G (.ref a) (.tup (datL ps)) from r) with
    | @tup _ vs _ h1 h2 =>
      refine ⟨vs, e.t h1, by rw [h2.length, datL_len], fun m d hm => ?_, fun m o hm ho => ?_⟩
      · exact h2.get (datL_get hm)
      · obtain ⟨v, e2, r2⟩ := h2.get (datL_get hm)
        obtain ⟨b, rfl⟩ := ho (show Rep K G v o.dat from r2)
        exact ⟨b, e2, .dat r2⟩
theorem lies_ref {K : PySem.W.Frag} {G : Hp} {v : V} : ∀ {o : Own}, Rep K G v o.dat → ∃ a, v = .ref a
  | .lst ds, r => by cases (show Rep K G v (.lst ds) from r); exact ⟨_, rfl⟩
  | .dic ds, r => by cases (show Rep K G v (.dic ds) from r); exact ⟨_, rfl⟩
  | .tupO ps, r => by cases (show Rep K G v (.tup _) from r); exact ⟨_, rfl⟩
  | .lstO ps, r => by cases (show Rep K G v (.lst _) from r); exact ⟨_, rfl⟩
  | .dicO ps, r => by cases (show Rep K G v (.dic _) from r); exact ⟨_, rfl⟩
  | .objO C ps, r => by cases (show Rep K G v (.obj C _) from r); exact ⟨_, rfl⟩
  | .objA _ C ps, r => by cases (show Rep K G v (.obj C _) from r); exact ⟨_, rfl⟩
  | .pin _ o, r => lies_ref (o := o) r
  | .raw _, r => by cases (show Rep K G v .raw from r); exact ⟨_, rfl⟩
theorem ee_child (h : EV X ss a (.tupO ps)) (hi : EE X ss b (.dat (.int i))) (hs : PlainIx b) (e : atI ps i = some (.dat d)) : EE X ss (.Subscript a b pos) (.dat d) := fun B G σ H S Q c =>
  e_of (pe_ix ix_tup pe_m pe_m hs) (h B G σ H S _ fun G1 H1 l t1 w => hi B G1 σ H1 (S.step t1) _ fun G2 H2 v t2 r2 => by
    obtain ⟨vs, h1, h2, h3, _⟩ := (w.step t2.g t2.h).tup t2.gh
    unfold atI at e
    cases e1 : ixN ps.length i with
    | none => rw [e1] at e; cases e
    | some m =>
      rw [e1] at e
      obtain ⟨v', e2, w3⟩ := h3 m d e
      exact ⟨l, vs, i, _, rfl, Rep.int_inv r2, h1, by unfold atI; rw [h2, e1]; exact e2, c G2 H2 _ (t1.trans t2) w3⟩)
theorem el_ev (h : EV X ss e (.lst ds)) : EL X ss e ds := fun B G σ H S Q c => h B G σ H S _ fun G1 H1 a t1 w => by
  cases w with
  | own w => cases w with | lst h1 h2 => exact c G1 H1 a _ t1 (.of h1) h2
  | dat r => cases (show Rep X.K G1 (.ref a) (.lst ds) from r) with | lst h1 h2 => exact c G1 H1 a _ t1 (.of (t1.gh _ _ h1)) h2
theorem ep_nil' : EPs X ss [] [] := fun B G σ H S Q q => a_of pa_nil (q G H [] [] (.refl S.gh) .nil .nil fun f hf => by cases hf)
theorem ep_dat (h : EE X ss e (.dat d)) (hr : EPs X ss es ps) (hs : starEach (e :: es) X.env = (false, eval e X.env) :: starEach es X.env := by rfl) : EPs X ss (e :: es) (.dat d :: ps) := fun B G σ H S Q q =>
  a_of (pa_cons pe_m pa_m hs) (h B G σ H S _ fun G1 H1 v t1 r1 => hr B G1 σ H1 (S.step t1) _ fun G2 H2 vs fp t2 r2 nd out =>
    q G2 H2 _ ([] ++ fp) (t1.trans t2) (.cons (.dat (Rep.mono t2.g r1)) r2) (by simpa using nd) fun f hf => by
      have hf : f ∈ fp := by simpa using hf
      exact ⟨t1.h.back (out f hf).1, (out f hf).2⟩)
theorem ep_own (h : EE X ss e (.own o)) (hr : EPs X ss es ps) (hs : starEach (e :: es) X.env = (false, eval e X.env) :: starEach es X.env := by rfl) : EPs X ss (e :: es) (.own o :: ps) := fun B G σ H S Q q =>
  a_of (pa_cons pe_m pa_m hs) (h B G σ H S _ fun G1 H1 v t1 r1 => hr B G1 σ H1 (S.step t1) _ fun G2 H2 vs fp t2 r2 nd out => by
    obtain ⟨a, f, rfl, w, nf, of⟩ := r1
    refine q G2 H2 _ (f ++ fp) (t1.trans t2) (.cons (.own (w.frame t2.g fun z hz => t2.same (w.there z hz))) r2) ?_ fun z hz => ?_
    · rw [List.nodup_append]
      refine ⟨nf, nd, fun x hx y hy e => ?_⟩
      subst e
      obtain ⟨u, hu⟩ := w.there x hx
      rw [(out x hy).1] at hu
      cases hu
    · rcases List.mem_append.mp hz with y | y
      · obtain ⟨u, hu⟩ := w.there z y
        exact ⟨(of z y).1, t2.out hu (of z y).2⟩
      · exact ⟨t1.h.back (out z y).1, (out z y).2⟩)
theorem ee_tupO {x1} (h : EPs X ss es ps) (hl : ps.length ≤ 1000) : EE X ss (.Tuple es x1 pos) (.own (.tupO ps)) := fun B G σ H S Q q =>
  e_of (pe_tup pa_m) (h B G σ H S _ fun G1 H1 vs fp t1 r1 nd out => ⟨by rw [r1.length]; exact Nat.le_of_lt (small1000 hl), fun y hy => by
    have hyn : y ∉ fp := fun hz => by
      obtain ⟨u, hu⟩ := r1.there y hz
      rw [hy] at hu
      cases hu
    refine q G1 _ _ (t1.trans (.new t1.gh hy)) ⟨y, y :: fp, rfl, .tupO upd_same (r1.frame (.refl _) fun f hf => upd_ne (fun e => hyn (e ▸ hf))), List.nodup_cons.mpr ⟨hyn, nd⟩, fun f hf => ?_⟩
    rcases List.mem_cons.mp hf with e | e
    · subst e; exact ⟨t1.h.back hy, t1.gh.back hy⟩
    · exact out f e⟩)
theorem ew_name (v : VarOk X n x) (h : ss[n]? = some (.own o)) : EW X ss (.Name x pos) n [] := fun B G σ H S Q c => by
  obtain ⟨a, f, e1, w, _⟩ := S.own h
  exact e_of (pe_var v.n v.v v.d1 v.d2) ⟨_, e1, c a a e1 rfl⟩
theorem ew_child {z} (h : EW X ss a n π) (hn : ss[n]? = some (.own o)) (hg : o.get π = some (.tupO ps)) (e : ps[m]? = some (.own o1)) : EW X ss (.Subscript a (.Constant (.int (m : Nat)) z p) pos) n (π ++ [.ix m]) := fun B G σ H S Q c =>
  e_of (pe_ix ix_tup pe_m pe_int fun _ _ => rfl) (h B G σ H S _ fun y l e1 rc => by
    obtain ⟨a', f, e1', w, nd, out⟩ := S.own hn
    rw [e1] at e1'
    cases e1'
    obtain ⟨l', g, w1, rc', _⟩ := w.sub hg nd
    cases rc.fun rc'
    cases w1 with
    | @tupO _ vs _ fp h1 h2 =>
      obtain ⟨_, _, _, v', _, e2, e3, _⟩ := h2.split e
      cases e3 with
      | @own b _ _ w3 => exact ⟨l, vs, (m : Int), _, rfl, rfl, .of h1, atI_nat e2, c y b e1 (rc.snoc ⟨b, vs, .inl h1, e2, rfl⟩)⟩)
/-- a change at the end of a path -/
theorem Sat.putAt {K : PySem.W.Frag} {B : Bs} {G G1 H1 H' : Hp} {σ : St} {H : Hp} {y l : Addr} (S : Sat K B G ss σ H) (t : Stp G H G1 H1) (hn : ss[n]? = some (.own o)) (hg : o.get π = some o1) (hy : σ[n]? = some (some (.ref y))) (rc : Reach H y π l)
    (hw : ∀ g, OwnAt K G H l o1 g → g.Nodup → (∀ z, z ∉ g → H' z = H1 z) ∧ (∀ z ∈ g, ∃ u, H' z = some u) ∧ OwnAt K G1 H' l o2 g) : Sat K B G1 (ss.set n (.own (o.upd π o2))) σ H' :=
  S.put t hn hy fun f w nd out => by
    obtain ⟨l', g, w1, rc', sub, ng, back⟩ := w.sub hg nd
    cases rc.fun rc'
    obtain ⟨k1, k2, k3⟩ := hw g w1 ng
    refine ⟨fun z hz => k1 z fun y => hz (sub z y), fun z hz => ?_, back G1 H' o2 t.g (fun z hz hng => (k1 z hng).trans (t.same (w.there z hz))) k3⟩
    by_cases q : z ∈ g
    · exact k2 z q
    · obtain ⟨u, hu⟩ := w.there z hz
      exact ⟨u, by rw [k1 z q]; exact t.h z u hu⟩
/-- e.append(v) -/
theorem ss_appW (hw : EW X ss a n π) (hn : ss[n]? = some (.own o)) (hg : o.get π = some (.lst ds)) (he : EE X ss e (.dat d)) (hl : ds.length ≤ 1000) (h : SS X sts (ss.set n (.own (o.upd π (.lst (ds ++ [d]))))) P)
    (hbase : attributeBase a "append" X.env (eval a X.env) = eval a X.env := by rfl)
    (hfew : ((backTo cpos (starEach [e] X.env)).all (fun x => !x.1) && (backToKw cpos (keywordEach [] X.env)).all (fun x => x.1.isSome)
      && decide (([e] : List Expr).length + ([] : List Keyword).length + (if ([] : List Keyword).isEmpty then 0 else 1) < 30)) = true := by rfl)
    (hline : (apos.endLine == cpos.line) = true := by rfl) (hs : starEach [e] X.env = (false, eval e X.env) :: starEach [] X.env := by rfl) (hplain : (backTo cpos (starEach [] X.env)).any (·.1) = false := by rfl) (hsw : swapsWith (.Call (.Attribute a "append" apos) [e] [] cpos) none pos.line X.env = pure false := by rfl) :
    SS X (.Expr (.Call (.Attribute a "append" apos) [e] [] cpos) pos :: sts) ss P := fun B G σ H D S C =>
  ss_of (pss_cons (ps_expr (pe_bm PySem.F.plainAttrs_list PySem.F.slot_list_append PySem.F.type_list_append mt_append pe_m (pa_cons pe_m pa_nil hs) hbase hfew hline hs hplain) hsw) pss_m) (hw B G σ H S _ fun y l e1 rc => by
    obtain ⟨a', f, e1', w, nd, out⟩ := S.own hn
    rw [e1] at e1'
    cases e1'
    obtain ⟨l', g, w1, rc', _⟩ := w.sub hg nd
    cases rc.fun rc'
    cases w1 with
    | @lst _ xs _ h2 h3 =>
    refine ⟨.inl ⟨rfl, xs, .of h2⟩, he B G σ H S _ fun G1 H1 v t1 r1 => ?_⟩
    have h4 : H1 l = some (.lst xs) := t1.h _ _ h2
    refine ⟨l, xs, v, rfl, rfl, h4, small1000 (by rw [h3.length]; exact hl), ?_⟩
    exact h B G1 σ _ D (S.putAt t1 hn hg e1 rc fun g w ng => by
      cases w with
      | lst h5 h6 =>
        rw [h2] at h5; cases h5
        exact ⟨fun z hz => upd_ne (fun e => hz (by simp [e])), fun z hz => by simp at hz; subst hz; exact ⟨_, upd_same⟩, .lst upd_same ((h6.mono t1.g).app (.cons r1 .nil))⟩) C)
end
/-- a net whose list of ties is held -/
abbrev oNet (n : Net) : Own := .tupO [.dat (ePair n.1), .own (.lst (n.2.map eTie))]
end Lk
namespace Lk
open PySem L2
section
variable {K : PySem.W.Frag} {B : Bs} {G G' H H' : Hp} {ss : List Sl} {σ : St} {n : Nat}
theorem PtsF.length {vs : List (Str × V)} {ps : List (Str × Pt)} {fp : List Addr} (h : PtsF K G H vs ps fp) : vs.length = ps.length := by
  induction ps generalizing vs fp with
  | nil => cases h; rfl
  | cons p ps ih => cases h with | cons h1 h2 => simp [ih h2]
theorem PtsF.snoc {vs : List (Str × V)} {ps : List (Str × Pt)} {fp f : List Addr} {k : Str} {v : V} {p : Pt} (h : PtsF K G H vs ps fp) (w : PtAt K G H v p f) : PtsF K G H (vs ++ [(k, v)]) (ps ++ [(k, p)]) (fp ++ f) := by
  induction ps generalizing vs fp with
  | nil => cases h; have := PtsF.cons (k := k) w (.nil (K := K) (G := G) (H := H)); simpa using this
  | cons q ps ih =>
    cases h with
    | cons h1 h2 => rw [List.append_assoc]; exact .cons h1 (ih h2)
end
/-- arguments: data, or lent -/
inductive Ar where
  | dat (d : D)
  | vw (o : Own)
def Ar.sl : Ar → Sl
  | .dat d => .dat d
  | .vw o => .vw o
inductive ArsAt (K : PySem.W.Frag) (G H : Hp) : List V → List Ar → Prop
  | nil : ArsAt K G H [] []
  | dat {v : V} {vs : List V} {d : D} {as : List Ar} : Rep K G v d → ArsAt K G H vs as → ArsAt K G H (v :: vs) (.dat d :: as)
  | vw {a : Addr} {vs : List V} {o : Own} {as : List Ar} : Vw K G H a o → ArsAt K G H vs as → ArsAt K G H (.ref a :: vs) (.vw o :: as)
theorem ArsAt.length {K : PySem.W.Frag} {G H : Hp} {vs : List V} {as : List Ar} (h : ArsAt K G H vs as) : vs.length = as.length := by
  induction h with
  | nil => rfl
  | dat _ _ ih => simp [ih]
  | vw _ _ ih => simp [ih]
theorem ArsAt.step {K : PySem.W.Frag} {G H G' H' : Hp} {vs : List V} {as : List Ar} (h : ArsAt K G H vs as) (t : Stp G H G' H') : ArsAt K G' H' vs as := by
  induction h with
  | nil => exact .nil
  | dat h1 _ ih => exact .dat (h1.mono t.g) ih
  | vw h1 _ ih => exact .vw (h1.step t.g t.h) ih
theorem sls_ars {K : PySem.W.Frag} {G H : Hp} {vs : List V} {as : List Ar} (r : ArsAt K G H vs as) {σ : St} {ss : List Sl} {G' H' : Hp} (e : Ex G G') (h : Sls K ⟨G, H, G⟩ G' H' σ ss []) : Sls K ⟨G, H, G⟩ G' H' (vs.map some ++ σ) (as.map Ar.sl ++ ss) [] := by
  induction r with
  | nil => exact h
  | dat h1 _ ih => exact .cons (.dat (h1.mono e)) ih
  | vw h1 _ ih => exact .cons (.vw h1) ih
def slotsA (n m : Nat) (as : List Ar) : List Sl := as.map Ar.sl ++ List.replicate (m - n) .any
/-- a def with lent arguments -/
def spV (K : PySem.W.Frag) (n : Nat) (R : List Ar → (Sl → Prop) → Prop) : Sp := fun vs H Q _ => vs.length = n ∧ ∃ (G : Hp) (as : List Ar) (post : Sl → Prop), Ex G H ∧ ArsAt K G H vs as ∧ R as post ∧
  ∀ r G' H' v, post r → Stp G H G' H' → ROk K G' H H' v r → Q v H'
structure Fv (P : Program) (w : World) (K : PySem.W.Frag) (mg : Str → Option Value) (base : Heap) (k : Nat) (x : Str) (n : Nat) (R : List Ar → (Sl → Prop) → Prop) : Prop where
  ok : ∃ (f : Addr) (fd : FuncData) (ps : List Str), FnOk P w K mg base CX0 k f fd ps (spV K n R) ∧ mg x = some (.ref f) ∧ PySem.W.keepIn K (.ref f) = true ∧ Binds K fd ps [] ∧ ps.length = n
def EAr (X : Cx) (ss : List Sl) (es : List Expr) (as : List Ar) : Prop := ∀ (B : Bs) (G : Hp) (σ : St) (H : Hp), Sat X.K B G ss σ H → ∀ Q : List V → Hp → Prop, (∀ G' H' vs, Stp G H G' H' → ArsAt X.K G' H' vs as → Q vs H') → mA X es σ H Q
def BodyV (P : Program) (w : World) (K : PySem.W.Frag) (mg : Str → Option Value) (base : Heap) (N : List Str) (n k : Nat) (st : Stmt) (R : List Ar → (Sl → Prop) → Prop) : Prop :=
  ∀ (X : Cx), At X P w K mg base N (defScope st) k → ∀ (as : List Ar) (post : Sl → Prop), as.length = n → R as post → SS X (defBody st) (slotsA n N.length as) { nx := fun _ => post (.dat .non), rt := post }
section
variable {P : Program} {w : World} {K : PySem.W.Frag} {mg : Str → Option Value} {base : Heap} {x qual : Str} {st : Stmt} {f C : Addr} {fd : FuncData} {N ps : List Str} {n k : Nat}
theorem fnokV_of {R : List Ar → (Sl → Prop) → Prop} (F : Fun K x qual st f fd) (S : FnScope N ps (defScope st)) (hn : ps.length = n) (hN : n ≤ N.length) (h : BodyV P w K mg base N n k st R) : FnOk P w K mg base CX0 (k + 1) f fd ps (spV K n R) := by
  refine F.ok S (fun vs H Q E q => q.1.trans hn.symm) fun cdv A outer s H vs Q E hr hsp => ?_
  obtain ⟨hl, G, as, post, e, r, hR, c⟩ := hsp
  refine ⟨_, pss_m, ?_⟩
  have hd : as.length = n := r.length.symm.trans hl
  refine h _ ⟨rfl, rfl, rfl, rfl, rfl, rfl, rfl, fun _ => rfl, ⟨rfl, S.nd, hr, PassesOwn.never⟩, rfl, rfl⟩ as post hd hR ⟨G, H, G⟩ G _ H _ ⟨.refl e, .refl G, [], ?_, .nil, fun f hf => by cases hf⟩ ⟨fun ss G' σ H' q S' => c _ G' H' .non q S'.st .non, fun r' G' H' v q t z => c r' G' H' v q t z, fun _ _ _ _ q => q.elim, fun _ _ _ _ q => q.elim, fun _ _ _ _ _ _ q => q.elim, takes_no⟩
  unfold slotsA L2.start
  rw [show N.length - vs.length = N.length - n by omega]
  exact sls_ars r (.refl G) (sls_any _)
theorem fnv_of {R : List Ar → (Sl → Prop) → Prop} (F : Fun K x qual st f fd) (S : FnScope N ps (defScope st)) (hm : mg x = some (.ref f)) (b : Binds K fd ps []) (hn : ps.length = n) (hN : n ≤ N.length) (h : BodyV P w K mg base N n k st R) : Fv P w K mg base (k + 1) x n R :=
  ⟨f, fd, ps, fnokV_of F S hn hN h, hm, F.kp, b, hn⟩
end
end Lk
namespace Lk
open PySem L2
section
variable {X : Cx} {k : Nat} {ss ss' : List Sl} {a b e c : Expr} {es : List Expr} {sts : List Stmt} {pos pos' p apos cpos : Pos} {i j : Int} {d : D} {r : Sl} {x : Str} {n m : Nat} {o : Own} {as : List Ar} {C : Addr} {fs : List (Str × D)}
theorem ear_nil : EAr X ss [] [] := fun B G σ H S Q q => a_of pa_nil (q G H [] (.refl S.gh) .nil)
theorem ear_vw (h : EV X ss e o) (hr : EAr X ss es as) (hs : starEach (e :: es) X.env = (false, eval e X.env) :: starEach es X.env := by rfl) : EAr X ss (e :: es) (.vw o :: as) := fun B G σ H S Q q =>
  a_of (pa_cons pe_m pa_m hs) (h B G σ H S _ fun G1 H1 v t1 w => hr B G1 σ H1 (S.step t1) _ fun G2 H2 vs t2 r2 => q G2 H2 _ (t1.trans t2) (.vw (w.step t2.g t2.h) r2))
theorem ee_callV {q : Nat} {R : List Ar → (Sl → Prop) → Prop} (F : Fv X.prog X.w X.K X.mg X.base q x n R) (cx : Ctx X k) (hk : q ≤ k) (hg : Gl X x) (ha : EAr X ss (e :: es) as) (hR : R as (fun z => z = r)) (hn : as.length = n)
    (hdb : (x == ("__debug__" : Str)) = false := by decide) (he : starEach (e :: es) X.env = (false, eval e X.env) :: starEach es X.env := by rfl) (hpl : (backTo pos (starEach es X.env)).any (·.1) = false := by rfl) :
    EE X ss (.Call (.Name x p) (e :: es) [] pos) r := fun B G σ H S Q c => by
  obtain ⟨f, fd, ps, hF, hm, hkp, hb, hl⟩ := F.ok
  refine e_of (pe_call (dvs := []) hF (cx.room.mono hk) hg hm hkp hb .nil pass0 pa_m hdb he hpl) (ha B G σ H S _ fun G1 H1 vs t1 r1 => ?_)
  show spV _ _ _ (vs ++ []) H1 Q E0
  rw [List.append_nil]
  refine ⟨r1.length.trans hn, G1, as, _, t1.gh, r1, hR, fun r' G2 H2 v e1 t2 r2 => ?_⟩
  subst e1
  exact c G2 H2 v (t1.trans t2) (r2.from t1.h)
end
def look {α : Type} (m : List (Int × α)) (k : Int) : Option α := (m.find? fun p => decide (p.1 = k)).map (·.2)
theorem look_nil {α : Type} {k : Int} : look ([] : List (Int × α)) k = none := rfl
theorem look_cons {α : Type} {p : Int × α} {m : List (Int × α)} {k : Int} : look (p :: m) k = if p.1 = k then some p.2 else look m k := by
  unfold look
  by_cases h : p.1 = k <;> simp [h]
theorem valD_map {α : Type} {m : List (Int × α)} {en : α → D} {k : Int} : valD (m.map fun p => (Sum.inl p.1, en p.2)) (Sum.inl k) = (look m k).map en := by
  induction m with
  | nil => rfl
  | cons p m ih =>
    rw [look_cons]
    unfold valD at ih ⊢
    rw [List.map_cons, List.find?_cons]
    by_cases h : p.1 = k
    · have : ((Sum.inl p.1 : Key) = Sum.inl k) := by rw [h]
      simp [h]
    · have : ¬ ((Sum.inl p.1 : Key) = Sum.inl k) := fun e => h (Sum.inl.inj e)
      simp only [decide_eq_false this, if_neg h]
      exact ih
theorem look_none {α : Type} {m : List (Int × α)} {k : Int} : look m k = none ↔ k ∉ m.map (·.1) := by
  induction m with
  | nil => simp [look_nil]
  | cons p m ih =>
    rw [look_cons, List.map_cons, List.mem_cons, not_or, ← ih]
    by_cases h : p.1 = k
    · simp [h]
    · simp [h]; intro _ e; exact h e.symm
theorem look_app {α : Type} {m m' : List (Int × α)} {k : Int} : look (m ++ m') k = (look m k).or (look m' k) := by
  induction m with
  | nil => simp [look_nil]
  | cons p m ih =>
    rw [List.cons_append, look_cons, look_cons, ih]
    by_cases h : p.1 = k <;> simp [h]
def hd (m : List (Int × Int)) : Nat → Int → Int
  | 0, p => p
  | n + 1, p => match look m p with
    | none => p
    | some q => hd m n q
structure Jn where
  m : List (Int × Int)
  n : Int
end Lk
namespace Lk
open PySem L2
def EVB (X : Cx) (ss : List Sl) (e : Expr) (o : Own) : Prop := ∀ (B : Bs) (G : Hp) (σ : St) (H : Hp), Sat X.K B G ss σ H → ∀ Q : VK, (∀ a G' H', Stp G H G' H' → Vw X.K B.V0 B.H0 a o → Q (.ref a) H') → mE X e σ H Q
section
variable {X : Cx} {k : Nat} {ss ss' : List Sl} {a b e c tg : Expr} {pos : Pos} {i : Int} {d : D} {x : Str} {n : Nat} {o : Own} {ps : List Pt} {ds : List D}
theorem evb_vw (v : VarOk X n x) (h : ss[n]? = some (.vw o)) : EVB X ss (.Name x pos) o := fun B G σ H S Q c => by
  obtain ⟨a, e1, w, _⟩ := S.vw h
  exact e_of (pe_var v.n v.v v.d1 v.d2) ⟨_, e1, c a G H (.refl S.gh) w⟩
theorem evb_child (h : EVB X ss a (.tupO ps)) (hi : EE X ss b (.dat (.int i))) (hs : PlainIx b) (e : atI ps i = some (.own o)) : EVB X ss (.Subscript a b pos) o := fun B G σ H S Q c =>
  e_of (pe_ix ix_tup pe_m pe_m hs) (h B G σ H S _ fun l G1 H1 t1 w => hi B G1 σ H1 (S.step t1) _ fun G2 H2 v t2 r2 => by
    -- the parts as they lay at the entry
    unfold atI at e
    cases e1 : ixN ps.length i with
    | none => rw [e1] at e; cases e
    | some m =>
      rw [e1] at e
      have S2 := (S.step t1).step t2
      cases w with
      | own w =>
        cases w with
        | @tupO _ vs _ fp h1 h2 =>
          obtain ⟨l', f, r, v', _, e2, e3, _⟩ := h2.split (show ps[m]? = some (.own o) from e)
          cases e3 with
          | own w3 => exact ⟨l, vs, i, _, rfl, Rep.int_inv r2, .of (S2.st.h _ _ h1), by unfold atI; rw [h2.length, e1]; exact e2, c _ G2 H2 (t1.trans t2) (.own w3)⟩
      | dat r =>
        cases (show Rep X.K B.V0 (.ref l) (.tup (datL ps)) from r) with
        | @tup _ vs _ h1 h2 =>
          obtain ⟨v', e2, r3⟩ := h2.get (datL_get (show ps[m]? = some (.own o) from e))
          obtain ⟨b', rfl⟩ := lies_ref (o := o) r3
          exact ⟨l, vs, i, _, rfl, Rep.int_inv r2, S2.gh.t (S2.v0.t h1), by unfold atI; rw [h2.length, datL_len, e1]; exact e2, c _ G2 H2 (t1.trans t2) (.dat r3)⟩)
theorem ei_vw (hl : EVB X ss e (.lst ds)) (hv : ∀ {G V0 : Hp} {xs : List V}, True) : EI X ss tg e ds := fun B G σ H S R q =>
  i_of (pi_list pe_m) (hl B G σ H S _ fun a G1 H1 t1 w => by
    have S1 := S.step t1
    have key : ∃ xs, H1 a = some (.lst xs) ∧ RepL X.K G1 xs ds ∧ (B.H0 a = some (.lst xs) ∨ G1 a = some (.lst xs)) := by
      cases w with
      | own w =>
        cases w with
        | @lst _ xs _ h1 h2 => exact ⟨xs, S1.st.h _ _ h1, h2.mono S1.v0, .inl h1⟩
      | dat r =>
        cases (show Rep X.K B.V0 (.ref a) (.lst ds) from r) with
        | @lst _ xs _ h1 h2 => exact ⟨xs, S1.gh _ _ (S1.v0 _ _ h1), h2.mono S1.v0, .inr (S1.v0 _ _ h1)⟩
    obtain ⟨xs, h1, h2, h3⟩ := key
    refine ⟨a, rfl, ⟨xs, .of h1⟩, ?_⟩
    have w := walk_list (K := X.K) (a := a) (xs := xs)
    rw [h2.length] at w
    refine q _ G1 H1 _ _ t1 w (fun H' e1 e => .of (h3.elim (fun z => e _ _ z) fun z => e1 _ _ z)) fun i H2 y H3 G2 hi hy e1 e2 => ?_
    obtain ⟨e3, e4⟩ := hy
    obtain ⟨d, e5, e6⟩ := h2.getV e4
    exact ⟨G2, d, e5, by rw [e3]; exact .refl e2, e6.mono e1⟩)
end
/-- a net: names from 0, none twice, not too many -/
structure NetOk (n : Net) : Prop where
  nd : (n.2.map (·.1)).Nodup
  nn : ∀ t ∈ n.2, 0 ≤ t.1
  len : n.2.length ≤ 14
end Lk
namespace Lk
end Lk
namespace Lk
def b2z (b : Bool) : Int := cond b 1 0
theorem b2z_bd {b : Bool} {z : Int} (h : b2z b = z) : 0 ≤ z ∧ z ≤ 1 := by
  subst h
  cases b <;> decide
end Lk
namespace Lk
end Lk
namespace Lk
open PySem L2
def put {α : Type} (m : List (Int × α)) (k : Int) (v : α) : List (Int × α) := if (m.any fun p => decide (p.1 = k)) = true then m.map (fun p => if p.1 = k then (p.1, v) else p) else m ++ [(k, v)]
theorem putD_map {α : Type} {m : List (Int × α)} {en : α → D} {k : Int} {v : α} : putD (m.map fun p => (Sum.inl p.1, en p.2)) (Sum.inl k) (en v) = (put m k v).map fun p => (Sum.inl p.1, en p.2) := by
  unfold putD put
  have h1 : ((m.map fun p => ((Sum.inl p.1 : Key), en p.2)).any fun kv => decide (kv.1 = Sum.inl k)) = m.any fun p => decide (p.1 = k) := by
    rw [List.any_map]
    congr 1
    funext p
    simp only [Function.comp]
    by_cases h : p.1 = k
    · simp [h]
    · have : ¬ ((Sum.inl p.1 : Key) = Sum.inl k) := fun e => h (Sum.inl.inj e)
      simp [h, this]
  rw [h1]
  split
  · rw [List.map_map, List.map_map]
    apply List.map_congr_left
    intro p _
    simp only [Function.comp]
    by_cases h : p.1 = k
    · rw [if_pos (by rw [h]), if_pos h]
    · rw [if_neg (fun e => h (Sum.inl.inj e)), if_neg h]
  · rw [List.map_append]
    rfl
theorem look_put {α : Type} {m : List (Int × α)} {k j : Int} {v : α} : look (put m k v) j = if k = j then some v else look m j := by
  unfold put
  split
  · rename_i h
    induction m with
    | nil => simp at h
    | cons p m ih =>
      rw [List.map_cons, look_cons, look_cons]
      by_cases hp : p.1 = k
      · rw [if_pos hp]
        by_cases e : k = j
        · simp [e, hp]
        · simp only [if_neg e]
          rw [if_neg (by rw [hp]; exact e), if_neg (by rw [hp]; exact e)]
          -- the rest is changed at k alone
          clear ih h
          induction m with
          | nil => rfl
          | cons q m ih2 =>
            rw [List.map_cons, look_cons, look_cons]
            by_cases hq : q.1 = k
            · rw [if_pos hq, if_neg (by rw [hq]; exact e), if_neg (by rw [hq]; exact e)]; exact ih2
            · rw [if_neg hq]; split
              · rfl
              · exact ih2
      · rw [if_neg hp]
        by_cases e2 : p.1 = j
        · rw [if_pos e2, if_neg (fun y => hp (e2.trans y.symm)), if_pos e2]
        · rw [if_neg e2, if_neg e2]
          exact ih (by simpa [hp] using h)
  · rename_i h
    rw [look_app, look_cons, look_nil]
    by_cases e : k = j
    · subst e
      have : look m k = none := by
        rw [look_none]
        intro hm
        obtain ⟨p, hp, e⟩ := List.mem_map.mp hm
        exact h (List.any_eq_true.mpr ⟨p, hp, by simpa using e⟩)
      rw [this]
      simp
    · rw [if_neg e]
      cases look m j <;> simp [e]
theorem put_keys {α : Type} {m : List (Int × α)} {k : Int} {v : α} : (put m k v).map (·.1) = if k ∈ m.map (·.1) then m.map (·.1) else m.map (·.1) ++ [k] := by
  unfold put
  by_cases h : k ∈ m.map (·.1)
  · have h' : (m.any fun p => decide (p.1 = k)) = true := by
      obtain ⟨p, hp, e⟩ := List.mem_map.mp h
      exact List.any_eq_true.mpr ⟨p, hp, by simpa using e⟩
    rw [if_pos h', if_pos h, List.map_map]
    apply List.map_congr_left
    intro p _
    simp only [Function.comp]
    split <;> rfl
  · have h' : ¬ (m.any fun p => decide (p.1 = k)) = true := fun y => by
      obtain ⟨p, hp, e⟩ := List.any_eq_true.mp y
      exact h (List.mem_map.mpr ⟨p, hp, by simpa using e⟩)
    rw [if_neg h', if_neg h, List.map_append]
    rfl
theorem put_len {α : Type} {m : List (Int × α)} {k : Int} {v : α} : (put m k v).length ≤ m.length + 1 := by
  unfold put
  split <;> simp
end Lk
namespace Lk
open PySem L2
def relab (m : List (Int × Int)) (o x : Int) : List (Int × Int) := m.map fun p => if p.2 = o then (p.1, x) else p
def lab (m : List (Int × Int)) (p : Int) : Int := (look m p).getD p
def lstep (E : List (Int × (Int × Int))) (s : Jn) (name : Int) : Jn :=
  let q := (look E name).getD (0, 0)
  let one := lab s.m q.1
  let other := lab s.m q.2
  if one = other then s else ⟨relab (put (put s.m q.1 one) q.2 other) other one, s.n + 1⟩
theorem relab_keys {m : List (Int × Int)} {o x : Int} : (relab m o x).map (·.1) = m.map (·.1) := by
  unfold relab
  rw [List.map_map]
  apply List.map_congr_left
  intro p _
  simp only [Function.comp]
  split <;> rfl
theorem look_relab {m : List (Int × Int)} {o x p : Int} : look (relab m o x) p = (look m p).map fun z => if z = o then x else z := by
  unfold relab
  induction m with
  | nil => rfl
  | cons q m ih =>
    rw [List.map_cons, look_cons, look_cons, ih]
    by_cases h : q.2 = o
    · rw [if_pos h]
      by_cases e : q.1 = p
      · simp [e, h]
      · simp [e]
    · rw [if_neg h]
      by_cases e : q.1 = p
      · simp [e, h]
      · simp [e]
theorem nodup_put {m : List (Int × Int)} {k v : Int} (h : (m.map (·.1)).Nodup) : ((put m k v).map (·.1)).Nodup := by
  rw [put_keys]
  split
  · exact h
  · rename_i e
    rw [List.nodup_append]
    refine ⟨h, by simp, fun a ha b hb e2 => ?_⟩
    simp at hb
    subst hb e2
    exact e ha
end Lk
namespace Lk
open PySem L2
end Lk
namespace Lk
end Lk
namespace Lk
open PySem L2
section
variable {X : Cx} {k : Nat} {ss : List Sl} {a b c e it tg : Expr} {pos p apos cpos : Pos} {kvs : List (Key × D)}
theorem RepK.getV {K : PySem.W.Frag} {G : Hp} {ps : List (Key × V)} {ds : List (Key × D)} {i : Nat} {q : Key} {v : V} (h : RepK K G ps ds) (e : ps[i]? = some (q, v)) : ∃ d, ds[i]? = some (q, d) ∧ Rep K G v d := by
  induction ds generalizing ps i with
  | nil => cases h; simp at e
  | cons d0 ds ih =>
    cases h with
    | cons h1 h2 =>
      cases i with
      | zero => simp at e; obtain ⟨rfl, rfl⟩ := e; exact ⟨_, rfl, h1⟩
      | succ i =>
        obtain ⟨d, e1, e2⟩ := ih h2 (by simpa using e)
        exact ⟨d, by simpa using e1, e2⟩
end
end Lk
namespace Lk
open PySem L2
theorem srtT_srtT (l : List Tie) : srtT l = srtT (srtT l) := srtT_of (.refl _) (srtT_le l)
end Lk
namespace Lk
end Lk
namespace Lk
open PySem L2
section
variable {P : Program} {w : World} {K : PySem.W.Frag} {mg : Str → Option Value} {base : Heap} {N : List Str} {n k k' : Nat} {st : Stmt} {sc : Scope} {X : Cx}
theorem At.mono (A : At X P w K mg base N sc k') (h : k ≤ k') : At X P w K mg base N sc k := ⟨A.p, A.w, A.K, A.mg, A.base, A.N, A.sc, A.fn, ⟨A.cx.calm, A.cx.nd, A.cx.room.mono h, A.cx.po⟩, A.stk, A.frm⟩
theorem Body.mono {R : List D → (Sl → Prop) → Prop} (B : Body P w K mg base N n k st R) (h : k ≤ k') : Body P w K mg base N n k' st R := fun X A => B X (A.mono h)
end
end Lk
namespace Rk
open Classical
section
variable {α : Type} {cl : List α → α → Prop}
/-- a closure with exchange -/
structure Clo (cl : List α → α → Prop) : Prop where
  ext : ∀ {l x}, x ∈ l → cl l x
  idem : ∀ {l l' x}, (∀ y ∈ l', cl l y) → cl l' x → cl l x
  exch : ∀ {l e f}, cl (e :: l) f → ¬ cl l f → cl (f :: l) e
theorem Clo.mono (C : Clo cl) {l l' : List α} {x : α} (h : ∀ y ∈ l, y ∈ l') (hx : cl l x) : cl l' x := C.idem (fun y hy => C.ext (h y hy)) hx
noncomputable def one (p : Prop) : Nat := if p then 0 else 1
end
abbrev Set' := Int → Bool
def un (A B : Set') : Set' := fun x => A x || B x
def it (A B : Set') : Set' := fun x => A x && B x
def ad (A : Set') (y : Int) : Set' := fun x => A x || decide (x = y)
def co (A : Set') : Set' := fun x => !A x
def len (ns : List Int) (A : Set') : Int := (ns.filter A).length
/-- a rank function on the names -/
structure RankF (ns : List Int) (r : Set' → Int) : Prop where
  congr : ∀ {A B : Set'}, (∀ x ∈ ns, A x = B x) → r A = r B
  le : ∀ A, r A ≤ len ns A
  nn : ∀ A, 0 ≤ r A
  mono : ∀ {A B : Set'}, (∀ x ∈ ns, A x = true → B x = true) → r A ≤ r B
  sub : ∀ A B, r (un A B) + r (it A B) ≤ r A + r B
theorem len_congr {ns : List Int} {A B : Set'} (h : ∀ x ∈ ns, A x = B x) : len ns A = len ns B := by
  unfold len
  rw [List.filter_congr h]
theorem len_un (ns : List Int) (A B : Set') : len ns (un A B) + len ns (it A B) = len ns A + len ns B := by
  unfold len
  induction ns with
  | nil => rfl
  | cons a ns ih =>
    unfold un it at *
    simp only [List.filter_cons]
    cases hA : A a <;> cases hB : B a <;> simp only [Bool.or_true, Bool.or_false, Bool.and_true, Bool.and_false, Bool.true_or, Bool.false_or, Bool.true_and, Bool.false_and, if_true, List.length_cons, Bool.false_eq_true, if_false] <;> push_cast at * <;> omega
theorem len_ad {ns : List Int} (nd : ns.Nodup) {A : Set'} {y : Int} (hy : y ∈ ns) (hA : A y = false) : len ns (ad A y) = len ns A + 1 := by
  have h := len_un ns A (fun x => decide (x = y))
  have h1 : len ns (it A fun x => decide (x = y)) = 0 := by
    unfold len
    rw [List.filter_eq_nil_iff.mpr]
    · rfl
    · intro x hx
      unfold it
      by_cases e : x = y
      · subst e; simp [hA]
      · simp [e]
  have h2 : len ns (fun x => decide (x = y)) = 1 := by
    unfold len
    have : (ns.filter fun x => decide (x = y)).Perm [y] := by
      refine (List.perm_ext_iff_of_nodup (nd.filter _) (by simp)).mpr fun x => ?_
      rw [List.mem_filter]
      simp only [decide_eq_true_eq, List.mem_cons, List.not_mem_nil, or_false]
      exact ⟨fun q => q.2, fun q => ⟨q ▸ hy, q⟩⟩
    rw [this.length_eq]
    rfl
  rw [h1, h2] at h
  show len ns (un A fun x => decide (x = y)) = _
  omega
section
variable {ns : List Int} {r : Set' → Int}
theorem RankF.up (R : RankF ns r) (nd : ns.Nodup) {A : Set'} {y : Int} (hy : y ∈ ns) : r (ad A y) ≤ r A + 1 := by
  have h1 := R.sub A (fun x => decide (x = y))
  have h2 := R.nn (it A fun x => decide (x = y))
  have h3 : r (fun x => decide (x = y)) ≤ 1 := by
    have h := R.le (fun x => decide (x = y))
    have h4 : len ns (fun x => decide (x = y)) = 1 := by
      have := len_ad nd (A := fun _ => false) hy rfl
      have e : len ns (fun _ => false) = 0 := by unfold len; simp
      rw [e] at this
      rw [show (fun x => decide (x = y)) = ad (fun _ => false) y from by unfold ad; simp]
      simpa using this
    omega
  have : r (ad A y) = r (un A fun x => decide (x = y)) := rfl
  omega
theorem RankF.ad_le (R : RankF ns r) (A : Set') (y : Int) : r A ≤ r (ad A y) := R.mono fun x _ h => by unfold ad; rw [h]; rfl
/-- what adds nothing one by one adds nothing at all -/
theorem RankF.none (R : RankF ns r) (A : Set') : ∀ l : List Int, (∀ y ∈ l, r (ad A y) = r A) → r (un A fun x => decide (x ∈ l)) = r A
  | [], _ => R.congr fun x _ => by unfold un; simp
  | y :: l, h => by
    have ih := RankF.none R A l fun z hz => h z (by simp [hz])
    have h1 := R.sub (un A fun x => decide (x ∈ l)) (ad A y)
    rw [ih, h y (by simp)] at h1
    have h2 : r A ≤ r (it (un A fun x => decide (x ∈ l)) (ad A y)) := R.mono fun x _ q => by unfold it un ad; simp [q]
    have h3 : r (un (un A fun x => decide (x ∈ l)) (ad A y)) = r (un A fun x => decide (x ∈ y :: l)) := R.congr fun x _ => by
      unfold un ad
      simp only [List.mem_cons]
      cases A x <;> by_cases e : x = y <;> by_cases e2 : x ∈ l <;> simp [e, e2]
    have h4 : r A ≤ r (un A fun x => decide (x ∈ y :: l)) := R.mono fun x _ q => by unfold un; rw [q]; rfl
    omega
/-- the closure -/
def clo (r : Set' → Int) (A : Set') : Set' := fun x => A x || decide (r (ad A x) = r A)
theorem RankF.clo (R : RankF ns r) (A : Set') : r (clo r A) = r A := by
  have h := R.none A (ns.filter (Rk.clo r A)) fun y hy => by
    have := (List.mem_filter.mp hy).2
    unfold Rk.clo at this
    rcases (Bool.or_eq_true _ _).mp this with q | q
    · exact R.congr fun x _ => by unfold ad; by_cases e : x = y <;> simp [e, q]
    · simpa using q
  rw [← h]
  refine R.congr fun x hx => ?_
  unfold un
  cases hA : A x
  · rw [Bool.false_or]
    cases hc : Rk.clo r A x <;> simp [List.mem_filter, hx, hc]
  · unfold Rk.clo; rw [hA]; rfl
end
end Rk
namespace Rk
open Lk
/-- joined by ties of l -/
inductive Con (l : List (Int × Int)) : Int → Int → Prop
  | refl (x : Int) : Con l x x
  | edge {e : Int × Int} : e ∈ l → Con l e.1 e.2
  | symm {x y : Int} : Con l x y → Con l y x
  | trans {x y z : Int} : Con l x y → Con l y z → Con l x z
def cl (l : List (Int × Int)) (e : Int × Int) : Prop := Con l e.1 e.2
theorem Con.idem {l l' : List (Int × Int)} (h : ∀ y ∈ l', cl l y) {x y : Int} (c : Con l' x y) : Con l x y := by
  induction c with
  | refl x => exact .refl x
  | edge he => exact h _ he
  | symm _ ih => exact .symm ih
  | trans _ _ i1 i2 => exact .trans i1 i2
theorem con_cons {l : List (Int × Int)} {e : Int × Int} {x y : Int} : Con (e :: l) x y ↔ Con l x y ∨ (Con l x e.1 ∧ Con l e.2 y) ∨ (Con l x e.2 ∧ Con l e.1 y) := by
  constructor
  · intro c
    induction c with
    | refl x => exact .inl (.refl x)
    | edge he =>
      rcases List.mem_cons.mp he with q | q
      · subst q; exact .inr (.inl ⟨.refl _, .refl _⟩)
      · exact .inl (.edge q)
    | symm _ ih =>
      rcases ih with q | ⟨q1, q2⟩ | ⟨q1, q2⟩
      · exact .inl q.symm
      · exact .inr (.inr ⟨q2.symm, q1.symm⟩)
      · exact .inr (.inl ⟨q2.symm, q1.symm⟩)
    | trans _ _ i1 i2 =>
      rcases i1 with p | ⟨p1, p2⟩ | ⟨p1, p2⟩ <;> rcases i2 with q | ⟨q1, q2⟩ | ⟨q1, q2⟩
      · exact .inl (p.trans q)
      · exact .inr (.inl ⟨p.trans q1, q2⟩)
      · exact .inr (.inr ⟨p.trans q1, q2⟩)
      · exact .inr (.inl ⟨p1, p2.trans q⟩)
      · exact .inr (.inl ⟨p1, q2⟩)
      · exact .inl (p1.trans q2)
      · exact .inr (.inr ⟨p1, p2.trans q⟩)
      · exact .inl (p1.trans q2)
      · exact .inr (.inr ⟨p1, q2⟩)
  · have up : ∀ {a b}, Con l a b → Con (e :: l) a b := fun c => c.idem fun y hy => .edge (by simp [hy])
    have he : Con (e :: l) e.1 e.2 := .edge (by simp)
    rintro (q | ⟨q1, q2⟩ | ⟨q1, q2⟩)
    · exact up q
    · exact ((up q1).trans he).trans (up q2)
    · exact ((up q1).trans he.symm).trans (up q2)
theorem row_perm {ns row : List Int} (nd : ns.Nodup) (h : row.Nodup) (hs : ∀ x ∈ row, x ∈ ns) : row.Perm (ns.filter fun x => decide (x ∈ row)) := by
  refine (List.perm_ext_iff_of_nodup h (nd.filter _)).mpr fun x => ?_
  rw [List.mem_filter, decide_eq_true_eq]
  exact ⟨fun q => ⟨hs x q, q⟩, fun q => q.2⟩
theorem len_row {ns row : List Int} (nd : ns.Nodup) (h : row.Nodup) (hs : ∀ x ∈ row, x ∈ ns) : len ns (fun x => decide (x ∈ row)) = row.length := by
  unfold len
  rw [(row_perm nd h hs).length_eq]
end Rk
namespace Lk
end Lk
namespace Lk
open PySem L2
theorem ee_divW {X : Cx} {ss : List Sl} {a b : Expr} {pos : Pos} {i j : Int} (ha : EE X ss a (.dat (.int i))) (hb : EE X ss b (.dat (.int j))) (hc : CDivW i j) : EE X ss (.BinOp a .FloorDiv b pos) (.dat (.int (i / j))) := ee_opI op_fdivW ha hb hc
end Lk
namespace Rk
open Lk
def st (row : List Int) : Set' := fun x => decide (x ∈ row)
theorem filter_all {ns : List Int} {A : Set'} : ns.filter A = ns ↔ ∀ x ∈ ns, A x = true := by
  rw [List.filter_eq_self]
section
variable {ns : List Int} {r : Set' → Int}
/-- all is reached where the rank is that of all -/
theorem RankF.full (R : RankF ns r) (A : Set') : (ns.filter (Rk.clo r A) = ns) ↔ r A = r (fun _ => true) := by
  rw [filter_all]
  constructor
  · intro h
    rw [← R.clo A]
    exact R.congr fun x hx => h x hx
  · intro h x hx
    unfold Rk.clo
    have h1 := R.ad_le A x
    have h2 : r (ad A x) ≤ r (fun _ => true) := R.mono fun _ _ _ => rfl
    rw [decide_eq_true (by omega), Bool.or_true]
end
end Rk
namespace Lk
open PySem L2
section
variable {X : Cx} {k : Nat} {ss : List Sl} {a b c : Expr} {pos : Pos} {i j l : Int}
theorem ee_chI {op op' : CmpOp} {f f' : Int → Int → Bool} (ho : OpR X (compareOp op) (rI0 fun i j => .bl (f i j))) (ho' : OpR X (compareOp op') (rI0 fun i j => .bl (f' i j))) (ha : EE X ss a (.dat (.int i))) (hb : EE X ss b (.dat (.int j))) (hc : EE X ss c (.dat (.int l)))
    (hm : lastMarks [op, op'] [b, c] = false := by with_unfolding_all rfl) : EE X ss (.Compare a [op, op'] [b, c] pos) (.dat (.bl (f i j && f' j l))) := fun B G σ H S Q q =>
  e_of (pe_chain ho ho' pe_m pe_m pe_m hm) (ha B G σ H S _ fun G1 H1 v t1 r1 => hb B G1 σ H1 (S.step t1) _ fun G2 H2 w t2 r2 => ⟨i, j, Rep.int_inv r1, Rep.int_inv r2, f i j, rfl, by
    cases e : f i j with
    | false => exact q G2 H2 _ (t1.trans t2) (by rw [e]; exact .bl _)
    | true => exact hc B G2 σ H2 ((S.step t1).step t2) _ fun G3 H3 u t3 r3 => ⟨j, l, Rep.int_inv r2, Rep.int_inv r3, q G3 H3 _ ((t1.trans t2).trans t3) (by rw [e]; exact .bl _)⟩⟩)
end
end Lk
namespace Rk
open Lk
end Rk
namespace Lk
open PySem L2
section
variable {K : PySem.W.Frag} {B : Bs} {G G' H H' : Hp} {ss ss' : List Sl} {σ : St} {n : Nat} {r : Sl} {v : V} {x : Option V}
theorem Sat.cons (S : Sat K B G ss σ H) (t : Stp G H G' H') (h : ROk K G' H H' v r) : Sat K B G' (r :: ss) (some v :: σ) H' := by
  have S' := S.step t
  obtain ⟨fp, q, nd, out⟩ := S.sl
  have key : ∃ f', Piece K B G' H' (some v) r f' ∧ f'.Nodup ∧ ∀ z ∈ f', H z = none ∧ G' z = none := by
    cases r with
    | any => exact ⟨[], .any _, .nil, fun z hz => by cases hz⟩
    | dat d => exact ⟨[], .dat h, .nil, fun z hz => by cases hz⟩
    | own o => obtain ⟨a, g, rfl, y, n1, n2⟩ := h; exact ⟨g, .own y, n1, n2⟩
    | vw o => exact h.elim
    | exn a d fs => exact h.elim
  obtain ⟨f', p, n1, n2⟩ := key
  refine ⟨S'.st, S'.v0, f' ++ fp, .cons p (q.frame t.g fun f hf => t.same (q.there f hf)), ?_, fun z hz => ?_⟩
  · rw [List.nodup_append]
    refine ⟨n1, nd, fun a ha b hb e => ?_⟩
    subst e
    obtain ⟨u, hu⟩ := q.there a hb
    rw [(n2 a ha).1] at hu
    cases hu
  · rcases List.mem_append.mp hz with y | y
    · exact ⟨(n2 z y).2, S.st.h.back (n2 z y).1⟩
    · obtain ⟨u, hu⟩ := q.there z y
      exact ⟨t.out hu (out z y).1, (out z y).2⟩
theorem Sat.tail (S : Sat K B G (r :: ss) (x :: σ) H) : Sat K B G ss σ H := by
  obtain ⟨fp, q, nd, out⟩ := S.sl
  cases q with
  | cons p q => exact ⟨S.st, S.v0, _, q, (List.nodup_append.mp nd).2.1, fun z hz => out z (List.mem_append_right _ hz)⟩
end
end Lk
namespace Lk
open PySem L2
inductive Ax where
  | dat (d : D)
  | vw (o : Own)
  | io (o : Own)
/-- how it ends: what is handed back or raised, what the handed things are behind it -/
inductive Out where
  | ret (r : Sl) (os : List Own)
  | exc (C : Addr) (fs : List (Str × D)) (os : List Own)
inductive ArsX (K : PySem.W.Frag) (G H H0 : Hp) : List V → List Ax → List Addr → Prop
  | nil : ArsX K G H H0 [] [] []
  | dat {v : V} {vs : List V} {d : D} {as : List Ax} {fp : List Addr} : Rep K G v d → ArsX K G H H0 vs as fp → ArsX K G H H0 (v :: vs) (.dat d :: as) fp
  | vw {a : Addr} {vs : List V} {o : Own} {as : List Ax} {fp : List Addr} : Vw K G H0 a o → ArsX K G H H0 vs as fp → ArsX K G H H0 (.ref a :: vs) (.vw o :: as) fp
  | io {a : Addr} {vs : List V} {o : Own} {as : List Ax} {f fp : List Addr} : OwnAt K G H a o f → ArsX K G H H0 vs as fp → ArsX K G H H0 (.ref a :: vs) (.io o :: as) (f ++ fp)
/-- the handed things behind the call -/
inductive IosX (K : PySem.W.Frag) (G H : Hp) : List V → List Ax → List Own → List Addr → Prop
  | nil : IosX K G H [] [] [] []
  | dat {v : V} {vs : List V} {d : D} {as : List Ax} {os : List Own} {fp : List Addr} : IosX K G H vs as os fp → IosX K G H (v :: vs) (.dat d :: as) os fp
  | vw {v : V} {vs : List V} {o : Own} {as : List Ax} {os : List Own} {fp : List Addr} : IosX K G H vs as os fp → IosX K G H (v :: vs) (.vw o :: as) os fp
  | io {a : Addr} {vs : List V} {o o' : Own} {as : List Ax} {os : List Own} {f fp : List Addr} : OwnAt K G H a o' f → IosX K G H vs as os fp → IosX K G H (.ref a :: vs) (.io o :: as) (o' :: os) (f ++ fp)
theorem ArsX.length {K : PySem.W.Frag} {G H H0 : Hp} {vs : List V} {as : List Ax} {fp : List Addr} (h : ArsX K G H H0 vs as fp) : vs.length = as.length := by
  induction h with
  | nil => rfl
  | dat _ _ ih => simp [ih]
  | vw _ _ ih => simp [ih]
  | io _ _ ih => simp [ih]
theorem ArsX.there {K : PySem.W.Frag} {G H H0 : Hp} {vs : List V} {as : List Ax} {fp : List Addr} (h : ArsX K G H H0 vs as fp) : ∀ z ∈ fp, ∃ u, H z = some u := by
  induction h with
  | nil => intro z hz; cases hz
  | dat _ _ ih => exact ih
  | vw _ _ ih => exact ih
  | io w _ ih => intro z hz; exact (List.mem_append.mp hz).elim (w.there z) (ih z)
/-- a result over the addresses f -/
inductive ResAt (K : PySem.W.Frag) (G H : Hp) : V → Sl → List Addr → Prop
  | any (v : V) : ResAt K G H v .any []
  | dat {v : V} {d : D} : Rep K G v d → ResAt K G H v (.dat d) []
  | own {a : Addr} {o : Own} {f : List Addr} : OwnAt K G H a o f → ResAt K G H (.ref a) (.own o) f
/-- H without fp -/
def less (H : Hp) (fp : List Addr) : Hp := fun z => if z ∈ fp then none else H z
/-- what a call does to the heap -/
structure Aft (K : PySem.W.Frag) (G H : Hp) (fp : List Addr) (vs : List V) (as : List Ax) (os : List Own) (G' H' : Hp) : Prop where
  g : Ex G G'
  gh : Ex G' H'
  keep : ∀ z u, z ∉ fp → H z = some u → H' z = some u
  fr : ∀ z u, G' z = some u → G z = some u ∨ H z = none ∨ z ∈ fp
def spX (K : PySem.W.Frag) (n : Nat) (R : List Ax → Out → Prop) : Sp := fun vs H Q E => vs.length = n ∧ ∃ (G : Hp) (as : List Ax) (fp : List Addr) (q : Out), Ex G H ∧ fp.Nodup ∧ (∀ z ∈ fp, G z = none) ∧ ArsX K G H (less H fp) vs as fp ∧ R as q ∧
  (∀ r os G' H' v fr fp', q = .ret r os → Aft K G H fp vs as os G' H' → IosX K G' H' vs as os fp' → ResAt K G' H' v r fr → (fr ++ fp').Nodup → (∀ z ∈ fr ++ fp', G' z = none ∧ (z ∈ fp ∨ H z = none)) → Q v H') ∧
  (∀ C fs os G' H' d fp', q = .exc C fs os → Aft K G H fp vs as os G' H' → IosX K G' H' vs as os fp' → XdG K G' d fs → fp'.Nodup → (∀ z ∈ fp', G' z = none ∧ (z ∈ fp ∨ H z = none)) → E (.ref C) d H')
structure Fx (P : Program) (w : World) (K : PySem.W.Frag) (mg : Str → Option Value) (base : Heap) (k : Nat) (x : Str) (n : Nat) (R : List Ax → Out → Prop) : Prop where
  ok : ∃ (f : Addr) (fd : FuncData) (ps : List Str), FnOk P w K mg base (L2.CX P w) k f fd ps (spX K n R) ∧ mg x = some (.ref f) ∧ PySem.W.keepIn K (.ref f) = true ∧ Binds K fd ps [] ∧ ps.length = n
end Lk
namespace Lk
open PySem L2
def EX (X : Cx) (ss : List Sl) (e : Expr) (r : Sl) (ss' : List Sl) (xt : Addr → List (Str × D) → List Sl → Prop) : Prop := ∀ (B : Bs) (G : Hp) (σ : St) (H : Hp), Sat X.K B G ss σ H → Takes X (WP X.K B xt) → ∀ Q : VK, (∀ G' H' v, Ex G G' → Sat X.K B G' (r :: ss') (some v :: σ) H' → Q v H') → mE X e σ H Q
section
variable {X : Cx} {k : Nat} {ss ss' : List Sl} {a b e c : Expr} {es : List Expr} {sts : List Stmt} {pos pos' p : Pos} {d : D} {r : Sl} {P : Post} {x : Str} {n : Nat} {xt : Addr → List (Str × D) → List Sl → Prop}
/-- what comes of it is frozen -/
theorem EX.frz {o : Own} (h : EX X ss e (.own o) ss' xt) : EX X ss e (.dat o.dat) ss' xt := fun B G σ H S tk Q q => h B G σ H S tk Q fun G1 H1 v g S1 => by
  obtain ⟨G2, g2, S2⟩ := S1.frz (n := 0) rfl
  exact q G2 H1 v (g.trans g2) S2
end
/-- arguments as they are written: data, lent, a part of a slot that is handed over -/
inductive Ag where
  | dat (d : D)
  | vw (o : Own)
  /-- lent, being data -/
  | vd (o : Own)
  | io (n : Nat) (π : List Stp1)
def axs : List Ag → List Own → List Ax
  | .dat d :: gs, os => .dat d :: axs gs os
  | .vw o :: gs, os => .vw o :: axs gs os
  | .vd o :: gs, os => .vw o :: axs gs os
  | .io _ _ :: gs, o :: os => .io o :: axs gs os
  | _, _ => []
def Ag.ios : List Ag → List (Nat × List Stp1)
  | [] => []
  | .io n π :: gs => (n, π) :: Ag.ios gs
  | _ :: gs => Ag.ios gs
inductive AgsAt (K : PySem.W.Frag) (G H : Hp) (σ : St) : List V → List Ag → List Addr → Prop
  | nil : AgsAt K G H σ [] [] []
  | dat {v : V} {vs : List V} {d : D} {gs : List Ag} {ls : List Addr} : Rep K G v d → AgsAt K G H σ vs gs ls → AgsAt K G H σ (v :: vs) (.dat d :: gs) ls
  | vw {a : Addr} {vs : List V} {o : Own} {gs : List Ag} {ls : List Addr} : Vw K G H a o → AgsAt K G H σ vs gs ls → AgsAt K G H σ (.ref a :: vs) (.vw o :: gs) ls
  | vd {a : Addr} {vs : List V} {o : Own} {gs : List Ag} {ls : List Addr} : Rep K G (.ref a) o.dat → AgsAt K G H σ vs gs ls → AgsAt K G H σ (.ref a :: vs) (.vd o :: gs) ls
  | io {n : Nat} {π : List Stp1} {a l : Addr} {vs : List V} {gs : List Ag} {ls : List Addr} : σ[n]? = some (some (.ref a)) → Reach H a π l → AgsAt K G H σ vs gs ls → AgsAt K G H σ (.ref l :: vs) (.io n π :: gs) (l :: ls)
/-- things at the addresses ls -/
inductive Lents (K : PySem.W.Frag) (G H : Hp) : List Addr → List Own → List Addr → Prop
  | nil : Lents K G H [] [] []
  | cons {l : Addr} {o : Own} {ls : List Addr} {os : List Own} {f fp : List Addr} : OwnAt K G H l o f → Lents K G H ls os fp → Lents K G H (l :: ls) (o :: os) (f ++ fp)
section
variable {K : PySem.W.Frag} {G H G' H' H0 : Hp} {σ : St} {vs : List V} {gs : List Ag} {ls : List Addr}
theorem AgsAt.length (h : AgsAt K G H σ vs gs ls) : vs.length = gs.length := by
  induction h with
  | nil => rfl
  | dat _ _ ih => simp [ih]
  | vw _ _ ih => simp [ih]
  | vd _ _ ih => simp [ih]
  | io _ _ _ ih => simp [ih]
theorem AgsAt.step (h : AgsAt K G H σ vs gs ls) (g : Ex G G') (e : Ex H H') : AgsAt K G' H' σ vs gs ls := by
  induction h with
  | nil => exact .nil
  | dat h1 _ ih => exact .dat (h1.mono g) ih
  | vw h1 _ ih => exact .vw (h1.step g e) ih
  | vd h1 _ ih => exact .vd (h1.mono g) ih
  | io h1 h2 _ ih => exact .io h1 (h2.mono e) ih
theorem AgsAt.none (h : AgsAt K G H σ vs gs ls) : Ag.ios gs = [] → ls = [] := by
  induction h with
  | nil => intro _; rfl
  | dat _ _ ih => exact ih
  | vw _ _ ih => exact ih
  | vd _ _ ih => exact ih
  | io _ _ _ _ => intro e; cases e
theorem AgsAt.one {n : Nat} {π : List Stp1} (h : AgsAt K G H σ vs gs ls) : Ag.ios gs = [(n, π)] → ∃ l a, ls = [l] ∧ σ[n]? = some (some (.ref a)) ∧ Reach H a π l := by
  induction h with
  | nil => intro e; cases e
  | dat _ _ ih => exact ih
  | vw _ _ ih => exact ih
  | vd _ _ ih => exact ih
  | io h1 h2 h3 _ =>
    intro e
    obtain ⟨e1, e2⟩ := List.cons.inj e
    cases e1
    rw [h3.none e2]
    exact ⟨_, _, rfl, h1, h2⟩
theorem AgsAt.two {n m : Nat} {π ρ : List Stp1} (h : AgsAt K G H σ vs gs ls) : Ag.ios gs = [(n, π), (m, ρ)] → ∃ l l' a a', ls = [l, l'] ∧ σ[n]? = some (some (.ref a)) ∧ Reach H a π l ∧ σ[m]? = some (some (.ref a')) ∧ Reach H a' ρ l' := by
  induction h with
  | nil => intro e; cases e
  | dat _ _ ih => exact ih
  | vw _ _ ih => exact ih
  | vd _ _ ih => exact ih
  | io h1 h2 h3 _ =>
    intro e
    obtain ⟨e1, e2⟩ := List.cons.inj e
    cases e1
    obtain ⟨l', a', e3, h4, h5⟩ := h3.one e2
    rw [e3]
    exact ⟨_, _, _, _, rfl, h1, h2, h4, h5⟩
theorem AgsAt.back {K : PySem.W.Frag} {G1 H1 : Hp} (h : AgsAt K G H σ vs gs ls) : ∀ {os os' : List Own} {fp : List Addr}, os.length = ls.length → IosX K G1 H1 vs (axs gs os) os' fp → Lents K G1 H1 ls os' fp := by
  induction h with
  | nil =>
    intro os os' fp e i
    cases os with
    | nil => cases i; exact .nil
    | cons o os => cases e
  | dat h1 _ ih =>
    intro os os' fp e i
    cases i with
    | dat i => exact ih e i
  | vw h1 _ ih =>
    intro os os' fp e i
    cases i with
    | vw i => exact ih e i
  | vd h1 _ ih =>
    intro os os' fp e i
    cases i with
    | vw i => exact ih e i
  | io h1 h2 _ ih =>
    intro os os' fp e i
    cases os with
    | nil => cases e
    | cons o os =>
      cases i with
      | io w i => exact .cons w (ih (by simpa using e) i)
end
end Lk
namespace Lk
open PySem L2
section
variable {K : PySem.W.Frag} {B : Bs} {G G' H H' : Hp} {ss ss' : List Sl} {σ : St} {n m : Nat} {r : Sl} {v : V} {x : Option V}
theorem set_self' {σ : St} {n : Nat} {x : Option V} (e : σ[n]? = some x) : σ.set n x = σ := by
  apply List.ext_getElem?
  intro i
  by_cases h : n = i
  · subst h
    have hl : n < σ.length := (List.getElem?_eq_some_iff.mp e).1
    rw [List.getElem?_set_self hl, e]
  · rw [List.getElem?_set_ne h]
theorem mid_perm {α : Type} (l f w : List α) : (l ++ f ++ w).Perm (f ++ (l ++ w)) := by
  have h : (l ++ f).Perm (f ++ l) := List.perm_append_comm
  have := h.append_right w
  rw [List.append_assoc f l w] at this
  exact this
/-- two owned slots are lent -/
theorem Sat.lend2 {o1 o2 : Own} (S : Sat K B G ss σ H) (hn : ss[n]? = some (.own o1)) (hm : ss[m]? = some (.own o2)) (ne : n ≠ m) : ∃ a1 a2 f1 f2, σ[n]? = some (some (.ref a1)) ∧ σ[m]? = some (some (.ref a2)) ∧ OwnAt K G H a1 o1 f1 ∧ OwnAt K G H a2 o2 f2 ∧ (f1 ++ f2).Nodup ∧ (∀ z ∈ f1 ++ f2, G z = none ∧ B.H0 z = none) ∧
    ∀ G' H' p1 p2 g1 g2 r v fr, Ex G G' → Ex G' H' → (∀ z u, z ∉ f1 ++ f2 → H z = some u → H' z = some u) → (∀ z u, G' z = some u → G z = some u ∨ H z = none ∨ z ∈ f1 ++ f2) → OwnAt K G' H' a1 p1 g1 → OwnAt K G' H' a2 p2 g2 → Piece K B G' H' (some v) r fr → (fr ++ (g1 ++ g2)).Nodup → (∀ z ∈ fr ++ (g1 ++ g2), G' z = none ∧ (z ∈ f1 ++ f2 ∨ H z = none)) →
      Sat K B G' (r :: (ss.set n (.own p1)).set m (.own p2)) (some v :: σ) H' := by
  obtain ⟨fp, q, nd, out⟩ := S.sl
  obtain ⟨x, l, f, w, e1, e2, e3, e4⟩ := q.split hn
  subst e1
  cases e3 with
  | @own a1 _ _ w1 =>
    have q2 := e4 G H (some (.ref a1)) .any [] (.refl G) (fun _ _ => rfl) (.any _)
    rw [set_self' e2] at q2
    have hm2 : (ss.set n Sl.any)[m]? = some (.own o2) := by rw [List.getElem?_set_ne ne]; exact hm
    obtain ⟨x2, l2, f2, w2, d1, d2, d3, d4⟩ := q2.split hm2
    cases d3 with
    | @own a2 _ _ w3 =>
      have p0 := mid_perm l f w
      have nd1 := p0.nodup_iff.mp nd
      rw [List.nodup_append] at nd1
      have d1' : l ++ w = l2 ++ f2 ++ w2 := by rw [← d1]; simp
      rw [d1'] at nd1 p0
      obtain ⟨n1, n2, n3⟩ := nd1
      have n4 := (mid_perm l2 f2 w2).nodup_iff.mp n2
      rw [List.nodup_append] at n4
      obtain ⟨n5, n6, n7⟩ := n4
      have mem : ∀ z, z ∈ l ++ f ++ w ↔ z ∈ f ∨ z ∈ f2 ∨ z ∈ l2 ++ w2 := fun z => by
        rw [p0.mem_iff, List.mem_append, (mid_perm l2 f2 w2).mem_iff, List.mem_append]
      have out' : ∀ z, (z ∈ f ∨ z ∈ f2 ∨ z ∈ l2 ++ w2) → G z = none ∧ B.H0 z = none := fun z hz => out z ((mem z).mpr hz)
      refine ⟨a1, a2, f, f2, e2, d2, w1, w3, ?_, fun z hz => out' z ((List.mem_append.mp hz).elim .inl fun y => .inr (.inl y)), fun G' H' p1 p2 g1 g2 r v fr x1 x2 x3 x4 x5 x6 x7 x8 x9 => ?_⟩
      · rw [List.nodup_append]
        exact ⟨n1, n5, fun a ha b hb e => n3 a ha b (by simp [hb]) e⟩
      have rest : ∀ z ∈ l2 ++ w2, z ∉ f ++ f2 := fun z hz hm => by
        rcases List.mem_append.mp hm with y | y
        · exact n3 z y z (by simp only [List.mem_append] at hz ⊢; exact hz.elim (fun k => .inl (.inl k)) .inr) rfl
        · exact n7 z y z hz rfl
      have there : ∀ z ∈ l2 ++ w2, ∃ u, H z = some u := fun z hz => q.there z ((mem z).mpr (.inr (.inr hz)))
      have same : ∀ z ∈ l2 ++ w2, H' z = H z := fun z hz => by
        obtain ⟨u, hu⟩ := there z hz
        rw [hu, x3 z u (rest z hz) hu]
      have q3 := d4 G' H' (some (.ref a2)) (.own p2) g2 x1 same (.own x6)
      rw [set_self' d2] at q3
      have hl : n < ss.length := (List.getElem?_eq_some_iff.mp hn).1
      have hn3 : ((ss.set n Sl.any).set m (.own p2))[n]? = some .any := by
        rw [List.getElem?_set_ne (Ne.symm ne), List.getElem?_set_self hl]
      obtain ⟨x3', l3, f3, w3', c1, c2, c3, c4⟩ := q3.split hn3
      have f3e : f3 = [] := by cases c3; rfl
      subst f3e
      have q4 := c4 G' H' (some (.ref a1)) (.own p1) g1 (.refl G') (fun _ _ => rfl) (.own x5)
      rw [set_self' e2] at q4
      have es : ((ss.set n Sl.any).set m (.own p2)).set n (.own p1) = (ss.set n (.own p1)).set m (.own p2) := by
        rw [List.set_comm _ _ (Ne.symm ne), List.set_set]
      rw [es] at q4
      have c1' : l3 ++ w3' = l2 ++ g2 ++ w2 := by rw [c1]; simp
      have pp : (l3 ++ g1 ++ w3').Perm (g1 ++ (g2 ++ (l2 ++ w2))) := by
        refine (mid_perm l3 g1 w3').trans ?_
        rw [c1']
        exact (mid_perm l2 g2 w2).append_left g1
      have newOld : ∀ z ∈ fr ++ (g1 ++ g2), z ∉ l2 ++ w2 := fun z hz hm => by
        rcases (x9 z hz).2 with y | y
        · exact rest z hm y
        · obtain ⟨u, hu⟩ := there z hm
          rw [y] at hu
          cases hu
      have h0 : ∀ z ∈ f ++ f2, B.H0 z = none := fun z hz => (out' z ((List.mem_append.mp hz).elim .inl fun y => .inr (.inl y))).2
      refine ⟨⟨S.st.g.trans x1, fun z u hz => ?_, x2, fun z u hz => ?_⟩, S.v0.trans x1, fr ++ (l3 ++ g1 ++ w3'), .cons x7 q4, ?_, fun z hz => ?_⟩
      · exact x3 z u (fun hzg => by rw [h0 z hzg] at hz; cases hz) (S.st.h z u hz)
      · rcases x4 z u hz with y | y | y
        · exact S.st.fr z u y
        · exact .inr (S.st.h.back y)
        · exact .inr (h0 z y)
      · refine (pp.append_left fr).nodup_iff.mpr ?_
        rw [← List.append_assoc g1, ← List.append_assoc fr, List.nodup_append]
        exact ⟨x8, n6, fun a ha b hb e => by subst e; exact newOld a ha hb⟩
      · have hz2 : z ∈ fr ++ (g1 ++ g2) ∨ z ∈ l2 ++ w2 := by
          rcases List.mem_append.mp hz with y | y
          · exact .inl (by simp [y])
          · have y := pp.mem_iff.mp y
            rw [List.mem_append, List.mem_append] at y
            rcases y with y | y | y
            · exact .inl (by simp [y])
            · exact .inl (by simp [y])
            · exact .inr y
        rcases hz2 with y | y
        · refine ⟨(x9 z y).1, ?_⟩
          rcases (x9 z y).2 with k | k
          · exact h0 z k
          · exact S.st.h.back k
        · have zo := out' z (.inr (.inr y))
          refine ⟨?_, zo.2⟩
          cases hG : G' z with
          | none => rfl
          | some u =>
            rcases x4 z u hG with k | k | k
            · rw [zo.1] at k; cases k
            · obtain ⟨u2, hu⟩ := there z y
              rw [k] at hu
              cases hu
            · exact absurd k (rest z y)
end
end Lk
namespace Pk
open Rk Lk
section
variable {ns : List Int} {r : Set' → Int}
def sp (r : Set' → Int) (A : Set') (x : Int) : Prop := r (ad A x) = r A
def mi (A : Set') (y : Int) : Set' := fun x => A x && !decide (x = y)
theorem sp_mono (R : RankF ns r) {A B : Set'} {x : Int} (h : ∀ z ∈ ns, A z = true → B z = true) (hs : sp r A x) : sp r B x := by
  unfold sp at *
  have h1 := R.sub (ad A x) B
  have h2 : r (un (ad A x) B) = r (ad B x) := R.congr fun z hz => by
    have := h z hz
    unfold un ad
    cases hA : A z <;> cases hB : B z <;> simp_all
  have h3 : r A ≤ r (it (ad A x) B) := R.mono fun z hz q => by
    unfold it ad
    rw [q, h z hz q]; rfl
  have h4 := R.ad_le B x
  omega
theorem ind_sub (R : RankF ns r) {J A : Set'} (h : r J = len ns J) (hs : ∀ z ∈ ns, A z = true → J z = true) : r A = len ns A := by
  have h1 := R.sub A (it J (co A))
  have h2 : r (un A (it J (co A))) = r J := R.congr fun z hz => by
    have := hs z hz
    unfold un it co
    cases hA : A z <;> cases hB : J z <;> simp_all
  have h3 := R.nn (it A (it J (co A)))
  have h4 := R.le (it J (co A))
  have h5 := R.le A
  have h6 := len_un ns A (it J (co A))
  have h7 : len ns (un A (it J (co A))) = len ns J := len_congr fun z hz => by
    have := hs z hz
    unfold un it co
    cases hA : A z <;> cases hB : J z <;> simp_all
  have h8 : len ns (it A (it J (co A))) = 0 := by
    have : len ns (it A (it J (co A))) = len ns (fun _ => false) := len_congr fun z _ => by
      unfold it co; cases A z <;> simp
    rw [this]; unfold len; simp
  omega
theorem sp_it (R : RankF ns r) {J A B : Set'} {x : Int} (h : r J = len ns J) (hA : ∀ z ∈ ns, A z = true → J z = true) (hB : ∀ z ∈ ns, B z = true → J z = true) (sA : sp r A x) (sB : sp r B x) : sp r (it A B) x := by
  unfold sp at *
  have h1 := R.sub (ad A x) (ad B x)
  have h2 : r (un (ad A x) (ad B x)) = r (ad (un A B) x) := R.congr fun z hz => by
    unfold un ad
    cases a : A z <;> cases b : B z <;> simp [a, b]
  have h3 : r (it (ad A x) (ad B x)) = r (ad (it A B) x) := R.congr fun z hz => by
    unfold it ad
    cases a : A z <;> cases b : B z <;> simp [a, b]
  have h4 := R.ad_le (un A B) x
  have h5 := R.ad_le (it A B) x
  have a1 := ind_sub R h hA
  have a2 := ind_sub R h hB
  have a3 := ind_sub R h (A := un A B) fun z hz q => by
    unfold un at q
    rcases (Bool.or_eq_true _ _).mp q with w | w
    · exact hA z hz w
    · exact hB z hz w
  have a4 := ind_sub R h (A := it A B) fun z hz q => by
    unfold it at q
    exact hA z hz ((Bool.and_eq_true _ _).mp q).1
  have a5 := len_un ns A B
  omega
/-- spanned without each of some: spanned without them all -/
theorem sp_all (R : RankF ns r) {J : Set'} {x : Int} (h : r J = len ns J) (hs : sp r J x) : ∀ l : List Int, (∀ y ∈ l, sp r (mi J y) x) → sp r (it J (co (st l))) x
  | [], _ => by
    refine sp_mono R (fun z hz q => ?_) hs
    unfold it co st
    simp [q]
  | y :: l, hl => by
    have ih := sp_all R h hs l fun z hz => hl z (by simp [hz])
    have h1 := sp_it R h (A := mi J y) (B := it J (co (st l))) (fun z hz q => by
      unfold mi at q; exact ((Bool.and_eq_true _ _).mp q).1) (fun z hz q => by
      unfold it at q; exact ((Bool.and_eq_true _ _).mp q).1) (hl y (by simp)) ih
    refine sp_mono R (fun z hz q => ?_) h1
    unfold it mi co st at *
    revert q
    by_cases e1 : J z = true <;> by_cases e2 : z = y <;> by_cases e3 : z ∈ l <;> simp [e1, e2, e3]
end
/-- a row of the names, none twice -/
structure Row (ns row : List Int) : Prop where
  nd : row.Nodup
  sub : ∀ x ∈ row, x ∈ ns
structure Fre (ns : List Int) (r : Set' → Int) (l : List Int) : Prop where
  row : Row ns l
  fr : r (st l) = l.length
/-- the test tells what is free -/
def Tells (ns : List Int) (r : Set' → Int) (fr : List Int → Bool) : Prop := ∀ row, Row ns row → fr row = decide (r (st row) = row.length)
def wo (row : List Int) (x : Int) : List Int := row.filter fun y => !decide (y = x)
section
variable {ns : List Int} {r : Set' → Int} {fr : List Int → Bool} {I : List Int} {x y : Int}
theorem Row.len (nd : ns.Nodup) (h : Row ns I) : len ns (st I) = I.length := len_row nd h.nd h.sub
theorem Row.app (h : Row ns I) (hx : x ∈ ns) (hn : x ∉ I) : Row ns (I ++ [x]) := by
  refine ⟨?_, fun y hy => ?_⟩
  · rw [List.nodup_append]
    exact ⟨h.nd, by simp, fun a ha b hb e => by simp at hb; subst hb e; exact hn ha⟩
  · rcases List.mem_append.mp hy with q | q
    · exact h.sub y q
    · simp at q; subst q; exact hx
theorem Row.wo (h : Row ns I) : Row ns (wo I x) := ⟨h.nd.filter _, fun y hy => h.sub y (List.mem_filter.mp hy).1⟩
theorem mem_wo : y ∈ wo I x ↔ y ∈ I ∧ y ≠ x := by
  unfold wo
  rw [List.mem_filter]
  simp
theorem wo_perm (nd : I.Nodup) (hx : x ∈ I) : I.Perm (x :: wo I x) := by
  refine (List.perm_ext_iff_of_nodup nd ?_).mpr fun z => ?_
  · exact List.nodup_cons.mpr ⟨fun q => (mem_wo.mp q).2 rfl, nd.filter _⟩
  · rw [List.mem_cons, mem_wo]
    by_cases e : z = x
    · subst e; simp [hx]
    · simp [e]
theorem st_app (a : List Int) (x : Int) : st (a ++ [x]) = ad (st a) x := by
  funext y
  unfold ad st
  by_cases p : y ∈ a <;> by_cases q : y = x <;> simp [p, q]
theorem st_wo (a : List Int) (x : Int) : st (wo a x) = mi (st a) x := by
  funext y
  unfold mi st
  by_cases p : y ∈ a <;> by_cases q : y = x <;> simp [mem_wo, p, q]
theorem Fre.ind (nd : ns.Nodup) (h : Fre ns r I) : r (st I) = len ns (st I) := by rw [h.fr, h.row.len nd]
theorem mi_sub {J : Set'} : ∀ z ∈ ns, mi J y z = true → J z = true := fun z _ q => by
  unfold mi at q; exact ((Bool.and_eq_true _ _).mp q).1
/-- not free with x in the place of y: spanned -/
theorem not_swap (R : RankF ns r) (nd : ns.Nodup) (T : Tells ns r fr) (h : Fre ns r I) (hy : y ∈ I) (hx : x ∈ ns) (hn : x ∉ I) (hf : fr (wo I y ++ [x]) = false) : sp r (mi (st I) y) x := by
  have h1 : Row ns (wo I y ++ [x]) := h.row.wo.app hx fun q => hn (mem_wo.mp q).1
  rw [T _ h1, st_app, st_wo] at hf
  have hf := of_decide_eq_false hf
  have h2 := R.ad_le (mi (st I) y) x
  have h3 := R.up nd (A := mi (st I) y) hx
  have h4 := ind_sub R (h.ind nd) (A := mi (st I) y) mi_sub
  have h5 : len ns (mi (st I) y) = (wo I y).length := by rw [← st_wo]; exact h.row.wo.len nd
  rw [List.length_append] at hf
  simp only [List.length_cons, List.length_nil] at hf
  unfold sp
  push_cast at hf
  omega
theorem swap_not (R : RankF ns r) (nd : ns.Nodup) (T : Tells ns r fr) (h : Fre ns r I) (hy : y ∈ I) (hx : x ∈ ns) (hn : x ∉ I) (hf : fr (wo I y ++ [x]) = true) : ¬ sp r (mi (st I) y) x := by
  have h1 : Row ns (wo I y ++ [x]) := h.row.wo.app hx fun q => hn (mem_wo.mp q).1
  rw [T _ h1, st_app, st_wo] at hf
  have hf := of_decide_eq_true hf
  have h4 := ind_sub R (h.ind nd) (A := mi (st I) y) mi_sub
  have h5 : len ns (mi (st I) y) = (wo I y).length := by rw [← st_wo]; exact h.row.wo.len nd
  rw [List.length_append] at hf
  simp only [List.length_cons, List.length_nil] at hf
  unfold sp
  push_cast at hf
  omega
theorem not_more (R : RankF ns r) (nd : ns.Nodup) (T : Tells ns r fr) (h : Fre ns r I) (hx : x ∈ ns) (hn : x ∉ I) (hf : fr (I ++ [x]) = false) : sp r (st I) x := by
  have h1 : Row ns (I ++ [x]) := h.row.app hx hn
  rw [T _ h1, st_app] at hf
  have hf := of_decide_eq_false hf
  have h2 := R.ad_le (st I) x
  have h3 := R.up nd (A := st I) hx
  have h4 := h.fr
  rw [List.length_append] at hf
  simp only [List.length_cons, List.length_nil] at hf
  unfold sp
  push_cast at hf
  omega
end
end Pk
namespace Pk
open Rk Lk
abbrev Cm := List (Int × Option (Int × Int))
abbrev keys (c : Cm) : List Int := c.map (·.1)
abbrev rw' (rows : List (List Int)) (k : Int) : List Int := at0 [] rows k
def swp1 (rows : List (List Int)) (k name p : Int) : List (List Int) := rows.set k.toNat (wo (rw' rows k) name ++ [p])
theorem nodup_ix {l : List Int} (nd : l.Nodup) {i j : Nat} {x : Int} (h1 : l[i]? = some x) (h2 : l[j]? = some x) : i = j := by
  have a := List.getElem?_eq_some_iff.mp h1
  have b := List.getElem?_eq_some_iff.mp h2
  obtain ⟨a1, a2⟩ := a
  obtain ⟨b1, b2⟩ := b
  have pw := List.pairwise_iff_getElem.mp nd
  rcases Nat.lt_trichotomy i j with z | z | z
  · exact absurd (a2.trans b2.symm) (pw i j a1 b1 z)
  · exact z
  · exact absurd (b2.trans a2.symm) (pw j i b1 a1 z)
section
variable {ns : List Int} {r : Set' → Int} {fr : List Int → Bool} {rows : List (List Int)} {S : List Int}
/-- an edge of the search: x of row k is put out by p -/
structure Edge (fr : List Int → Bool) (rows : List (List Int)) (c : Cm) (j : Nat) (x p k : Int) (i : Nat) : Prop where
  lt : i < j
  at_ : (keys c)[i]? = some p
  k01 : k = 0 ∨ k = 1
  x_in : x ∈ rw' rows k
  p_out : p ∉ rw' rows k
  full : fr (rw' rows k ++ [p]) = false
  swap : fr (wo (rw' rows k) x ++ [p]) = true
  first : ∀ i' q, i' < i → (keys c)[i']? = some q → q ∉ rw' rows k → fr (wo (rw' rows k) x ++ [q]) = false
structure CInv (ns : List Int) (fr : List Int → Bool) (rows : List (List Int)) (S : List Int) (c : Cm) (n : Nat) : Prop where
  nd : (keys c).Nodup
  sub : ∀ x ∈ keys c, x ∈ ns
  start : ∀ x, (x, none) ∈ c → x ∈ S
  starts : ∀ x ∈ S, x ∈ keys c
  from' : ∀ x ∈ keys c, x ∈ S ∨ x ∈ rw' rows 0 ∨ x ∈ rw' rows 1
  edge : ∀ j x p k, c[j]? = some (x, some (p, k)) → ∃ i, i ≤ n ∧ Edge fr rows c j x p k i
  done : ∀ i q, i < n → (keys c)[i]? = some q → ∀ k, k = 0 ∨ k = 1 → q ∈ rw' rows k ∨ (fr (rw' rows k ++ [q]) = false ∧ ∀ y ∈ rw' rows k, fr (wo (rw' rows k) y ++ [q]) = true → y ∈ keys c)
theorem keys_app (c : Cm) (e : Int × Option (Int × Int)) : keys (c ++ [e]) = keys c ++ [e.1] := by unfold keys; rw [List.map_append]; rfl
theorem get_app {α : Type} {l : List α} {a x : α} {i : Nat} (h : l[i]? = some x) : (l ++ [a])[i]? = some x := by
  have := (List.getElem?_eq_some_iff.mp h).1
  rw [List.getElem?_append_left this, h]
/-- one more name met -/
theorem CInv.add {c : Cm} {n : Nat} {o name k : Int} (C : CInv ns fr rows S c n) (hrow : ∀ x ∈ rw' rows k, x ∈ ns) (hk : k = 0 ∨ k = 1) (hn : (keys c)[n]? = some name) (ho : o ∈ rw' rows k) (hnew : o ∉ keys c)
    (hout : name ∉ rw' rows k) (hfull : fr (rw' rows k ++ [name]) = false) (hs : fr (wo (rw' rows k) o ++ [name]) = true) : CInv ns fr rows S (c ++ [(o, some (name, k))]) n := by
  have hkeys : keys (c ++ [(o, some (name, k))]) = keys c ++ [o] := keys_app c _
  have hnl : n < c.length := by
    have := (List.getElem?_eq_some_iff.mp hn).1
    rw [List.length_map] at this
    exact this
  refine ⟨?_, fun x hx => ?_, fun x hx => ?_, fun x hx => ?_, fun x hx => ?_, fun j x p k' hj => ?_, fun i q hi hq k' hk' => ?_⟩
  · rw [hkeys, List.nodup_append]
    exact ⟨C.nd, by simp, fun a ha b hb e => by simp at hb; subst hb e; exact hnew ha⟩
  · rw [hkeys, List.mem_append] at hx
    rcases hx with hx | hx
    · exact C.sub x hx
    · simp at hx; subst hx; exact hrow _ ho
  · rcases List.mem_append.mp hx with hx | hx
    · exact C.start x hx
    · simp at hx
  · rw [hkeys]; exact List.mem_append_left _ (C.starts x hx)
  · rw [hkeys, List.mem_append] at hx
    rcases hx with hx | hx
    · exact C.from' x hx
    · simp at hx; subst hx
      rcases hk with e | e <;> subst e
      · exact .inr (.inl ho)
      · exact .inr (.inr ho)
  · by_cases hjl : j < c.length
    · rw [List.getElem?_append_left hjl] at hj
      obtain ⟨i, h1, E⟩ := C.edge j x p k' hj
      refine ⟨i, h1, E.lt, by rw [hkeys]; exact get_app E.at_, E.k01, E.x_in, E.p_out, E.full, E.swap, fun i' q hi' hq hqo => ?_⟩
      have hil : i < (keys c).length := (List.getElem?_eq_some_iff.mp E.at_).1
      rw [hkeys, List.getElem?_append_left (by omega)] at hq
      exact E.first i' q hi' hq hqo
    · have hj' : j = c.length := by
        have := (List.getElem?_eq_some_iff.mp hj).1
        rw [List.length_append] at this
        simp at this
        omega
      subst hj'
      rw [List.getElem?_append_right (Nat.le_refl _), Nat.sub_self] at hj
      simp at hj
      obtain ⟨rfl, rfl, rfl⟩ := hj
      refine ⟨n, Nat.le_refl _, hnl, by rw [hkeys]; exact get_app hn, hk, ho, hout, hfull, hs, fun i' q hi' hq hqo => ?_⟩
      have hil : n < (keys c).length := (List.getElem?_eq_some_iff.mp hn).1
      rw [hkeys, List.getElem?_append_left (by omega)] at hq
      rcases C.done i' q hi' hq k hk with z | ⟨_, z⟩
      · exact absurd z hqo
      · cases e : fr (wo (rw' rows k) o ++ [q])
        · rfl
        · exact absurd (z o ho e) hnew
  · have hil : n < (keys c).length := (List.getElem?_eq_some_iff.mp hn).1
    rw [hkeys, List.getElem?_append_left (by omega)] at hq
    rcases C.done i q hi hq k' hk' with z | ⟨z1, z2⟩
    · exact .inl z
    · exact .inr ⟨z1, fun y hy e => by rw [hkeys]; exact List.mem_append_left _ (z2 y hy e)⟩
end
end Pk
namespace Pk
open Rk Lk
section
variable {ns : List Int} {r : Set' → Int} {fr : List Int → Bool} {I0 I1 : List Int} {S : List Int} {c : Cm}
/-- two free rows, no name in both -/
structure Two (ns : List Int) (r : Set' → Int) (I0 I1 : List Int) : Prop where
  f0 : Fre ns r I0
  f1 : Fre ns r I1
theorem Two.get (t : Two ns r I0 I1) {k : Int} (hk : k = 0 ∨ k = 1) : Fre ns r (rw' [I0, I1] k) := by
  rcases hk with e | e <;> subst e
  · exact t.f0
  · exact t.f1
/-- spanned by a row less some names that the search does not put out -/
theorem sp_less (R : RankF ns r) (nd : ns.Nodup) (T : Tells ns r fr) {I : List Int} (h : Fre ns r I) {x : Int} (hx : x ∈ ns) (hn : x ∉ I) (hf : fr (I ++ [x]) = false) (l : List Int) (hl : ∀ y ∈ l, y ∈ I → fr (wo I y ++ [x]) = false) : sp r (it (st I) (co (st l))) x := by
  refine sp_all R (h.ind nd) (not_more R nd T h hx hn hf) l fun y hy => ?_
  by_cases hyI : y ∈ I
  · exact not_swap R nd T h hyI hx hn (hl y hy hyI)
  · refine sp_mono R (fun z _ q => ?_) (not_more R nd T h hx hn hf)
    unfold mi
    have : z ≠ y := fun e => by
      subst e
      unfold st at q
      simp [hyI] at q
    simp [q, this]
/-- the rows on the way back -/
structure SInv (ns : List Int) (r : Set' → Int) (fr : List Int → Bool) (I0 I1 : List Int) (c : Cm) (J0 J1 : List Int) (z : Int) (i : Nat) : Prop where
  two : Two ns r J0 J1
  perm : (J0 ++ J1).Perm (z :: (I0 ++ I1))
  zin : z ∉ I0 ++ I1 → True
  way : ∃ T : Int → List Int, ∀ k, k = 0 ∨ k = 1 →
    (∀ x ∈ rw' [I0, I1] k, x ∉ T k → x ∈ rw' [J0, J1] k) ∧
    (∀ x ∈ T k, ∃ (j : Nat) (p : Int) (i' : Nat), c[j]? = some (x, some (p, k)) ∧ (keys c)[i']? = some p ∧ i ≤ i') ∧
    (∀ x ∈ rw' [J0, J1] k, x ∈ rw' [I0, I1] k ∨ ∃ j : Nat, i ≤ j ∧ (keys c)[j]? = some x)
theorem perm_step {J0 J1 L : List Int} {z p k : Int} (hk : k = 0 ∨ k = 1) (nd : (rw' [J0, J1] k).Nodup) (hz : z ∈ rw' [J0, J1] k) (h : (J0 ++ J1).Perm (z :: L)) : (rw' (swp1 [J0, J1] k z p) 0 ++ rw' (swp1 [J0, J1] k z p) 1).Perm (p :: L) := by
  rcases hk with e | e <;> subst e
  · show ((wo J0 z ++ [p]) ++ J1).Perm (p :: L)
    have h1 := wo_perm nd hz
    have h2 : (z :: (wo J0 z ++ J1)).Perm (z :: L) := ((h1.append_right J1).symm.trans h)
    have h3 := h2.cons_inv
    have h4 : ((wo J0 z ++ [p]) ++ J1).Perm (p :: (wo J0 z ++ J1)) := by
      rw [List.append_assoc]
      exact List.perm_middle
    exact h4.trans (h3.cons p)
  · show (J0 ++ (wo J1 z ++ [p])).Perm (p :: L)
    have h1 : J1.Perm (z :: wo J1 z) := wo_perm nd hz
    have h2 : (z :: (J0 ++ wo J1 z)).Perm (z :: L) := (List.perm_middle.symm.trans (h1.append_left J0).symm).trans h
    have h3 := h2.cons_inv
    have h4 : (J0 ++ (wo J1 z ++ [p])).Perm (p :: (J0 ++ wo J1 z)) := by
      rw [← List.append_assoc]
      exact List.perm_append_comm
    exact h4.trans (h3.cons p)
/-- one step on the way back -/
theorem SInv.step (R : RankF ns r) (nd : ns.Nodup) (T : Tells ns r fr) (t : Two ns r I0 I1) {n : Nat} (C : CInv ns fr [I0, I1] S c n) {J0 J1 : List Int} {z p k : Int} {i i' : Nat} (s : SInv ns r fr I0 I1 c J0 J1 z i) (hi : (keys c)[i]? = some z)
    (E : Edge fr [I0, I1] c i z p k i') (hz : c[i]? = some (z, some (p, k))) : ∃ K0 K1, swp1 [J0, J1] k z p = [K0, K1] ∧ SInv ns r fr I0 I1 c K0 K1 p i' := by
  obtain ⟨W, hW⟩ := s.way
  have hk := E.k01
  obtain ⟨w1, w2, w3⟩ := hW k hk
  have hI := t.get hk
  have hJ := s.two.get hk
  have hpn : p ∈ ns := C.sub p (List.mem_of_getElem? E.at_)
  have hzT : z ∉ W k := fun q => by
    obtain ⟨j, p', i2, q1, q2, q3⟩ := w2 z q
    have hj : j = i := nodup_ix C.nd (show (keys c)[j]? = some z by rw [List.getElem?_map, q1]; rfl) hi
    subst hj
    rw [hz] at q1
    cases q1
    have := nodup_ix C.nd q2 E.at_
    have := E.lt
    omega
  have hzJ : z ∈ rw' [J0, J1] k := w1 z E.x_in hzT
  have hpJ : p ∉ rw' [J0, J1] k := fun q => by
    rcases w3 p q with q | ⟨j, q1, q2⟩
    · exact E.p_out q
    · have := nodup_ix C.nd q2 E.at_
      have := E.lt
      omega
  -- the new row is free
  have hrow : Row ns (wo (rw' [J0, J1] k) z ++ [p]) := hJ.row.wo.app hpn fun q => hpJ (mem_wo.mp q).1
  have hfre : Fre ns r (wo (rw' [J0, J1] k) z ++ [p]) := by
    refine ⟨hrow, ?_⟩
    have hns : ¬ sp r (mi (st (rw' [J0, J1] k)) z) p := fun q => by
      have h1 : sp r (it (st (rw' [I0, I1] k)) (co (st (W k)))) p := sp_less R nd T hI hpn E.p_out E.full (W k) fun y hy hyI => by
        obtain ⟨j, p', i2, q1, q2, q3⟩ := w2 y hy
        obtain ⟨i3, _, E'⟩ := C.edge j y p' k q1
        have : i3 = i2 := nodup_ix C.nd E'.at_ q2
        subst this
        have := E.lt
        exact E'.first i' p (by omega) E.at_ E.p_out
      have h2 := sp_it R (hJ.ind nd) (A := mi (st (rw' [J0, J1] k)) z) (B := it (st (rw' [I0, I1] k)) (co (st (W k)))) mi_sub (fun x _ q => by
        unfold it co st at q
        have q' : x ∈ rw' [I0, I1] k ∧ x ∉ W k := by simpa using q
        unfold st
        exact decide_eq_true (w1 x q'.1 q'.2)) q h1
      refine swap_not R nd T hI E.x_in hpn E.p_out E.swap (sp_mono R (fun x _ q => ?_) h2)
      unfold it mi co st at *
      revert q
      by_cases a1 : x ∈ rw' [J0, J1] k <;> by_cases a2 : x ∈ rw' [I0, I1] k <;> by_cases a3 : x = z <;> by_cases a4 : x ∈ W k <;> simp [a1, a2, a3, a4]
    have h3 := R.up nd (A := mi (st (rw' [J0, J1] k)) z) hpn
    have h4 := R.ad_le (mi (st (rw' [J0, J1] k)) z) p
    have h5 := ind_sub R (hJ.ind nd) (A := mi (st (rw' [J0, J1] k)) z) mi_sub
    have h6 : len ns (mi (st (rw' [J0, J1] k)) z) = (wo (rw' [J0, J1] k) z).length := by rw [← st_wo]; exact hJ.row.wo.len nd
    rw [st_app, st_wo, List.length_append]
    simp only [List.length_cons, List.length_nil]
    unfold sp at hns
    push_cast
    omega
  have hperm := perm_step (p := p) hk hJ.row.nd hzJ s.perm
  -- both rows
  let W' : Int → List Int := fun k' => if k' = k then z :: W k else W k'
  have common : ∀ k', (k' = 0 ∨ k' = 1) → k' ≠ k → (∀ x ∈ rw' [I0, I1] k', x ∉ W' k' → x ∈ rw' [J0, J1] k') ∧ (∀ x ∈ W' k', ∃ (j : Nat) (p' : Int) (i2 : Nat), c[j]? = some (x, some (p', k')) ∧ (keys c)[i2]? = some p' ∧ i' ≤ i2) ∧ (∀ x ∈ rw' [J0, J1] k', x ∈ rw' [I0, I1] k' ∨ ∃ j : Nat, i' ≤ j ∧ (keys c)[j]? = some x) := fun k' hk' hne => by
    obtain ⟨u1, u2, u3⟩ := hW k' hk'
    have hW' : W' k' = W k' := if_neg hne
    rw [hW']
    have := E.lt
    refine ⟨u1, fun x hx => ?_, fun x hx => ?_⟩
    · obtain ⟨j, p', i2, q1, q2, q3⟩ := u2 x hx
      exact ⟨j, p', i2, q1, q2, by omega⟩
    · rcases u3 x hx with q | ⟨j, q1, q2⟩
      · exact .inl q
      · exact .inr ⟨j, by omega, q2⟩
  have own : (∀ x ∈ rw' [I0, I1] k, x ∉ W' k → x ∈ wo (rw' [J0, J1] k) z ++ [p]) ∧ (∀ x ∈ W' k, ∃ (j : Nat) (p' : Int) (i2 : Nat), c[j]? = some (x, some (p', k)) ∧ (keys c)[i2]? = some p' ∧ i' ≤ i2) ∧ (∀ x ∈ wo (rw' [J0, J1] k) z ++ [p], x ∈ rw' [I0, I1] k ∨ ∃ j : Nat, i' ≤ j ∧ (keys c)[j]? = some x) := by
    have hW' : W' k = z :: W k := if_pos rfl
    rw [hW']
    have := E.lt
    refine ⟨fun x hx hn => ?_, fun x hx => ?_, fun x hx => ?_⟩
    · rw [List.mem_cons, not_or] at hn
      exact List.mem_append_left _ (mem_wo.mpr ⟨w1 x hx hn.2, hn.1⟩)
    · rcases List.mem_cons.mp hx with e | e
      · subst e; exact ⟨i, p, i', hz, E.at_, Nat.le_refl _⟩
      · obtain ⟨j, p', i2, q1, q2, q3⟩ := w2 x e
        exact ⟨j, p', i2, q1, q2, by omega⟩
    · rcases List.mem_append.mp hx with e | e
      · rcases w3 x (mem_wo.mp e).1 with q | ⟨j, q1, q2⟩
        · exact .inl q
        · exact .inr ⟨j, by omega, q2⟩
      · simp at e; subst e; exact .inr ⟨i', Nat.le_refl _, E.at_⟩
  rcases hk with e | e
  · subst e
    refine ⟨wo J0 z ++ [p], J1, rfl, ⟨hfre, s.two.f1⟩, hperm, fun _ => trivial, W', fun k' hk' => ?_⟩
    rcases hk' with e | e <;> subst e
    · exact own
    · exact common 1 (.inr rfl) (by decide)
  · subst e
    refine ⟨J0, wo J1 z ++ [p], rfl, ⟨s.two.f0, hfre⟩, hperm, fun _ => trivial, W', fun k' hk' => ?_⟩
    rcases hk' with e | e <;> subst e
    · exact common 0 (.inl rfl) (by decide)
    · exact own
/-- nothing fits: the names met are a bar -/
structure Bar (ns : List Int) (r : Set' → Int) (I0 I1 S w : List Int) : Prop where
  row : Row ns w
  starts : ∀ x ∈ S, x ∈ w
  from' : ∀ x ∈ w, x ∈ S ∨ x ∈ I0 ∨ x ∈ I1
  r0 : r (st w) = len ns (it (st I0) (st w))
  r1 : r (st w) = len ns (it (st I1) (st w))
theorem nodup_len : ∀ {l m : List Int}, l.Nodup → (∀ x ∈ l, x ∈ m) → l.length ≤ m.length
  | [], _, _, _ => Nat.zero_le _
  | a :: l, m, nd, h => by
    have nd' := List.nodup_cons.mp nd
    have h1 : l.length ≤ (m.erase a).length := nodup_len nd'.2 fun x hx => (List.mem_erase_of_ne (fun e : x = a => nd'.1 (e ▸ hx))).mpr (h x (by simp [hx]))
    have h2 := List.length_erase_of_mem (h a (by simp))
    have h3 : 0 < m.length := List.length_pos_of_mem (h a (by simp))
    rw [List.length_cons]
    omega
end
end Pk
namespace Pk
open Rk Lk
section
variable {ns : List Int} {r : Set' → Int} {fr : List Int → Bool} {I0 I1 K0 K1 L : List Int} {x : Int}
theorem st_perm {a b : List Int} (h : a.Perm b) : st a = st b := by
  funext x
  unfold st
  rw [decide_eq_decide]
  exact h.mem_iff
theorem Row.perm {a b : List Int} (h : Row ns a) (p : a.Perm b) : Row ns b := ⟨p.nodup_iff.mp h.nd, fun x hx => h.sub x (p.mem_iff.mpr hx)⟩
theorem Fre.perm {a b : List Int} (h : Fre ns r a) (p : a.Perm b) : Fre ns r b := ⟨h.row.perm p, by rw [← st_perm p, h.fr, p.length_eq]⟩
theorem cut_st (nd : ns.Nodup) (h : Row ns I0) (B : Set') : len ns (it (st I0) B) = (I0.filter B).length := by
  have h1 : Row ns (I0.filter B) := ⟨h.nd.filter _, fun x hx => h.sub x (List.mem_filter.mp hx).1⟩
  rw [← h1.len nd]
  refine len_congr fun x _ => ?_
  unfold it st
  by_cases a : x ∈ I0 <;> cases b : B x <;> simp [List.mem_filter, a, b]
/-- nothing makes room for x -/
def Blk (r : Set' → Int) (I0 I1 : List Int) (x : Int) : Prop := ∃ B : Set', B x = true ∧ 2 * r B ≤ (((I0 ++ I1).filter B).length : Int)
theorem Bar.blk (nd : ns.Nodup) (t : Two ns r I0 I1) {S w : List Int} (b : Bar ns r I0 I1 S w) (hx : x ∈ w) : Blk r I0 I1 x := by
  refine ⟨st w, by unfold st; simpa using hx, ?_⟩
  have h1 := b.r0
  have h2 := b.r1
  rw [cut_st nd t.f0.row] at h1
  rw [cut_st nd t.f1.row] at h2
  rw [List.filter_append, List.length_append]
  push_cast
  omega
/-- what packed tells -/
structure Packd (ns : List Int) (r : Set' → Int) (row : List Int) (q : List Int × List Int × List Int) : Prop where
  two : Two ns r q.1 q.2.1
  left : ∃ L, ((q.1 ++ q.2.1) ++ L).Perm row ∧ Bar ns r q.1 q.2.1 L q.2.2 ∧ ∀ x ∈ L, Blk r q.1 q.2.1 x
  s0 : ∃ l, q.1 = srt l
  s1 : ∃ l, q.2.1 = srt l
  s2 : ∃ l, q.2.2 = srt l
theorem Two.perm (t : Two ns r I0 I1) (p0 : I0.Perm K0) (p1 : I1.Perm K1) : Two ns r K0 K1 := ⟨t.f0.perm p0, t.f1.perm p1⟩
theorem Blk.perm (b : Blk r I0 I1 x) (p : (I0 ++ I1).Perm (K0 ++ K1)) : Blk r K0 K1 x := by
  obtain ⟨B, h1, h2⟩ := b
  exact ⟨B, h1, by rw [← (p.filter B).length_eq]; exact h2⟩
section
variable {row : List Int} {q : List Int × List Int × List Int}
theorem Packd.le (h : Packd ns r row q) : q.1.length + q.2.1.length ≤ row.length := by
  obtain ⟨L, p, _, _⟩ := h.left
  have := p.length_eq
  rw [List.length_append, List.length_append] at this
  omega
/-- all of it where there are two free rows of all of it -/
theorem Packd.all (h : Packd ns r row q) (hl : row.length ≤ q.1.length + q.2.1.length) : (q.1 ++ q.2.1).Perm row := by
  obtain ⟨L, p, _, _⟩ := h.left
  have := p.length_eq
  rw [List.length_append, List.length_append] at this
  have hL : L = [] := List.eq_nil_of_length_eq_zero (by omega)
  rw [hL, List.append_nil] at p
  exact p
end
end
end Pk
namespace Pk
open Rk Lk
section
variable {ns : List Int} {fr : List Int → Bool} {rows : List (List Int)} {S : List Int} {c : Cm}
theorem CInv.len {n : Nat} (C : CInv ns fr rows S c n) : c.length ≤ S.length + (rw' rows 0).length + (rw' rows 1).length := by
  have h2 : (keys c).length ≤ (S ++ (rw' rows 0 ++ rw' rows 1)).length := nodup_len C.nd fun x hx => by
    rw [List.mem_append, List.mem_append]
    exact C.from' x hx
  rw [List.length_append, List.length_append, List.length_map] at h2
  omega
end
end Pk
namespace Pk
open Rk Lk
end Pk
namespace Lk
open PySem L2 Pk
end Lk
namespace Lk
open PySem L2 Pk
end Lk
namespace Lk
open PySem L2
end Lk
namespace Lk
open PySem L2
end Lk
namespace Lk
open PySem L2
end Lk
namespace Lk
open PySem L2
theorem Fx.sub {P : Program} {w : World} {K : PySem.W.Frag} {mg : Str → Option Value} {base : Heap} {k n : Nat} {x : Str} {R R' : List Ax → Out → Prop} (F : Fx P w K mg base k x n R) (h : ∀ as q, R' as q → R as q) : Fx P w K mg base k x n R' := by
  obtain ⟨f, fd, ps, hF, hm, hk, hb, hl⟩ := F.ok
  exact ⟨f, fd, ps, hF.imp (fun vs H Q E q => by
    obtain ⟨h1, G, as, os, fp, e, h2, h3, h4, h5, h6⟩ := q
    exact ⟨h1, G, as, os, fp, e, h2, h3, h4, h _ _ h5, h6⟩), hm, hk, hb, hl⟩
end Lk
namespace Lk
open PySem L2
structure EqP {α : Type} [DecidableEq α] (en : α → D) (d : Nat) : Prop where
  eqv : ∀ x y, PyData.eqv (en x).py (en y).py = decide (x = y)
  plain : ∀ x, (en x).plain = true
  can : ∀ x, PyData.canLay0 (en x).py = true
  dep : ∀ x, PyData.depth (en x).py ≤ d
theorem EqP.int : EqP D.int 1 := ⟨fun x y => by simp only [D.py, PyData.eqv]; by_cases h : x = y <;> simp [h], fun _ => rfl, fun _ => rfl, fun _ => by simp [D.py, PyData.depth]⟩
theorem EqP.bl : EqP D.bl 1 := ⟨fun x y => by simp only [D.py, PyData.eqv]; cases x <;> cases y <;> rfl, fun _ => rfl, fun _ => rfl, fun _ => by simp [D.py, PyData.depth]⟩
section
variable {α β γ : Type} [DecidableEq α] [DecidableEq β] [DecidableEq γ] {en : α → D} {en2 : β → D} {en3 : γ → D} {d d2 d3 : Nat}
theorem pyL_map (xs : List α) : pyL (xs.map en) = xs.map fun x => (en x).py := by
  induction xs with
  | nil => rfl
  | cons x xs ih => simp only [List.map_cons, pyL, ih]
theorem EqP.all (P : EqP en d) : ∀ a b : List α, PyData.eqvAll (a.map fun x => (en x).py) (b.map fun x => (en x).py) = decide (a = b)
  | [], [] => by simp [PyData.eqvAll]
  | [], _ :: _ => by simp [PyData.eqvAll]
  | _ :: _, [] => by simp [PyData.eqvAll]
  | x :: a, y :: b => by
    simp only [List.map_cons, PyData.eqvAll, P.eqv, EqP.all P a b]
    by_cases h : x = y
    · subst h; simp
    · simp [h]
theorem EqP.canL (P : EqP en d) : ∀ a : List α, PyData.canLayAll0 (a.map fun x => (en x).py) = true
  | [] => rfl
  | x :: a => by simp only [List.map_cons, PyData.canLayAll0, P.can, EqP.canL P a, Bool.and_self]
theorem EqP.depL (P : EqP en d) : ∀ a : List α, PyData.depthAll (a.map fun x => (en x).py) ≤ d
  | [] => by simp [PyData.depthAll]
  | x :: a => by
    have := EqP.depL P a
    have := P.dep x
    simp only [List.map_cons, PyData.depthAll]
    omega
theorem EqP.plL (P : EqP en d) : ∀ a : List α, plainL (a.map en) = true
  | [] => rfl
  | x :: a => by simp only [List.map_cons, plainL, P.plain, EqP.plL P a, Bool.and_self]
theorem EqP.lst (P : EqP en d) : EqP (fun xs : List α => D.lst (xs.map en)) (d + 1) :=
  ⟨fun x y => by simp only [D.py, PyData.eqv, pyL_map, P.all], fun x => by simp only [D.plain, P.plL], fun x => by simp only [D.py, pyL_map, PyData.canLay0, P.canL], fun x => by
    have := P.depL x
    simp only [D.py, pyL_map, PyData.depth]
    omega⟩
theorem EqP.pr (P : EqP en d) (P2 : EqP en2 d2) : EqP (fun x : α × β => D.tup [en x.1, en2 x.2]) (d + d2 + 2) :=
  ⟨fun x y => by
    simp only [D.py, PyData.eqv, pyL, PyData.eqvAll, P.eqv, P2.eqv, Bool.and_true]
    rw [← Bool.decide_and, decide_eq_decide, Prod.ext_iff], fun x => by simp [D.plain, plainL, P.plain, P2.plain], fun x => by simp [D.py, pyL, PyData.canLay0, PyData.canLayAll0, P.can, P2.can], fun x => by
    have := P.dep x.1
    have := P2.dep x.2
    simp only [D.py, pyL, PyData.depth, PyData.depthAll]
    omega⟩
theorem EqP.tr (P : EqP en d) (P2 : EqP en2 d2) (P3 : EqP en3 d3) : EqP (fun x : α × β × γ => D.tup [en x.1, en2 x.2.1, en3 x.2.2]) (d + d2 + d3 + 3) :=
  ⟨fun x y => by
    simp only [D.py, PyData.eqv, pyL, PyData.eqvAll, P.eqv, P2.eqv, P3.eqv, Bool.and_true]
    rw [← Bool.decide_and, ← Bool.decide_and, decide_eq_decide, Prod.ext_iff, Prod.ext_iff], fun x => by simp [D.plain, plainL, P.plain, P2.plain, P3.plain], fun x => by simp [D.py, pyL, PyData.canLay0, PyData.canLayAll0, P.can, P2.can, P3.can], fun x => by
    have := P.dep x.1
    have := P2.dep x.2.1
    have := P3.dep x.2.2
    simp only [D.py, pyL, PyData.depth, PyData.depthAll]
    omega⟩
theorem EqP.ok (P : EqP en d) (h : d ≤ 64) (x : α) : EqOk (en x) := ⟨P.plain x, by
  unfold SeqAt.shaped
  have := P.dep x
  simp only [P.can, Bool.true_and, decide_eq_true_eq]
  omega⟩
variable {X : Cx} {k : Nat} {ss : List Sl} {a b : Expr} {x y : α}
theorem ec_eqP (P : EqP en d) (x y : α) (cx : Ctx X k) (ha : EE X ss a (.dat (en x))) (hb : EE X ss b (.dat (en y))) (h : d ≤ 64 := by decide) : EC X ss .Eq a b (decide (x = y)) := by
  have q := ec_eqD cx ha hb (P.ok h x) (P.ok h y)
  rw [P.eqv] at q
  exact q
theorem ec_neP (P : EqP en d) (x y : α) (cx : Ctx X k) (ha : EE X ss a (.dat (en x))) (hb : EE X ss b (.dat (en y))) (h : d ≤ 64 := by decide) : EC X ss .NotEq a b (!decide (x = y)) := by
  have q := ec_neD cx ha hb (P.ok h x) (P.ok h y)
  rw [P.eqv] at q
  exact q
end
end Lk
namespace Lk
open PySem L2
end Lk
namespace Lk
open PySem L2
section
variable {X : Cx} {k : Nat} {ss ss' : List Sl} {a b e c : Expr} {es : List Expr} {sts : List Stmt} {pos pos' p p2 p3 apos cpos apos2 cpos2 : Pos} {i j : Int} {d : D} {r : Sl} {P : Post} {x y : Str} {n m q : Nat} {o o1 o2 : Own} {ps : List Pt} {ds : List D} {π : List Stp1} {α : Type} {xs ys : List α} {en : α → D} {t : α}
theorem RepL.erase {K : PySem.W.Frag} {G : Hp} {vs : List V} {ds : List D} (h : RepL K G vs ds) (i : Nat) : RepL K G (vs.eraseIdx i) (ds.eraseIdx i) := by
  rw [List.eraseIdx_eq_take_drop_succ, List.eraseIdx_eq_take_drop_succ]
  exact (h.take i).app (h.drop (i + 1))
theorem Sat.apart {K : PySem.W.Frag} {B : Bs} {G H : Hp} {σ : St} {ds ds' : List D} {l l2 : Addr} (S : Sat K B G ss σ H) (hn : ss[n]? = some (.own (.lst ds))) (hm : ss[m]? = some (.own (.lst ds'))) (ne : n ≠ m) (h1 : σ[n]? = some (some (.ref l))) (h2 : σ[m]? = some (some (.ref l2))) : l ≠ l2 := by
  obtain ⟨a1, a2, f1, f2, e1, e2, w1, w2, nd, _⟩ := S.lend2 hn hm ne
  rw [h1] at e1
  rw [h2] at e2
  cases e1
  cases e2
  cases w1
  cases w2
  intro e
  subst e
  simp at nd
end
end Lk
namespace Lk
open PySem L2
section
variable {X : Cx} {k : Nat} {ss ss' : List Sl} {a b e c : Expr} {es : List Expr} {sts : List Stmt} {pos pos' p p2 p3 apos cpos : Pos} {i j : Int} {d : D} {r : Sl} {P : Post} {x y : Str} {n m q : Nat} {o o1 o2 : Own} {ps : List Pt} {ds : List D} {π : List Stp1} {α : Type} {xs ys : List α} {en : α → D} {t : α}
theorem ss_extT (v : VarOk X n x) (hn : ss[n]? = some (.own (.lst (xs.map en)))) (he : EE X ss e (.own (.lst (ys.map en)))) (hl : xs.length + ys.length ≤ 1000) (h : SS X sts (ss.set n (.own (.lst ((xs ++ ys).map en)))) P)
    (hbase : attributeBase (.Name x p) "extend" X.env (eval (.Name x p) X.env) = eval (.Name x p) X.env := by rfl)
    (hfew : ((backTo cpos (starEach [e] X.env)).all (fun x => !x.1) && (backToKw cpos (keywordEach [] X.env)).all (fun x => x.1.isSome)
      && decide (([e] : List Expr).length + ([] : List Keyword).length + (if ([] : List Keyword).isEmpty then 0 else 1) < 30)) = true := by rfl)
    (hline : (apos.endLine == cpos.line) = true := by rfl) (hs : starEach [e] X.env = (false, eval e X.env) :: starEach [] X.env := by rfl) (hplain : (backTo cpos (starEach [] X.env)).any (·.1) = false := by rfl) (hsw : swapsWith (.Call (.Attribute (.Name x p) "extend" apos) [e] [] cpos) none pos.line X.env = pure false := by rfl) :
    SS X (.Expr (.Call (.Attribute (.Name x p) "extend" apos) [e] [] cpos) pos :: sts) ss P := fun B G σ H D S C => by
  obtain ⟨l, us, k1, k2, k3, g⟩ := S.ownL hn
  refine ss_of (pss_cons (ps_expr (pe_bm PySem.F.plainAttrs_list PySem.F.slot_list_extend PySem.F.type_list_extend mt_extend (pe_var v.n v.v v.d1 v.d2) (pa_cons pe_m pa_nil hs) hbase hfew hline hs hplain) hsw) pss_m) ?_
  refine ⟨.ref l, k1, .inl ⟨rfl, us, .of k2⟩, he B G σ H S _ fun G1 H1 w t1 r1 => ?_⟩
  obtain ⟨y, ws, rfl, f1, f2, f3, f4⟩ := r1.lst_inv
  have h4 : H1 l = some (.lst us) := t1.h _ _ k2
  refine ⟨l, y, us, ws, rfl, rfl, h4, f3, by rw [sizeLine_eq, k3.length, f4.length, List.length_map, List.length_map]; omega, ?_⟩
  refine h B G1 σ _ D ?_ C
  have := S.putL t1 hn k1 (xs := us ++ ws) (ds' := (xs ++ ys).map en) (by rw [List.map_append]; exact (k3.mono t1.g).app f4)
  exact this
end
end Lk
namespace L2
open PySem PySem.Spec PyProof.Rows
section
variable {X : Cx}
def tSortedK (td : TE) : TE := fun σ H Q => td σ H fun x H1 => ∃ (a : Addr) (kvs : List (Key × V)) (ks : List Int), x = .ref a ∧ Rd H1 a (.dK kvs) ∧ kvs.map (·.1) = ks.map Sum.inl ∧ ks.length < 64 ∧
    ∀ (ys : List Int) (p : Addr), ys.Perm ks → ys.Pairwise (· ≤ ·) → H1 p = none → Q (.ref p) (upd H1 p (.lst (ys.map V.int)))
theorem pe_sortedK {e : Expr} {td : TE} {p pos apos cpos : Pos} (hcalm : X.calm = true) (hg : Gl X "sorted") (hm : X.mg "sorted" = none) (he : PE X e td) (hbase : attributeBase e "keys" X.env (eval e X.env) = eval e X.env := by rfl) (hline : (apos.endLine == cpos.line) = true := by rfl)
    (na : starEach [.Call (.Attribute e "keys" apos) [] [] cpos] X.env = (false, eval (.Call (.Attribute e "keys" apos) [] [] cpos) X.env) :: starEach [] X.env := by rfl) : PE X (.Call (.Name "sorted" p) [.Call (.Attribute e "keys" apos) [] [] cpos] [] pos) (tSortedK td) := by
  refine ⟨fun pins s σ H Q I h => ?_⟩
  refine Call_ (ld_blt I hg hm PyProof.Rows.boot_sorted ?_)
  refine PyProof.Rows.callWith_builtin1 (PyProof.Rows.args_cons ?_ na) na rfl
  refine wpAny_Call_method (T := "dict") (id := "dict.keys") hbase rfl hline F.plainAttrs_dict F.slot_dict_keys F.type_dict_keys (thn (he.run pins s σ H _ I h) fun u s1 ⟨x, H1, I1, rx, a, kvs, ks, ex, hd, hks, h64, q⟩ => ?_)
  subst ex
  obtain rfl : u = Value.ref a := rx
  obtain ⟨z, lo, vs, rel, dd⟩ := dk_rd I1.hok hd
  refine ⟨dd.typeIs, dd.mapOf.noDict, ?_⟩
  have I2 : Inv X pins σ H1 { s1 with heap := s1.heap.push { cls := .type "dict_keys", data := .fields #[.ref a] } } := I1.kept (t' := s1.toks) fun b ob q => Heap.get?_push_of_some _ q
  obtain ⟨ep, hat⟩ := dd.dictAt
  have hkeys : vs.map (·.1) = ks.map Sum.inl := rel.keys.symm.trans hks
  have hl : vs.length = ks.length := by
    have e := congrArg List.length hkeys
    rw [List.length_map, List.length_map] at e
    exact e
  have h16 : vs.length ≤ sizeLine := by rw [hl, sizeLine_eq]; omega
  show wpAny _ _ (callWith cpos (.builtin "dict.keys") [.ref a] [] []) _ X.xe s1
  refine method_meetsIn F.slot_dict_keys F.entry_dict_keys rfl (PySem.evalArgs_none ⟨rfl, dd.typeIs, F.args_dict_keys_1 _, _, PySem.W.kdl_meets_keys (mixKind X.prog X.w) a lo, ⟨vs, dd⟩, ?_⟩)
  refine PyProof.Rows.args_nil ?_
  refine Calls.call_function_entry PyProof.Rows.kind_sorted PyProof.Rows.plain_sorted PyProof.Rows.entry_sorted (PyProof.Rows.args_sorted1 _) ?_
  unfold Builtin.«sorted»
  refine wpAny_bind (m := checkCount "sorted" 1 1 _) (wpAny_pure ?_)
  refine wpAny_bind (PySem.W.kdu_collect (A := X.A.in1) (PySem.W.kdl_keys (r := s1.heap.objs.size) (d := a) (knd := mixKind X.prog X.w) (kvs := vs) (ep := ep)) (I1.ok.hd hcalm) ⟨⟨_, Heap.get?_push_size _ rfl, rfl, rfl⟩, hat.push _⟩ h16 fun h' tk acc hk hacc => ?_)
  have hal : acc.toList.length = ks.length := by rw [Array.length_toList, hacc.1, hl]
  have hS : IntsAre acc.toList ks := ints_each hal fun j v e => by
    obtain ⟨k, x, e1, e2⟩ := hacc.2 j v (by rw [← Array.getElem?_toList]; exact e)
    have e3 : (vs.map (·.1))[j]? = some k := by rw [List.getElem?_map, e1]; rfl
    rw [hkeys, List.getElem?_map] at e3
    cases e4 : ks[j]? with
    | none => rw [e4] at e3; cases e3
    | some y =>
      rw [e4] at e3
      have e5 : Sum.inl y = k := Option.some.inj e3
      subst e5
      rcases keyIs_shape (show keyIs (Sum.inl y) v = true from e2) with ⟨i, t, ek, ev⟩ | ⟨z, t, ek, ev⟩
      · cases ek
        exact ⟨y, t, rfl, ev⟩
      · cases ek
  have I3 : Inv X pins σ H1 { s1 with heap := h', toks := tk } := I2.kept hk
  refine wpAny_bind (wpAny_newList ?_ (by rw [hal, sizeLine_eq]; omega))
  have hoL : (h'.push (seqObj "list" acc.toList.toArray 0)).get? h'.objs.size = some (seqObj "list" acc.toList.toArray 0) := Heap.get?_push_size _ rfl
  show wpAny _ _ _ _ _ { s1 with heap := h'.push (seqObj "list" acc.toList.toArray 0), toks := tk }
  refine wpAny_bind (wpAny_holding (wpAny_call_entry PyProof.Rows.slot_list_sort ⟨_, hoL, rfl⟩ PyProof.Rows.entry_list_sort
    (PyProof.Rows.list_sort_tree (s := { s1 with heap := h'.push (seqObj "list" acc.toList.toArray 0), toks := tk }) hoL hS (by rw [hal]; exact h64) fun out ys g1 g2 g3 => ⟨_, rfl, ?_⟩) (PyProof.Rows.args_list_sort _)))
  obtain ⟨e', he'⟩ := PyProof.Rows.sortedHeap_at (vs := acc.toList) (out := out) hoL
  have hlen : (ys.map V.int).length ≤ sizeLine := by
    rw [List.length_map, g2.length_eq]
    exact Nat.le_trans (Nat.le_of_lt h64) (by decide)
  refine wpAny_pure ⟨_, rfl, .ref h'.objs.size, upd H1 h'.objs.size (.lst (ys.map V.int)), I3.laid (t' := tk) (fun b u e => ?_) (Nat.le_refl _)
    (show ObjOk X.prog X.w _ _ _ (.lst (ys.map V.int)) from ⟨hlen, out.toList, e', vals_of_ints g1, by rw [Array.toArray_toList]; exact he'⟩), rfl, q ys _ g2 g3 (I3.hok.fresh (Nat.le_refl _))⟩
  have hb : b < h'.objs.size := Heap.lt_size e
  rw [PyProof.Rows.sortedHeap_old (Nat.ne_of_lt hb) (by rw [size_push']; exact Nat.lt_succ_of_lt hb)]
  exact Heap.get?_push_of_some _ e
end
end L2
namespace Lk
open PySem L2
section
variable {X : Cx} {k : Nat} {ss : List Sl} {a : Expr} {pos p apos cpos : Pos}
/-- sorted(d.keys()) -/
theorem ee_sortedKM {kvs : List (Key × D)} {ns : List Int} (cx : Ctx X k) (g : Bi X "sorted") (h : ED X ss a kvs) (hk : kvs.map (·.1) = ns.map Sum.inl) (hn : ns.length < 64) (hbase : attributeBase a "keys" X.env (eval a X.env) = eval a X.env := by rfl) (hline : (apos.endLine == cpos.line) = true := by rfl)
    (na : starEach [.Call (.Attribute a "keys" apos) [] [] cpos] X.env = (false, eval (.Call (.Attribute a "keys" apos) [] [] cpos) X.env) :: starEach [] X.env := by rfl) :
    EE X ss (.Call (.Name "sorted" p) [.Call (.Attribute a "keys" apos) [] [] cpos] [] pos) (.own (.lst ((srt ns).map D.int))) := fun B G σ H S Q q =>
  e_of (pe_sortedK cx.calm g.g g.m pe_m hbase hline na) (h B G σ H S _ fun G1 H1 a xs t1 h1 r1 => by
    refine ⟨a, xs, ns, rfl, h1, by rw [r1.keys, hk], hn, fun ns' y hp hs hy => ?_⟩
    rw [srt_of hp hs]
    exact q G1 _ _ (t1.trans (.new t1.gh hy)) (.lst (t1.h.back hy) (t1.gh.back hy) upd_same (.of_ints _)))
end
end Lk
namespace L2
open PySem PySem.Spec PyProof.Rows
section
variable {prog : Program} {w : World} {A : Around} {E : Value → Shared → Prop} {s : Shared} {l : Addr} {its : List Value} {ns : List Int}
theorem tup_kept {h' : Heap} {o1 : Obj} (hk : ∀ b o, b ∉ [s.heap.objs.size] → (s.heap.push o1).get? b = some o → h'.get? b = some o) :
    ∀ b o, s.heap.get? b = some o → h'.get? b = some o := fun b o e => by
  refine hk b o (fun hm => ?_) (Heap.get?_push_of_some _ e)
  rcases List.mem_cons.mp hm with e1 | hm
  · exact absurd (e1 ▸ Heap.lt_size e) (Nat.lt_irrefl _)
  · cases hm
theorem max_intTup {xs : Array (Int × Tok)} {Q : Value → Shared → Prop} (hh : A.handled = none) (hl : s.heap.IsTuple l (intItems xs)) (hne : 0 < xs.size)
    (h : ∀ v h' tk, (intItems xs)[argBest (fun i j => decide (numAt xs i > numAt xs j)) (xs.size - 1)]? = some v → (∀ b o, s.heap.get? b = some o → h'.get? b = some o) → Q v { s with heap := h', toks := tk }) :
    wpAny (model prog w) A (call (.builtin "max") [.ref l]) Q E s := by
  have hlt : l < s.heap.objs.size := by obtain ⟨o, ho, _⟩ := hl; exact Heap.lt_size ho
  refine PySem.call_max_walk (wpAny_pyIter_tuple hl ?_)
  refine ⟨_, [_, l], [_], _, _, _, _, rfl, Walks.tuple (A := A.in1) hh _ l (Nat.ne_of_lt hlt) (intItems xs), ⟨⟨_, Heap.get?_push_size _ rfl, rfl, rfl⟩, hl.push _⟩, fun c hc => ?_, by simpa [intItems] using hne, CmpOf.ints_gt (numAt xs) (fun _ _ => intItems_at), fun v h' tk hP hk => ?_⟩
  · show c < (s.heap.push _).objs.size
    rw [Heap.size_push]
    rcases List.mem_cons.mp hc with rfl | hc
    · exact Nat.lt_succ_self _
    · rcases List.mem_cons.mp hc with rfl | hc
      · exact Nat.lt_succ_of_lt hlt
      · cases hc
  · exact h v h' tk (by simpa [intItems] using hP) (tup_kept hk)
theorem min_intTup {xs : Array (Int × Tok)} {Q : Value → Shared → Prop} (hh : A.handled = none) (hl : s.heap.IsTuple l (intItems xs)) (hne : 0 < xs.size)
    (h : ∀ v h' tk, (intItems xs)[argBest (fun i j => decide (numAt xs i < numAt xs j)) (xs.size - 1)]? = some v → (∀ b o, s.heap.get? b = some o → h'.get? b = some o) → Q v { s with heap := h', toks := tk }) :
    wpAny (model prog w) A (call (.builtin "min") [.ref l]) Q E s := by
  have hlt : l < s.heap.objs.size := by obtain ⟨o, ho, _⟩ := hl; exact Heap.lt_size ho
  refine PySem.call_min_walk (wpAny_pyIter_tuple hl ?_)
  refine ⟨_, [_, l], [_], _, _, _, _, rfl, Walks.tuple (A := A.in1) hh _ l (Nat.ne_of_lt hlt) (intItems xs), ⟨⟨_, Heap.get?_push_size _ rfl, rfl, rfl⟩, hl.push _⟩, fun c hc => ?_, by simpa [intItems] using hne, CmpOf.ints_lt (numAt xs) (fun _ _ => intItems_at), fun v h' tk hP hk => ?_⟩
  · show c < (s.heap.push _).objs.size
    rw [Heap.size_push]
    rcases List.mem_cons.mp hc with rfl | hc
    · exact Nat.lt_succ_self _
    · rcases List.mem_cons.mp hc with rfl | hc
      · exact Nat.lt_succ_of_lt hlt
      · cases hc
  · exact h v h' tk (by simpa [intItems] using hP) (tup_kept hk)
theorem maxT_raw {Q : Value → Shared → Prop} (hh : A.handled = none) (hl : s.heap.IsTuple l its.toArray) (hi : IntsAre its ns) (hne : 0 < ns.length)
    (h : ∀ h' tk M t', (∀ b o, s.heap.get? b = some o → h'.get? b = some o) → M ∈ ns → (∀ a, a ∈ ns → a ≤ M) → Q (.int M t') { s with heap := h', toks := tk }) : wpAny (model prog w) A (call (.builtin "max") [.ref l]) Q E s := by
  obtain ⟨xs, e⟩ := hi.allInts.items
  have hn : numsOf (intItems xs).toList = ns := by rw [← e]; exact hi.numsOf
  rw [nums_intItems] at hn
  subst hn
  rw [e] at hl
  have hsz : 0 < xs.size := by simpa using hne
  refine max_intTup hh hl hsz fun v h' tk hv hk => ?_
  obtain ⟨t, rfl⟩ := intItems_at hv
  obtain ⟨h1, h2⟩ := argBest_gt (numAt xs) (xs.size - 1)
  refine h h' tk _ t hk ?_ fun a ha => ?_
  · rw [numAt_eq]; exact PySem.getD_mem (by rw [List.length_map, Array.length_toList]; omega)
  · obtain ⟨j, hj, rfl⟩ := mem_getD ha
    rw [List.length_map, Array.length_toList] at hj
    rw [← numAt_eq]; exact h2 j (by omega)
theorem minT_raw {Q : Value → Shared → Prop} (hh : A.handled = none) (hl : s.heap.IsTuple l its.toArray) (hi : IntsAre its ns) (hne : 0 < ns.length)
    (h : ∀ h' tk M t', (∀ b o, s.heap.get? b = some o → h'.get? b = some o) → M ∈ ns → (∀ a, a ∈ ns → M ≤ a) → Q (.int M t') { s with heap := h', toks := tk }) : wpAny (model prog w) A (call (.builtin "min") [.ref l]) Q E s := by
  obtain ⟨xs, e⟩ := hi.allInts.items
  have hn : numsOf (intItems xs).toList = ns := by rw [← e]; exact hi.numsOf
  rw [nums_intItems] at hn
  subst hn
  rw [e] at hl
  have hsz : 0 < xs.size := by simpa using hne
  refine min_intTup hh hl hsz fun v h' tk hv hk => ?_
  obtain ⟨t, rfl⟩ := intItems_at hv
  obtain ⟨h1, h2⟩ := argBest_lt (numAt xs) (xs.size - 1)
  refine h h' tk _ t hk ?_ fun a ha => ?_
  · rw [numAt_eq]; exact PySem.getD_mem (by rw [List.length_map, Array.length_toList]; omega)
  · obtain ⟨j, hj, rfl⟩ := mem_getD ha
    rw [List.length_map, Array.length_toList] at hj
    rw [← numAt_eq]; exact h2 j (by omega)
end
section
variable {X : Cx}
theorem cr_maxT (hc : X.calm = true) : CallR X (.builtin "max") (fun vs H Q => ∃ (a : Addr) (ns : List Int), vs = [V.ref a] ∧ SqT X.K H a (ns.map V.int) ∧ 0 < ns.length ∧ ∀ m, m ∈ ns → (∀ y, y ∈ ns → y ≤ m) → Q (.int m) H) := by
  intro pins s σ H vs us Q I r h
  obtain ⟨a, ns, rfl, hs, hne, q⟩ := h
  obtain ⟨its, rv, hl, _⟩ := I.tuple hs
  rw [Vals.ref1 r]
  exact maxT_raw (I.ok.hd hc) hl rv.ints hne fun h' tk m t' hk h1 h2 => ⟨.int _, H, I.kept hk, ⟨_, rfl⟩, q m h1 h2⟩
theorem cr_minT (hc : X.calm = true) : CallR X (.builtin "min") (fun vs H Q => ∃ (a : Addr) (ns : List Int), vs = [V.ref a] ∧ SqT X.K H a (ns.map V.int) ∧ 0 < ns.length ∧ ∀ m, m ∈ ns → (∀ y, y ∈ ns → m ≤ y) → Q (.int m) H) := by
  intro pins s σ H vs us Q I r h
  obtain ⟨a, ns, rfl, hs, hne, q⟩ := h
  obtain ⟨its, rv, hl, _⟩ := I.tuple hs
  rw [Vals.ref1 r]
  exact minT_raw (I.ok.hd hc) hl rv.ints hne fun h' tk m t' hk h1 h2 => ⟨.int _, H, I.kept hk, ⟨_, rfl⟩, q m h1 h2⟩
end
end L2
namespace Lk
open PySem L2
section
variable {X : Cx} {k : Nat} {ss : List Sl} {a : Expr} {pos p : Pos} {i j : Int}
theorem ee_maxP {q : Int × Int} (cx : Ctx X k) (g : Bi X "max") (h : EE X ss a (.dat (ePair q))) (A : A1 X a pos := by exact ⟨rfl, rfl⟩) : EE X ss (.Call (.Name "max" p) [a] [] pos) (.dat (.int (max q.1 q.2))) := fun B G σ H S Q c =>
  e_of (pe_callB (cr_maxT cx.calm) g.g g.m PyProof.Rows.boot_max (pa_cons pe_m pa_nil A.he) (he := A.he) (hpl := A.hpl)) (h B G σ H S _ fun G1 H1 v t1 r1 => by
    cases (show Rep X.K G1 v (.tup [.int q.1, .int q.2]) from r1) with
    | @tup y xs _ k1 k2 =>
      have e : xs = [q.1, q.2].map V.int := RepL.ints (ns := [q.1, q.2]) k2
      refine ⟨y, [q.1, q.2], rfl, by rw [← e]; exact t1.gh.t k1, by simp, fun m hm hle => ?_⟩
      have : m = max q.1 q.2 := by
        have h1 := hle q.1 (by simp)
        have h2 := hle q.2 (by simp)
        simp at hm
        omega
      subst this
      exact c G1 H1 _ t1 (.int _))
theorem ee_minP {q : Int × Int} (cx : Ctx X k) (g : Bi X "min") (h : EE X ss a (.dat (ePair q))) (A : A1 X a pos := by exact ⟨rfl, rfl⟩) : EE X ss (.Call (.Name "min" p) [a] [] pos) (.dat (.int (min q.1 q.2))) := fun B G σ H S Q c =>
  e_of (pe_callB (cr_minT cx.calm) g.g g.m PyProof.Rows.boot_min (pa_cons pe_m pa_nil A.he) (he := A.he) (hpl := A.hpl)) (h B G σ H S _ fun G1 H1 v t1 r1 => by
    cases (show Rep X.K G1 v (.tup [.int q.1, .int q.2]) from r1) with
    | @tup y xs _ k1 k2 =>
      have e : xs = [q.1, q.2].map V.int := RepL.ints (ns := [q.1, q.2]) k2
      refine ⟨y, [q.1, q.2], rfl, by rw [← e]; exact t1.gh.t k1, by simp, fun m hm hle => ?_⟩
      have : m = min q.1 q.2 := by
        have h1 := hle q.1 (by simp)
        have h2 := hle q.2 (by simp)
        simp at hm
        omega
      subst this
      exact c G1 H1 _ t1 (.int _))
abbrev eTI (ns : List Int) : D := D.tup (ns.map D.int)
theorem EE.frzN {e : Expr} {n : Net} (h : EE X ss e (.own (oNet n))) : EE X ss e (.dat (eNet n)) := h.frz
end
end Lk
namespace Lk
open PySem L2
section
variable {K : PySem.W.Frag} {B : Bs} {G H : Hp} {ss : List Sl} {σ : St} {n m : Nat} {q0 q1 q2 : List D} {a : Addr} {z : Int} {xs : List V}
abbrev o3 (q0 q1 q2 : List D) : Own := .tupO [.own (.lst q0), .own (.lst q1), .own (.lst q2)]
/-- what the turns keep -/
structure Spo (K : PySem.W.Frag) (B : Bs) (G : Hp) (ss : List Sl) (n m : Nat) (a : Addr) (xs : List V) (i : Nat) (σ : St) (H : Hp) : Prop where
  ex : ∃ ss' q0 q1 q2, Sat K B G ss' σ H ∧ ss'[n]? = some (.own (o3 q0 q1 q2)) ∧ (ss'.set n .any).set m .any = (ss.set n .any).set m .any ∧ q0.length ≤ 900 + i ∧ q1.length ≤ 900 + i ∧ q2.length ≤ 900 + i
  at' : σ[n]? = some (some (.ref a))
  tup : H a = some (.tup xs)
theorem Spo.len {i : Nat} (S : Spo K B G ss n m a xs i σ H) : σ.length = ss.length := by
  obtain ⟨ss', q0, q1, q2, S', _, hc, _⟩ := S.ex
  have := congrArg List.length hc
  simp only [List.length_set] at this
  rw [← this]; exact S'.len.symm
end
end Lk
namespace Lk
open PySem L2
end Lk
namespace Lk
open PySem L2
end Lk
namespace Lk
open PySem L2
/-- the context of a suite whose exception at a is of the class C, its dict d -/
structure Held (X' X : Cx) (a C : Addr) (d : Option Addr) : Prop where
  h : ∃ oe pn, X' = X.suite a ((a, oe) :: pn) ∧ Zc (.ref C) d oe ∧ ∃ vs, oe.data = .fields vs
section
variable {X' X : Cx} {a C D : Addr} {d : Option Addr} {fs : List (Str × Lk.D)} {ss : List Sl} {i : Nat} {n f nm : Str} {e : Expr} {p p2 p' pos : Pos} {dv : Lk.D} {b : Bool}
theorem Held.var (h : Held X' X a C d) (v : VarOk X i n) : VarOk X' i n := by obtain ⟨oe, pn, rfl, _⟩ := h; exact ⟨v.n, v.v, v.d1, v.d2⟩
theorem Held.loc (h : Held X' X a C d) (v : LocOk X i n) : LocOk X' i n := by obtain ⟨oe, pn, rfl, _⟩ := h; exact ⟨v.n, v.l, v.f⟩
theorem Held.gl (h : Held X' X a C d) (g : Gl X n) : Gl X' n := by obtain ⟨oe, pn, rfl, _⟩ := h; exact g
theorem Held.bi (h : Held X' X a C d) (g : Bi X n) : Bi X' n := by obtain ⟨oe, pn, rfl, _⟩ := h; exact ⟨g.g, g.m⟩
theorem Held.nd (h : Held X' X a C d) (g : X.N.Nodup) : X'.N.Nodup := by obtain ⟨oe, pn, rfl, _⟩ := h; exact g
theorem Held.env (h : Held X' X a C d) : X'.env = X.env := by obtain ⟨oe, pn, rfl, _⟩ := h; rfl
theorem Held.mg (h : Held X' X a C d) : X'.mg = X.mg := by obtain ⟨oe, pn, rfl, _⟩ := h; rfl
theorem Held.K (h : Held X' X a C d) : X'.K = X.K := by obtain ⟨oe, pn, rfl, _⟩ := h; rfl
/-- the name of a class -/
structure ClN (X : Cx) (nm : Str) (v : V) (u : Value) : Prop where
  pe : ∀ p, PE X (.Name nm p) (tC v)
  k : ClsV v u
theorem ClN.own {C2 : Addr} (g : Gl X nm) (h : X.mg nm = some (.ref C2)) (hdb : (nm == ("__debug__" : Str)) = false := by decide) : ClN X nm (.ref C2) (.ref C2) := ⟨fun p => pe_glob g h rfl hdb, .own C2⟩
theorem ClN.bi {U : String} (g : Bi X nm) (h : bootBuiltins nm = some (.type U)) (hn : nm ≠ "__name__" := by decide) (hdb : (nm == ("__debug__" : Str)) = false := by decide) : ClN X nm (.ty U) (.type U) := ⟨fun p => pe_bltn g.g g.m h rfl hn hdb, .ty U⟩
/-- names of classes, one by one -/
inductive ClNs (X : Cx) : List Expr → List V → List Value → Prop
  | nil : ClNs X [] [] []
  | cons {nm : Str} {p : Pos} {v : V} {u : Value} {es : List Expr} {vs : List V} {us : List Value} (h : ClN X nm v u) (hs : starEach (.Name nm p :: es) X.env = (false, eval (.Name nm p) X.env) :: starEach es X.env) (r : ClNs X es vs us) : ClNs X (.Name nm p :: es) (v :: vs) (u :: us)
theorem ClNs.len {es : List Expr} {vs : List V} {us : List Value} (h : ClNs X es vs us) : vs.length = es.length := by
  induction h with
  | nil => rfl
  | cons _ _ _ ih => simp [ih]
end
end Lk
namespace Lk
end Lk
namespace L2
open PySem PySem.Spec PyProof.Rows
end L2
namespace Lk
open PySem L2
end Lk
namespace Lk
open PySem L2
section
variable {K : PySem.W.Frag} {G G' H H' : Hp}
theorem PtsK.len : ∀ {ps : List (Key × Pt)} {xs : List (Key × V)} {fp : List Addr}, PtsK K G H xs ps fp → xs.length = ps.length
  | [], _, _, h => by cases h; rfl
  | _ :: _, _, _, h => by cases h with | cons _ h2 => simp [PtsK.len h2]
end
end Lk
namespace L2
open PySem PySem.Spec PyProof.Rows
end L2
namespace Lk
open PySem L2
end Lk
namespace L2
open PySem PySem.Spec PyProof.Rows
end L2
namespace Lk
open PySem L2
end Lk
namespace Lk
open PySem L2
theorem PtsL.snoc {K : PySem.W.Frag} {G H : Hp} {v : V} {p : Pt} {f : List Addr} (h2 : PtAt K G H v p f) : ∀ {ps : List Pt} {vs : List V} {fp : List Addr}, PtsL K G H vs ps fp → PtsL K G H (vs ++ [v]) (ps ++ [p]) (fp ++ f)
  | [], _, _, h => by
    cases h
    have := PtsL.cons h2 .nil
    simpa using this
  | q :: ps, _, _, h => by
    cases h with
    | cons a b =>
      rw [List.append_assoc]
      exact .cons a (PtsL.snoc h2 b)
section
variable {X : Cx} {k : Nat} {ss : List Sl} {a it tg elt : Expr} {ifs : List Expr} {sts : List Stmt} {P : Post} {pos p apos cpos : Pos} {ds : List D} {n m : Nat} {x y : Str} {scope : Scope}
/-- a list of held lists of ints -/
abbrev oLL (ts : List (List Int)) : Own := .lstO (ts.map fun t => Pt.own (.lst (t.map D.int)))
end
end Lk
namespace Lk
open PySem L2
section
variable {K : PySem.W.Frag} {B : Bs} {G H : Hp} {ss : List Sl} {σ : St} {n m c : Nat} {ts : List (List Int)} {a : Addr} {z : Int} {xs : List V}
structure Spl (K : PySem.W.Frag) (B : Bs) (G : Hp) (ss : List Sl) (n m : Nat) (a : Addr) (xs : List V) (c i : Nat) (σ : St) (H : Hp) : Prop where
  ex : ∃ ss' qs, Sat K B G ss' σ H ∧ ss'[n]? = some (.own (oLL qs)) ∧ (ss'.set n .any).set m .any = (ss.set n .any).set m .any ∧ ∀ q ∈ qs, q.length ≤ c + i
  at' : σ[n]? = some (some (.ref a))
  lst : H a = some (.lst xs)
theorem Spl.len {i : Nat} (S : Spl K B G ss n m a xs c i σ H) : σ.length = ss.length := by
  obtain ⟨ss', qs, S', _, hc, _⟩ := S.ex
  have := congrArg List.length hc
  simp only [List.length_set] at this
  rw [← this]; exact S'.len.symm
end
end Lk
namespace Lk
open PySem L2
end Lk
namespace L2
open PySem PySem.Spec PyProof.Rows
end L2
namespace Lk
open PySem L2
end Lk
namespace Lk
open PySem L2
end Lk
namespace Lk
open PySem L2
abbrev OkStr := {s : Str // PySem.PyData.strOk s = true}
theorem EqP.okstr : EqP (fun x : OkStr => D.str x.1) 1 := ⟨fun x y => by
    simp only [D.py, PyData.eqv]
    by_cases h : x = y
    · subst h; simp
    · have : x.1 ≠ y.1 := fun e => h (Subtype.ext e)
      simp [h, this], fun _ => rfl, fun x => x.2, fun _ => by simp [D.py, PyData.depth]⟩
def okL (xs : List Str) (h : ∀ x ∈ xs, PySem.PyData.strOk x = true) : List OkStr := xs.attachWith (fun s => PySem.PyData.strOk s = true) h
theorem okL_map (xs : List Str) (h : ∀ x ∈ xs, PySem.PyData.strOk x = true) : (okL xs h).map (·.1) = xs := by
  unfold okL
  exact List.attachWith_map_subtype_val h
theorem okL_en (xs : List Str) (h : ∀ x ∈ xs, PySem.PyData.strOk x = true) : (okL xs h).map (fun x : OkStr => D.str x.1) = xs.map D.str := by
  conv => rhs; rw [← okL_map xs h]
  rw [List.map_map]
  rfl
theorem okL_eq {xs ys : List Str} {h : ∀ x ∈ xs, PySem.PyData.strOk x = true} {g : ∀ x ∈ ys, PySem.PyData.strOk x = true} : (okL xs h = okL ys g) ↔ xs = ys := by
  constructor
  · intro e
    rw [← okL_map xs h, ← okL_map ys g, e]
  · rintro rfl; rfl
theorem RepL.strs' {K : PySem.W.Frag} {G : Hp} : ∀ {ns : List Str} {xs : List V}, RepL K G xs (ns.map D.str) → xs = ns.map V.str
  | [], _, .nil => rfl
  | _ :: _, _, .cons (.str _) h => by rw [RepL.strs' h]; rfl
section
variable {X : Cx} {ss : List Sl} {a b : Expr} {i : Str} {ns : List Str}
theorem ec_neLS {xs ys : List Str} {k : Nat} (cx : Ctx X k) (ha : EE X ss a (.dat (.lst (xs.map D.str)))) (hb : EE X ss b (.dat (.lst (ys.map D.str)))) (h : ∀ x ∈ xs, PySem.PyData.strOk x = true) (g : ∀ x ∈ ys, PySem.PyData.strOk x = true) : EC X ss .NotEq a b (!decide (xs = ys)) := by
  have e : decide (xs = ys) = decide (okL xs h = okL ys g) := decide_eq_decide.mpr okL_eq.symm
  rw [e]
  rw [← okL_en xs h] at ha
  rw [← okL_en ys g] at hb
  exact ec_neP (EqP.lst EqP.okstr) _ _ cx ha hb
end
end Lk
namespace Lk
open PySem L2
def prOf (a b : Int) : Int × Int := cond (decide (b < a)) (b, a) (a, b)
def mkTie (t : Tie) : Tie := (t.1, (prOf t.2.1 t.2.2).1, (prOf t.2.1 t.2.2).2)
def mkNet (p : Int × Int) (ts : List Tie) : Net := (prOf p.1 p.2, srtT (ts.map mkTie))
theorem mkTie_take {ts : List Tie} {i : Nat} {t : Tie} (h : ts[i]? = some t) : (ts.take (i + 1)).map mkTie = (ts.take i).map mkTie ++ [mkTie t] := by
  rw [List.take_succ, h, List.map_append]; rfl
theorem prOf_nn {a b : Int} (ha : 0 ≤ a) (hb : 0 ≤ b) : 0 ≤ (prOf a b).1 ∧ 0 ≤ (prOf a b).2 := by
  unfold prOf
  cases decide (b < a)
  · exact ⟨ha, hb⟩
  · exact ⟨hb, ha⟩
theorem mkTie_pos {ts : List Tie} (h : Pos3 ts) : Pos3 (ts.map mkTie) := fun t ht => by
  obtain ⟨u, hu, rfl⟩ := List.mem_map.mp ht
  obtain ⟨h1, h2, h3⟩ := h u hu
  exact ⟨h1, prOf_nn h2 h3⟩
end Lk
namespace Toy
open PySem L2 Lk Rk
def mA__law_cell_at (s : List Int) (k : Int) : Int :=
  (cond (decide (k < ((s).length : Int)))
    (at0 0 s k)
    (0 : Int))
def mA__law_number (s : List Int) (a : Int) (k : Int) : Int :=
  (cond (decide (((mA__law_cell_at (s) ((a + (1 : Int)))) % (7 : Int)) = (3 : Int)))
    (((1000000000000000000000000000000000000000000000000000000000000 : Int) - (1 : Int)) - (((cond (decide ((0 : Int) < ((mA__law_cell_at (s) (a)) % (3 : Int)))) (((mA__law_cell_at (s) (a)) % (1000000000000000000000000000000000000000000000000000000000 : Int)) + (1 : Int)) (1 : Int)) * (((((1 : Int) + (((mA__law_cell_at (s) ((a + (1 : Int)))) / (3 : Int)) % (66 : Int))) * k) + (((mA__law_cell_at (s) (a)) / (3 : Int)) % (67 : Int))) % (67 : Int))) + (cond (decide ((0 : Int) < ((mA__law_cell_at (s) ((a + (1 : Int)))) % (3 : Int)))) ((mA__law_cell_at (s) ((a + (1 : Int)))) % (1000000000000000000000000000000000000000000000000000000000 : Int)) (0 : Int))))
    (((cond (decide ((0 : Int) < ((mA__law_cell_at (s) (a)) % (3 : Int)))) (((mA__law_cell_at (s) (a)) % (1000000000000000000000000000000000000000000000000000000000 : Int)) + (1 : Int)) (1 : Int)) * (((((1 : Int) + (((mA__law_cell_at (s) ((a + (1 : Int)))) / (3 : Int)) % (66 : Int))) * k) + (((mA__law_cell_at (s) (a)) / (3 : Int)) % (67 : Int))) % (67 : Int))) + (cond (decide ((0 : Int) < ((mA__law_cell_at (s) ((a + (1 : Int)))) % (3 : Int)))) ((mA__law_cell_at (s) ((a + (1 : Int)))) % (1000000000000000000000000000000000000000000000000000000000 : Int)) (0 : Int))))
theorem mul67A : ∀ c : Fin 67, ∀ d : Fin 67, (c.val * d.val) % 67 = 0 → c.val = 0 ∨ d.val = 0 := by decide +kernel
theorem lin67A {c a j k : Int} (hc : 1 ≤ c ∧ c ≤ 66) (hj : 0 ≤ j ∧ j < 67) (hk : 0 ≤ k ∧ k < 67) (h : (c * j + a) % 67 = (c * k + a) % 67) : j = k := by
  have key : ∀ d : Int, 0 ≤ d → d < 67 → (c * d) % 67 = 0 → d = 0 := by
    intro d h0 h1 h2
    have := mul67A ⟨c.toNat, by omega⟩ ⟨d.toNat, by omega⟩ (by
      show (c.toNat * d.toNat) % 67 = 0
      have e1 : ((c.toNat * d.toNat : Nat) : Int) = c * d := by
        rw [Int.natCast_mul, Int.toNat_of_nonneg (by omega), Int.toNat_of_nonneg h0]
      have e2 : (((c.toNat * d.toNat) % 67 : Nat) : Int) = 0 := by
        rw [Int.natCast_emod, e1]
        exact h2
      omega)
    simp only at this
    omega
  have h' : (c * j - c * k) % 67 = 0 := by
    have e : c * j - c * k = (c * j + a) - (c * k + a) := by omega
    rw [e, Int.sub_emod, h]
    simp
  rcases Int.le_total k j with z | z
  · have := key (j - k) (by omega) (by omega) (by rw [Int.mul_sub]; exact h')
    omega
  · have := key (k - j) (by omega) (by omega) (by
      rw [Int.mul_sub]
      have e : c * k - c * j = -(c * j - c * k) := by omega
      rw [e]
      exact Int.emod_eq_zero_of_dvd (Int.dvd_neg.mpr (Int.dvd_of_emod_eq_zero h')))
    omega
/-- the number's parts -/
theorem numN_form (s : List Int) (a : Int) : ∃ st sh c d : Int, 1 ≤ st ∧ st ≤ 10 ^ 57 ∧ 0 ≤ sh ∧ sh < 10 ^ 57 ∧ 1 ≤ c ∧ c ≤ 66 ∧ ((∀ k, mA__law_number s a k = st * ((c * k + d) % 67) + sh) ∨ ∀ k, mA__law_number s a k = 10 ^ 60 - 1 - (st * ((c * k + d) % 67) + sh)) := by
  let one := mA__law_cell_at s a
  let two := mA__law_cell_at s (a + 1)
  refine ⟨cond (decide ((0 : Int) < one % 3)) (one % 10 ^ 57 + 1) 1, cond (decide ((0 : Int) < two % 3)) (two % 10 ^ 57) 0, 1 + two / 3 % 66, one / 3 % 67, ?_, ?_, ?_, ?_, by omega, by omega, ?_⟩
  · cases decide ((0 : Int) < one % 3) <;> simp only [cond_true, cond_false] <;> omega
  · cases decide ((0 : Int) < one % 3) <;> simp only [cond_true, cond_false] <;> omega
  · cases decide ((0 : Int) < two % 3) <;> simp only [cond_true, cond_false] <;> omega
  · cases decide ((0 : Int) < two % 3) <;> simp only [cond_true, cond_false] <;> omega
  · by_cases e : two % 7 = 3
    · refine .inr fun k => ?_
      unfold mA__law_number
      rw [show decide (mA__law_cell_at s (a + 1) % 7 = 3) = true from decide_eq_true e]
      rfl
    · refine .inl fun k => ?_
      unfold mA__law_number
      rw [show decide (mA__law_cell_at s (a + 1) % 7 = 3) = false from decide_eq_false e]
      rfl
theorem numN_bd {st sh x : Int} (h1 : 1 ≤ st) (h2 : st ≤ 10 ^ 57) (h3 : 0 ≤ sh) (h4 : sh < 10 ^ 57) (h5 : 0 ≤ x) (h6 : x < 67) : 0 ≤ st * x + sh ∧ st * x + sh < 10 ^ 60 := by
  have a : 0 ≤ st * x := Int.mul_nonneg (by omega) h5
  have b : st * x ≤ 10 ^ 57 * 66 := Int.mul_le_mul h2 (by omega) h5 (by omega)
  omega
theorem number_bd (s : List Int) (a k : Int) : 0 ≤ mA__law_number s a k ∧ mA__law_number s a k < 10 ^ 60 := by
  obtain ⟨st, sh, c, d, h1, h2, h3, h4, h5, h6, h7⟩ := numN_form s a
  have := numN_bd (x := (c * k + d) % 67) h1 h2 h3 h4 (Int.emod_nonneg _ (by omega)) (Int.emod_lt_of_pos _ (by omega))
  rcases h7 with h | h <;> rw [h k] <;> omega
theorem number_injA {s : List Int} {a j k : Int} (hj : 0 ≤ j ∧ j < 67) (hk : 0 ≤ k ∧ k < 67) (h : mA__law_number s a j = mA__law_number s a k) : j = k := by
  obtain ⟨st, sh, c, d, h1, h2, h3, h4, h5, h6, h7⟩ := numN_form s a
  have h8 : st * ((c * j + d) % 67) = st * ((c * k + d) % 67) := by
    rcases h7 with g | g <;> rw [g j, g k] at h <;> omega
  exact lin67A ⟨h5, h6⟩ hj hk (Int.eq_of_mul_eq_mul_left (by omega) h8)
def cutN (s : List Int) (a m : Int) : List Int := cut s (some a) (some (a + m))
theorem cut_le' {α : Type} {xs : List α} {a b : Int} (h0 : 0 ≤ a) (h1 : a ≤ b) : ((cut xs (some a) (some b)).length : Int) ≤ b - a := by
  unfold cut
  rw [List.length_take, List.length_drop]
  obtain ⟨m, rfl⟩ : ∃ m : Nat, a = m := ⟨a.toNat, by omega⟩
  obtain ⟨k, rfl⟩ : ∃ k : Nat, b = k := ⟨b.toNat, by omega⟩
  rw [HT.sIx_nat, HT.sIx_nat]
  omega
theorem cutN_len (s : List Int) {a : Int} (h : 5 ≤ a) : (cutN s a (14 : Int)).length ≤ 14 := by
  have := cut_le' (xs := s) (a := a) (b := a + 14) (by omega) (by omega)
  unfold cutN
  omega
theorem nodup_map_injA {α β : Type} {f : α → β} : ∀ {l : List α}, l.Nodup → (∀ x ∈ l, ∀ y ∈ l, f x = f y → x = y) → (l.map f).Nodup
  | [], _, _ => .nil
  | a :: l, h, g => by
    have h' := List.nodup_cons.mp h
    rw [List.map_cons]
    refine List.nodup_cons.mpr ⟨fun q => ?_, nodup_map_injA h'.2 fun x hx y hy => g x (by simp [hx]) y (by simp [hy])⟩
    obtain ⟨b, hb, e⟩ := List.mem_map.mp q
    exact h'.1 ((g b (by simp [hb]) a (by simp) e) ▸ hb)
def netOf (p : Int × Int) (ts : List Tie) : Net := ((min p.1 p.2, max p.1 p.2), srtT (ts.map fun (t1 : Tie) => ((t1).1, min (t1).2.1 (t1).2.2, max (t1).2.1 (t1).2.2)))
theorem rowsN_pos {ts : List Tie} (h : Pos3 ts) : Pos3 (ts.map fun (t1 : Tie) => ((t1).1, min (t1).2.1 (t1).2.2, max (t1).2.1 (t1).2.2)) := fun t ht => by
  obtain ⟨u, hu, rfl⟩ := List.mem_map.mp ht
  obtain ⟨h1, h2, h3⟩ := h u hu
  refine ⟨h1, ?_, ?_⟩
  · show 0 ≤ min _ _; omega
  · show 0 ≤ max _ _; omega
def wN (s : List Int) : Int := (1 : Int) + mA__law_cell_at s (4 : Int) % (8 : Int)
theorem wN_bd (s : List Int) : 1 ≤ wN s ∧ wN s ≤ 8 := by unfold wN; omega
theorem start5 {i : Nat} {t : Int} (h : [(5 : Int), (19 : Int), (33 : Int), (47 : Int)][i]? = some t) : 5 ≤ t := by
  have := List.mem_of_getElem? h
  simp at this
  omega
/-- a net as the laws make it -/
structure NetG (n : Net) : Prop where
  ok : NetOk n
  pos : Pos3 n.2
  pl : 0 ≤ n.1.1 ∧ n.1.1 ≤ n.1.2
  asc : ∀ t ∈ n.2, t.2.1 ≤ t.2.2
  srt : n.2 = srtT n.2
theorem netOf_g {p : Int × Int} {ts : List Tie} (h1 : (ts.map (·.1)).Nodup) (h2 : Pos3 ts) (h3 : ts.length ≤ 14) (h4 : 0 ≤ p.1 ∧ 0 ≤ p.2) : NetG (netOf p ts) := by
  have e : (netOf p ts).2 = srtT (ts.map fun (t1 : Tie) => ((t1).1, min (t1).2.1 (t1).2.2, max (t1).2.1 (t1).2.2)) := rfl
  have mem : ∀ t, t ∈ (netOf p ts).2 → t ∈ ts.map fun (t1 : Tie) => ((t1).1, min (t1).2.1 (t1).2.2, max (t1).2.1 (t1).2.2) := fun t ht => srtT_mem.mp ht
  refine ⟨⟨?_, fun t ht => (rowsN_pos h2 t (mem t ht)).1, ?_⟩, fun t ht => rowsN_pos h2 t (mem t ht), ?_, fun t ht => ?_, srtT_srtT _⟩
  · rw [e]
    refine ((srtT_perm _).map _).nodup_iff.mpr ?_
    rw [List.map_map]
    exact h1
  · rw [e, srtT_length, List.length_map]; exact h3
  · show 0 ≤ min _ _ ∧ min _ _ ≤ max _ _
    omega
  · obtain ⟨u, _, rfl⟩ := List.mem_map.mp (mem t ht)
    show min _ _ ≤ max _ _
    omega
abbrev eds (ts : List Tie) : List (Int × Int) := ts.map (·.2)
def lk (m : List (Int × Int)) (p : Int) : Int := (look m p).getD 0
structure Mk (m : List (Int × Int)) (l : List (Int × Int)) : Prop where
  nd : (m.map (·.1)).Nodup
  con : ∀ p q a b, look m p = some a → look m q = some b → (a = b ↔ Con l p q)
theorem con_set {l l' : List (Int × Int)} (h : ∀ e, e ∈ l ↔ e ∈ l') {x y : Int} : Con l x y ↔ Con l' x y :=
  ⟨fun c => c.idem fun e he => .edge ((h e).mp he), fun c => c.idem fun e he => .edge ((h e).mpr he)⟩
theorem Mk.same {m l l' : List (Int × Int)} (h : Mk m l) (e : ∀ x, x ∈ l ↔ x ∈ l') : Mk m l' := ⟨h.nd, fun p q a b h1 h2 => (h.con p q a b h1 h2).trans (con_set e)⟩
theorem Mk.step {m l : List (Int × Int)} (M : Mk m l) {u v a b o x : Int} (hu : look m u = some a) (hv : look m v = some b) (ho : (o = a ∧ x = b) ∨ (o = b ∧ x = a)) : Mk (relab m o x) ((u, v) :: l) := by
  refine ⟨by rw [relab_keys]; exact M.nd, fun p q a1 b1 h1 h2 => ?_⟩
  rw [look_relab] at h1 h2
  cases hp : look m p with
  | none => rw [hp] at h1; cases h1
  | some a0 =>
    cases hq : look m q with
    | none => rw [hq] at h2; cases h2
    | some b0 =>
      rw [hp] at h1
      rw [hq] at h2
      have h1 : (if a0 = o then x else a0) = a1 := Option.some.inj h1
      have h2 : (if b0 = o then x else b0) = b1 := Option.some.inj h2
      rw [con_cons]
      have k0 := M.con p q a0 b0 hp hq
      have k1 := M.con p u a0 a hp hu
      have k2 := M.con v q b b0 hv hq
      have k3 := M.con p v a0 b hp hv
      have k4 := M.con u q a b0 hu hq
      simp only at *
      rw [← k0, ← k1, ← k2, ← k3, ← k4, ← h1, ← h2]
      rcases ho with ⟨e1, e2⟩ | ⟨e1, e2⟩ <;> subst e1 e2 <;> split <;> split <;> omega
theorem key_put {m : List (Int × Int)} {k j v : Int} : j ∈ (put m k v).map (·.1) ↔ j = k ∨ j ∈ m.map (·.1) := by
  have h1 : j ∈ (put m k v).map (·.1) ↔ look (put m k v) j ≠ none := by rw [Ne, look_none, Classical.not_not]
  have h2 : j ∈ m.map (·.1) ↔ look m j ≠ none := by rw [Ne, look_none, Classical.not_not]
  rw [h1, h2, look_put]
  by_cases e : k = j
  · subst e; simp
  · rw [if_neg e]
    constructor
    · exact .inr
    · rintro (q | q)
      · exact absurd q.symm e
      · exact q
def met1 (m : List (Int × Int)) (t : Tie) : List (Int × Int) := put (put m t.2.1 0) t.2.2 0
def met0 (n : Net) : List (Int × Int) := put (put [] n.1.1 0) n.1.2 0
def metTo (n : Net) (ts : List Tie) : List (Int × Int) := ts.foldl met1 (met0 n)
theorem metTo_take {n : Net} {ts : List Tie} {i : Nat} {t : Tie} (h : ts[i]? = some t) : metTo n (ts.take (i + 1)) = met1 (metTo n (ts.take i)) t := by
  unfold metTo
  rw [List.take_succ, h, List.foldl_append]
  rfl
theorem met_nd {n : Net} : ∀ (ts : List Tie) (m : List (Int × Int)), (m.map (·.1)).Nodup → ((ts.foldl met1 m).map (·.1)).Nodup
  | [], m, h => h
  | t :: ts, m, h => met_nd (n := n) ts _ (nodup_put (nodup_put h))
theorem met_len : ∀ (ts : List Tie) (m : List (Int × Int)), (ts.foldl met1 m).length ≤ m.length + 2 * ts.length
  | [], m => by simp
  | t :: ts, m => by
    have h := met_len ts (met1 m t)
    have h1 := put_len (m := m) (k := t.2.1) (v := (0 : Int))
    have h2 := put_len (m := put m t.2.1 0) (k := t.2.2) (v := (0 : Int))
    have h3 : (met1 m t).length ≤ m.length + 2 := by unfold met1; omega
    show (ts.foldl met1 (met1 m t)).length ≤ _
    rw [List.length_cons]
    omega
theorem met_mem : ∀ (ts : List Tie) (m : List (Int × Int)) (x : Int), x ∈ (ts.foldl met1 m).map (·.1) ↔ x ∈ m.map (·.1) ∨ ∃ t ∈ ts, x = t.2.1 ∨ x = t.2.2
  | [], m, x => by simp
  | t :: ts, m, x => by
    show x ∈ (ts.foldl met1 (met1 m t)).map (·.1) ↔ _
    rw [met_mem ts]
    unfold met1
    rw [key_put, key_put]
    constructor
    · rintro ((q | q | q) | ⟨u, hu, q⟩)
      · exact .inr ⟨t, by simp, .inr q⟩
      · exact .inr ⟨t, by simp, .inl q⟩
      · exact .inl q
      · exact .inr ⟨u, by simp [hu], q⟩
    · rintro (q | ⟨u, hu, q⟩)
      · exact .inl (.inr (.inr q))
      · rcases List.mem_cons.mp hu with e | e
        · subst e
          rcases q with q | q
          · exact .inl (.inr (.inl q))
          · exact .inl (.inl q)
        · exact .inr ⟨u, e, q⟩
def placesP (n : Net) : List Int := srt ((metTo n n.2).map (·.1))
theorem met0_len (n : Net) : (met0 n).length ≤ 2 := by
  have h1 := put_len (m := ([] : List (Int × Int))) (k := n.1.1) (v := (0 : Int))
  have h2 := put_len (m := put ([] : List (Int × Int)) n.1.1 0) (k := n.1.2) (v := (0 : Int))
  unfold met0
  simp only [List.length_nil] at h1
  omega
theorem met0_nd (n : Net) : ((met0 n).map (·.1)).Nodup := nodup_put (nodup_put .nil)
theorem placesP_nd (n : Net) : (placesP n).Nodup := (srt_perm _).nodup_iff.mpr (met_nd (n := n) _ _ (met0_nd n))
theorem placesP_len {n : Net} (h : NetOk n) : (placesP n).length ≤ 30 := by
  have h1 := met_len n.2 (met0 n)
  have h2 := met0_len n
  have h3 := h.len
  unfold placesP
  rw [srt_length, List.length_map]
  show (n.2.foldl met1 (met0 n)).length ≤ 30
  omega
theorem placesP_mem {n : Net} {x : Int} : x ∈ placesP n ↔ x = n.1.1 ∨ x = n.1.2 ∨ ∃ t ∈ n.2, x = t.2.1 ∨ x = t.2.2 := by
  unfold placesP
  rw [(srt_perm _).mem_iff]
  show x ∈ (n.2.foldl met1 (met0 n)).map (·.1) ↔ _
  rw [met_mem]
  unfold met0
  rw [key_put, key_put]
  simp only [List.map_nil, List.not_mem_nil, or_false]
  constructor
  · rintro ((q | q) | q)
    · exact .inr (.inl q)
    · exact .inl q
    · exact .inr (.inr q)
  · rintro (q | q | q)
    · exact .inl (.inr q)
    · exact .inl (.inl q)
    · exact .inr q
theorem con_nil {x y : Int} : Con [] x y ↔ x = y := by
  constructor
  · intro c
    induction c with
    | refl => rfl
    | edge h => cases h
    | symm _ ih => exact ih.symm
    | trans _ _ i1 i2 => exact i1.trans i2
  · rintro rfl; exact .refl _
theorem lk_key {m : List (Int × Int)} {p : Int} (h : p ∈ m.map (·.1)) : look m p = some (lk m p) := by
  cases e : look m p with
  | none => exact absurd h (look_none.mp e)
  | some a => unfold lk; rw [e]; rfl
theorem tie_places {n : Net} : ∀ t ∈ n.2, t.2.1 ∈ placesP n ∧ t.2.2 ∈ placesP n := fun t ht => ⟨placesP_mem.mpr (.inr (.inr ⟨t, ht, .inl rfl⟩)), placesP_mem.mpr (.inr (.inr ⟨t, ht, .inr rfl⟩))⟩
/-- whether the poles are joined by all ties -/
noncomputable def conB (n : Net) : Bool := @decide (Con (eds n.2) n.1.1 n.1.2) (Classical.propDecidable _)
theorem conB_iff {n : Net} : conB n = true ↔ Con (eds n.2) n.1.1 n.1.2 := by unfold conB; exact @decide_eq_true_iff _ (Classical.propDecidable _)
def namesP (n : Net) : List Int := n.2.map fun (t1 : Tie) => (t1).1
/-- places met, one after another -/
structure Met (n : Net) (met : List Int) (k : Nat) : Prop where
  nd : met.Nodup
  first : met[0]? = some n.1.1
  from' : ∀ x ∈ met, Con (eds n.2) n.1.1 x
  pl : ∀ x ∈ met, x ∈ placesP n
  near : ∀ i x, i < k → met[i]? = some x → ∀ t ∈ n.2, (t.2.1 = x → t.2.2 ∈ met) ∧ (t.2.2 = x → t.2.1 ∈ met)
/-- within a turn: the first i ties looked at from the k-th place -/
structure Met1 (n : Net) (met : List Int) (k : Nat) (i : Nat) : Prop where
  m : Met n met k
  lt : k < met.length
  here : ∀ t ∈ n.2.take i, (t.2.1 = at0 0 met (k : Int) → t.2.2 ∈ met) ∧ (t.2.2 = at0 0 met (k : Int) → t.2.1 ∈ met)
theorem get_app' {α : Type} {l : List α} {a x : α} {i : Nat} (h : l[i]? = some x) : (l ++ [a])[i]? = some x := by
  rw [List.getElem?_append_left (List.getElem?_eq_some_iff.mp h).1]; exact h
theorem Met.add {n : Net} {met : List Int} {k : Nat} (M : Met n met k) (hk : k ≤ met.length) {y : Int} (hy : y ∉ met) (hc : Con (eds n.2) n.1.1 y) (hp : y ∈ placesP n) : Met n (met ++ [y]) k := by
  refine ⟨?_, get_app' M.first, fun x hx => ?_, fun x hx => ?_, fun i x hi hx t ht => ?_⟩
  · rw [List.nodup_append]
    exact ⟨M.nd, by simp, fun a ha b hb e => by simp at hb; subst hb e; exact hy ha⟩
  · rcases List.mem_append.mp hx with q | q
    · exact M.from' x q
    · simp at q; subst q; exact hc
  · rcases List.mem_append.mp hx with q | q
    · exact M.pl x q
    · simp at q; subst q; exact hp
  · rw [List.getElem?_append_left (by omega)] at hx
    have := M.near i x hi hx t ht
    exact ⟨fun e => List.mem_append_left _ (this.1 e), fun e => List.mem_append_left _ (this.2 e)⟩
theorem at0_app {l : List Int} {y : Int} {k : Nat} (h : k < l.length) : at0 0 (l ++ [y]) (k : Int) = at0 0 l (k : Int) := by
  unfold at0
  rw [Int.toNat_natCast, List.getElem?_append_left h]
theorem at0_in' {l : List Int} {k : Nat} (h : k < l.length) : at0 0 l (k : Int) ∈ l := at0_mem (by omega) (by omega)
def addT (met : List Int) (x : Int) (t : Tie) : List Int :=
  let m1 := cond ((decide (t.2.1 = x)) && (!decide (t.2.2 ∈ met))) (met ++ [t.2.2]) met
  cond ((decide (t.2.2 = x)) && (!decide (t.2.1 ∈ m1))) (m1 ++ [t.2.1]) m1
theorem Met1.step {n : Net} {met : List Int} {k i : Nat} (M : Met1 n met k i) {t : Tie} (ht : n.2[i]? = some t) : Met1 n (addT met (at0 0 met (k : Int)) t) k (i + 1) ∧ at0 0 (addT met (at0 0 met (k : Int)) t) (k : Int) = at0 0 met (k : Int) := by
  have htm := List.mem_of_getElem? ht
  have hx := at0_in' M.lt
  have hcx := M.m.from' _ hx
  have he : Con (eds n.2) t.2.1 t.2.2 := .edge (e := t.2) (List.mem_map.mpr ⟨t, htm, rfl⟩)
  have hp := tie_places t htm
  generalize hxe : at0 0 met (k : Int) = x at hx hcx
  -- the first look
  have key : ∀ (m1 : List Int), Met n m1 k → k < m1.length → at0 0 m1 (k : Int) = x → (∀ y ∈ met, y ∈ m1) → (t.2.1 = x → t.2.2 ∈ m1) → Met1 n (cond ((decide (t.2.2 = x)) && (!decide (t.2.1 ∈ m1))) (m1 ++ [t.2.1]) m1) k (i + 1) ∧ at0 0 (cond ((decide (t.2.2 = x)) && (!decide (t.2.1 ∈ m1))) (m1 ++ [t.2.1]) m1) (k : Int) = x := fun m1 k1 k2 k3 k4 k5 => by
    have old : ∀ m2 : List Int, (∀ y ∈ m1, y ∈ m2) → (t.2.2 = x → t.2.1 ∈ m2) → ∀ u ∈ n.2.take (i + 1), (u.2.1 = x → u.2.2 ∈ m2) ∧ (u.2.2 = x → u.2.1 ∈ m2) := fun m2 g1 g2 u hu => by
      rw [List.take_succ, ht] at hu
      rcases List.mem_append.mp hu with q | q
      · have := M.here u q
        rw [hxe] at this
        exact ⟨fun e => g1 _ (k4 _ (this.1 e)), fun e => g1 _ (k4 _ (this.2 e))⟩
      · have q : u = t := by simpa using q
        subst q
        exact ⟨fun e => g1 _ (k5 e), g2⟩
    by_cases e : t.2.2 = x ∧ t.2.1 ∉ m1
    · rw [decide_eq_true e.1, decide_eq_false e.2]
      show Met1 n (m1 ++ [t.2.1]) k (i + 1) ∧ at0 0 (m1 ++ [t.2.1]) (k : Int) = x
      have e0 := at0_app (y := t.2.1) k2
      refine ⟨⟨k1.add (by omega) e.2 (hcx.trans (e.1 ▸ he.symm)) hp.1, by rw [List.length_append]; omega, ?_⟩, by rw [e0, k3]⟩
      rw [e0, k3]
      exact old _ (fun y hy => List.mem_append_left _ hy) fun _ => by simp
    · have e' : ((decide (t.2.2 = x)) && (!decide (t.2.1 ∈ m1))) = false := by
        by_cases q : t.2.2 = x
        · have : t.2.1 ∈ m1 := Classical.not_not.mp fun w => e ⟨q, w⟩
          simp [this]
        · simp [q]
      rw [e']
      show Met1 n m1 k (i + 1) ∧ at0 0 m1 (k : Int) = x
      refine ⟨⟨k1, k2, ?_⟩, k3⟩
      rw [k3]
      exact old _ (fun y hy => hy) fun q => Classical.not_not.mp fun w => e ⟨q, w⟩
  unfold addT
  by_cases e : t.2.1 = x ∧ t.2.2 ∉ met
  · rw [decide_eq_true e.1, decide_eq_false e.2]
    refine key (met ++ [t.2.2]) (M.m.add (by have := M.lt; omega) e.2 (hcx.trans (e.1 ▸ he)) hp.2) (by rw [List.length_append]; have := M.lt; omega) (by rw [at0_app M.lt, hxe]) (fun y hy => List.mem_append_left _ hy) fun _ => by simp
  · have e' : ((decide (t.2.1 = x)) && (!decide (t.2.2 ∈ met))) = false := by
      by_cases q : t.2.1 = x
      · have : t.2.2 ∈ met := Classical.not_not.mp fun w => e ⟨q, w⟩
        simp [this]
      · simp [q]
    rw [e']
    exact key met M.m M.lt hxe (fun y hy => hy) fun q => Classical.not_not.mp fun w => e ⟨q, w⟩
theorem Met.all {n : Net} {met : List Int} {k : Nat} (M : Met n met k) (hk : met.length ≤ k) : (decide (n.1.2 ∈ met)) = conB n := by
  rw [Bool.eq_iff_iff, decide_eq_true_eq, conB_iff]
  refine ⟨M.from' _, fun c => ?_⟩
  have cl : ∀ x y, Con (eds n.2) x y → (x ∈ met ↔ y ∈ met) := fun x y c => by
    induction c with
    | refl => exact Iff.rfl
    | edge he =>
      obtain ⟨t, ht, rfl⟩ := List.mem_map.mp he
      constructor
      · intro hx
        obtain ⟨i, hi, e⟩ := List.mem_iff_getElem.mp hx
        exact (M.near i _ (by omega) (List.getElem?_eq_getElem hi) t ht).1 e.symm
      · intro hx
        obtain ⟨i, hi, e⟩ := List.mem_iff_getElem.mp hx
        exact (M.near i _ (by omega) (List.getElem?_eq_getElem hi) t ht).2 e.symm
    | symm _ ih => exact ih.symm
    | trans _ _ i1 i2 => exact i1.trans i2
  exact (cl _ _ c).mp (List.mem_of_getElem? M.first)
theorem Met.start (n : Net) : Met n [n.1.1] 0 := ⟨by simp, rfl, fun x hx => by simp at hx; subst hx; exact .refl _, fun x hx => by simp at hx; subst hx; exact placesP_mem.mpr (.inl rfl), fun i x hi => absurd hi (Nat.not_lt_zero _)⟩
theorem Met.len {n : Net} {met : List Int} {k : Nat} (M : Met n met k) (hN : NetOk n) : met.length ≤ 30 := by
  have h := placesP_len hN
  have : met.length ≤ (placesP n).length := by
    have key : ∀ {l m : List Int}, l.Nodup → (∀ x ∈ l, x ∈ m) → l.length ≤ m.length := fun {l} => by
      induction l with
      | nil => intro m _ _; exact Nat.zero_le _
      | cons a l ih =>
        intro m nd hs
        have nd' := List.nodup_cons.mp nd
        have := ih (m := m.erase a) nd'.2 fun x hx => by
          have ne : x ≠ a := fun e => nd'.1 (by rw [← e]; exact hx)
          exact (List.mem_erase_of_ne ne).mpr (hs x (by simp [hx]))
        have h2 := List.length_erase_of_mem (hs a (by simp))
        have h3 := List.length_pos_of_mem (hs a (by simp))
        rw [List.length_cons]
        omega
    exact key M.nd M.pl
  omega
theorem nd_len : ∀ {l m : List Int}, l.Nodup → (∀ x ∈ l, x ∈ m) → l.length ≤ m.length
  | [], _, _, _ => Nat.zero_le _
  | a :: l, m, nd, hs => by
    have nd' := List.nodup_cons.mp nd
    have h := nd_len (l := l) (m := m.erase a) nd'.2 fun x hx => by
      have ne : x ≠ a := fun e => nd'.1 (by rw [← e]; exact hx)
      exact (List.mem_erase_of_ne ne).mpr (hs x (by simp [hx]))
    have h2 := List.length_erase_of_mem (hs a (by simp))
    have h3 := List.length_pos_of_mem (hs a (by simp))
    rw [List.length_cons]
    omega
/-- its numbers have few figures -/
structure NetF (n : Net) : Prop where
  g : NetG n
  few : (placesP n).length ≤ 8
  pl : ∀ x ∈ placesP n, 0 ≤ x ∧ x < 10 ^ 60
  nm : ∀ t ∈ n.2, t.1 < 10 ^ 60
end Toy
namespace Lk
open PySem L2
section
variable {X : Cx} {ss : List Sl} {a b e : Expr} {p pos apos : Pos} {k : Nat} {i : Int} {z : Str} {ys : List Str} {c : Nat}
theorem ee_strI (g : Bi X "str") (h : EE X ss a (.dat (.int i))) (hz : i.natAbs.log2 < 1920) (A : A1 X a pos := by exact ⟨rfl, rfl⟩) : EE X ss (.Call (.Name "str" p) [a] [] pos) (.dat (.str (Str.ofString (toString i)))) := fun B G σ H S Q q =>
  e_of (pe_callTy call_str_int g.g g.m PyProof.Rows.boot_str (pa_cons pe_m pa_nil A.he) (he := A.he) (hpl := A.hpl)) (h B G σ H S _ fun G1 H1 v t1 r1 => ⟨i, by rw [Rep.int_inv r1], hz, q G1 H1 _ t1 (.str _)⟩)
theorem ee_ixS (h : EE X ss a (.dat (.str z))) (hi : EE X ss b (.dat (.int i))) (hs : PlainIx b) (hl : z.length ≤ sizeLine) (e : atI z.cps.toList i = some c) : EE X ss (.Subscript a b pos) (.dat (.str ⟨#[c]⟩)) := fun B G σ H S Q q =>
  e_of (pe_ix ix_str pe_m pe_m hs) (h B G σ H S _ fun G1 H1 v t1 r1 => hi B G1 σ H1 (S.step t1) _ fun G2 H2 w t2 r2 =>
    ⟨z, i, c, r1.str_inv, Rep.int_inv r2, hl, e, q G2 H2 _ (t1.trans t2) (.str _)⟩)
theorem ee_join (h : EE X ss a (.dat (.str z))) (hb : EL X ss e (ys.map D.str)) (hz : (ys.map (·.length)).sum + ys.length * z.length ≤ 16777216) (hs : starEach [e] X.env = [(false, eval e X.env)] := by rfl) (hbase : attributeBase a "join" X.env (eval a X.env) = eval a X.env := by rfl) (hline : (apos.endLine == pos.line) = true := by rfl) :
    EE X ss (.Call (.Attribute a "join" apos) [e] [] pos) (.dat (.str (Txt.join z ys))) := fun B G σ H S Q q =>
  e_of (pe_join pe_m pe_m hs hbase hline) (h B G σ H S _ fun G1 H1 v t1 r1 => ⟨⟨z, r1.str_inv⟩, hb B G1 σ H1 (S.step t1) _ fun G2 H2 l xs t2 h2 r2 => by
    have e := RepL.strs' r2
    subst e
    exact ⟨z, l, ys, r1.str_inv, rfl, .inl h2, hz, q G2 H2 _ (t1.trans t2) (.str _)⟩⟩)
end
end Lk
namespace Toy
open PySem L2 Lk
abbrev cd (s : Str) : List Nat := s.cps.toList
theorem cd_ext {a b : Str} (h : cd a = cd b) : a = b := by
  obtain ⟨⟨x⟩⟩ := a
  obtain ⟨⟨y⟩⟩ := b
  have h : x = y := h
  rw [h]
theorem cd_app (a b : Str) : cd (a ++ b) = cd a ++ cd b := Array.toList_append
theorem cd_nil : cd ("" : Str) = [] := by decide +kernel
theorem cd_blank : cd (" " : Str) = [32] := by decide +kernel
theorem len_cd (s : Str) : s.length = (cd s).length := rfl
theorem glue_pre (g : Array Nat) : ∀ (ys : List Str) (a b : Array Nat), ys.foldl (fun acc (p : Str) => acc ++ g ++ p.cps) (a ++ b) = a ++ ys.foldl (fun acc (p : Str) => acc ++ g ++ p.cps) b
  | [], _, _ => rfl
  | y :: ys, a, b => by
    show ys.foldl (fun acc (p : Str) => acc ++ g ++ p.cps) ((a ++ b) ++ g ++ y.cps) = a ++ ys.foldl (fun acc (p : Str) => acc ++ g ++ p.cps) (b ++ g ++ y.cps)
    rw [Array.append_assoc, Array.append_assoc, glue_pre g ys a, ← Array.append_assoc]
theorem join_cons (s w y : Str) (ys : List Str) : Txt.join s (w :: y :: ys) = w ++ s ++ Txt.join s (y :: ys) := by
  have key : (Txt.join s (w :: y :: ys)).cps = w.cps ++ s.cps ++ (Txt.join s (y :: ys)).cps := by
    show (y :: ys).foldl (fun acc (p : Str) => acc ++ s.cps ++ p.cps) w.cps = w.cps ++ s.cps ++ ys.foldl (fun acc (p : Str) => acc ++ s.cps ++ p.cps) y.cps
    show ys.foldl (fun acc (p : Str) => acc ++ s.cps ++ p.cps) (w.cps ++ s.cps ++ y.cps) = _
    rw [glue_pre]
  exact cd_ext (congrArg Array.toList key)
theorem join_one (s w : Str) : Txt.join s [w] = w := rfl
theorem join_len (s : Str) {m : Nat} : ∀ ys : List Str, (∀ y ∈ ys, y.length ≤ m) → (Txt.join s ys).length ≤ ys.length * (m + s.length)
  | [], _ => by
    show 0 ≤ _
    exact Nat.zero_le _
  | [w], h => by
    rw [join_one]
    have := h w (by simp)
    show w.length ≤ 1 * (m + s.length)
    omega
  | w :: y :: ys, h => by
    rw [join_cons]
    have h1 := join_len s (y :: ys) (fun z hz => h z (List.mem_cons_of_mem _ hz))
    have h2 := h w (by simp)
    have e : (w ++ s ++ Txt.join s (y :: ys)).length = w.length + s.length + (Txt.join s (y :: ys)).length := by
      rw [len_cd, cd_app, cd_app, List.length_append, List.length_append]; rfl
    rw [e]
    show _ ≤ ((y :: ys).length + 1) * (m + s.length)
    rw [Nat.add_mul]
    omega
theorem sum_len {m : Nat} : ∀ ys : List Str, (∀ y ∈ ys, y.length ≤ m) → (ys.map (·.length)).sum ≤ ys.length * m
  | [], _ => Nat.zero_le _
  | y :: ys, h => by
    have h1 := sum_len ys fun z hz => h z (List.mem_cons_of_mem _ hz)
    have h2 := h y (by simp)
    show y.length + (ys.map (·.length)).sum ≤ (ys.length + 1) * m
    rw [Nat.add_mul]
    omega
theorem figs : cd ("0123456789" : Str) = [48, 49, 50, 51, 52, 53, 54, 55, 56, 57] := by decide +kernel
def fig (d : Int) : Str := ⟨#[(48 + d).toNat]⟩
def fgN (n : Int) : Nat → Int
  | 0 => n
  | i + 1 => fgN n i / (10 : Int)
def fgF (n : Int) : Nat → Str
  | 0 => ("" : Str)
  | i + 1 => cond (decide ((0 : Int) < fgN n i)) (fig (fgN n i % (10 : Int)) ++ fgF n i) (fgF n i)
def fgS (n : Int) : Str := cond (decide (n = (0 : Int))) ("0" : Str) (fgF n 60)
theorem fgN_nn {n : Int} (h : 0 ≤ n) : ∀ i, 0 ≤ fgN n i
  | 0 => h
  | i + 1 => by
    have := fgN_nn h i
    show 0 ≤ fgN n i / 10
    omega
theorem fgN_shift (n : Int) : ∀ i, fgN n (i + 1) = fgN (n / 10) i
  | 0 => rfl
  | i + 1 => by
    show fgN n (i + 1) / 10 = fgN (n / 10) i / 10
    rw [fgN_shift n i]
theorem fgN_zero : ∀ (k : Nat) {n : Int}, 0 ≤ n → n < 10 ^ k → fgN n k = 0
  | 0, n, h0, h1 => by
    have : n < 1 := h1
    show n = 0
    omega
  | k + 1, n, h0, h1 => by
    rw [fgN_shift]
    have e : (10 : Int) ^ (k + 1) = 10 ^ k * 10 := Int.pow_succ 10 k
    rw [e] at h1
    exact fgN_zero k (by omega) (by omega)
theorem fgF_len (n : Int) : ∀ i, (fgF n i).length ≤ i
  | 0 => by rw [show fgF n 0 = ("" : Str) from rfl, len_cd, cd_nil]; exact Nat.le_refl _
  | i + 1 => by
    have h := fgF_len n i
    show (cond (decide ((0 : Int) < fgN n i)) (fig (fgN n i % (10 : Int)) ++ fgF n i) (fgF n i)).length ≤ i + 1
    cases decide ((0 : Int) < fgN n i)
    · exact Nat.le_succ_of_le h
    · show (fig (fgN n i % (10 : Int)) ++ fgF n i).length ≤ i + 1
      rw [len_cd, cd_app, List.length_append]
      have : (cd (fig (fgN n i % (10 : Int)))).length = 1 := rfl
      rw [len_cd] at h
      omega
theorem fgF_stop {n : Int} {i : Nat} (h : fgN n i = 0) : ∀ j, fgF n (i + j) = fgF n i ∧ fgN n (i + j) = 0
  | 0 => ⟨rfl, h⟩
  | j + 1 => by
    obtain ⟨h1, h2⟩ := fgF_stop h j
    constructor
    · show cond (decide ((0 : Int) < fgN n (i + j))) _ (fgF n (i + j)) = fgF n i
      rw [h2, decide_eq_false (by omega)]
      exact h1
    · show fgN n (i + j) / 10 = 0
      rw [h2]; rfl
def tD (m : Nat) : List Nat := (Nat.toDigits 10 m).map Char.toNat
theorem dig_nat {d : Nat} (h : d < 10) : (Nat.digitChar d).toNat = 48 + d := by
  match d, h with
  | 0, _ | 1, _ | 2, _ | 3, _ | 4, _ | 5, _ | 6, _ | 7, _ | 8, _ | 9, _ => rfl
theorem tD_small {m : Nat} (h : m < 10) : tD m = [48 + m] := by
  unfold tD
  rw [Nat.toDigits_of_lt_base h]
  show [(Nat.digitChar m).toNat] = _
  rw [dig_nat h]
theorem tD_big {m : Nat} (h : 10 ≤ m) : tD m = tD (m / 10) ++ [48 + m % 10] := by
  unfold tD
  rw [Nat.toDigits_of_base_le (by decide) h, List.map_append]
  show _ ++ [(Nat.digitChar (m % 10)).toNat] = _
  rw [dig_nat (Nat.mod_lt _ (by decide))]
theorem fgF_inv {n : Int} (h : 0 < n) : ∀ i, (0 < fgN n i → tD n.toNat = tD (fgN n i).toNat ++ cd (fgF n i)) ∧ (fgN n i = 0 → tD n.toNat = cd (fgF n i))
  | 0 => by
    refine ⟨fun _ => ?_, fun e => ?_⟩
    · rw [show fgF n 0 = ("" : Str) from rfl, cd_nil, List.append_nil]; rfl
    · have : n = 0 := e
      omega
  | i + 1 => by
    obtain ⟨h1, h2⟩ := fgF_inv h i
    have nn := fgN_nn (Int.le_of_lt h) i
    by_cases z : 0 < fgN n i
    · have eF : cd (fgF n (i + 1)) = (48 + (fgN n i).toNat % 10) :: cd (fgF n i) := by
        show cd (cond (decide ((0 : Int) < fgN n i)) (fig (fgN n i % (10 : Int)) ++ fgF n i) (fgF n i)) = _
        rw [decide_eq_true z]
        show cd (fig (fgN n i % 10) ++ fgF n i) = _
        rw [cd_app]
        show [(48 + fgN n i % 10).toNat] ++ _ = _
        rw [show (48 + fgN n i % 10).toNat = 48 + (fgN n i).toNat % 10 by omega]
        rfl
      have eN : (fgN n (i + 1)).toNat = (fgN n i).toNat / 10 := by
        show (fgN n i / 10).toNat = _
        omega
      have t := h1 z
      refine ⟨fun q => ?_, fun q => ?_⟩
      · have q : 0 < fgN n i / 10 := q
        rw [t, eF, eN, tD_big (by omega), List.append_assoc]; rfl
      · have q : fgN n i / 10 = 0 := q
        rw [t, eF, tD_small (by omega), show (fgN n i).toNat % 10 = (fgN n i).toNat by omega]; rfl
    · have z : fgN n i = 0 := by omega
      have eF : fgF n (i + 1) = fgF n i := (fgF_stop z 1).1
      rw [eF]
      refine ⟨fun q => ?_, fun _ => h2 z⟩
      have : fgN n (i + 1) = 0 := (fgF_stop z 1).2
      omega
theorem ofS_cd (m : Nat) : cd (Str.ofString (toString ((m : Nat) : Int))) = tD m := PySem.W.KIN.signs_num m
theorem fgS_str {n : Int} (h0 : 0 ≤ n) (h1 : n < 10 ^ 60) : fgS n = Str.ofString (toString n) := by
  unfold fgS
  by_cases e : n = 0
  · subst e
    rw [decide_eq_true rfl]
    decide +kernel
  · rw [decide_eq_false e]
    show fgF n 60 = _
    refine cd_ext ?_
    have t := (fgF_inv (show 0 < n by omega) 60).2 (fgN_zero 60 h0 h1)
    obtain ⟨m, rfl⟩ := Int.eq_ofNat_of_zero_le h0
    rw [ofS_cd]
    exact t.symm
theorem fgS_len {n : Int} : (fgS n).length ≤ 60 := by
  unfold fgS
  cases decide (n = (0 : Int))
  · exact fgF_len n 60
  · show ("0" : Str).length ≤ 60
    decide +kernel
theorem log_ok {n : Int} (h0 : 0 ≤ n) (h1 : n < 10 ^ 60) : n.natAbs.log2 < 1920 := by
  by_cases e : n.natAbs = 0
  · rw [e]; decide +kernel
  · rw [Nat.log2_lt e]
    refine Nat.lt_of_lt_of_le (show n.natAbs < 10 ^ 60 by omega) ?_
    decide +kernel
end Toy
namespace Toy
open PySem L2 Lk
abbrev SP : Str := (" " : Str)
def strZ (x : Int) : Str := Str.ofString (toString x)
def lineW (w : Str) (ns : List Int) : Str := Txt.join SP (w :: ns.map fgS)
def lineS (w : Str) (ns : List Int) : Str := w ++ SP ++ Txt.join SP (ns.map strZ)
def Fig (ns : List Int) : Prop := ∀ x ∈ ns, 0 ≤ x ∧ x < 10 ^ 60
theorem strZ_w {x : Int} (h : 0 ≤ x ∧ x < 10 ^ 60) : strZ x = fgS x := (fgS_str h.1 h.2).symm
theorem maps_w {ns : List Int} (h : Fig ns) : ns.map strZ = ns.map fgS := List.map_congr_left fun x hx => strZ_w (h x hx)
theorem line_eq {w : Str} {x : Int} {ns : List Int} (h : Fig (x :: ns)) : lineS w (x :: ns) = lineW w (x :: ns) := by
  unfold lineS lineW
  rw [maps_w h]
  exact (join_cons SP w (fgS x) (ns.map fgS)).symm
theorem SP_len : SP.length = 1 := by decide +kernel
theorem strs_len {ns : List Int} (h : Fig ns) : ∀ y ∈ ns.map strZ, y.length ≤ 60 := fun y hy => by
  rw [maps_w h] at hy
  obtain ⟨x, _, rfl⟩ := List.mem_map.mp hy
  exact fgS_len
theorem ws_len (ns : List Int) : ∀ y ∈ ns.map fgS, y.length ≤ 60 := fun y hy => by
  obtain ⟨x, _, rfl⟩ := List.mem_map.mp hy
  exact fgS_len
theorem strs_sum {ns : List Int} (h : Fig ns) (hl : ns.length ≤ 5) : ((ns.map strZ).map (·.length)).sum + (ns.map strZ).length * SP.length ≤ 16777216 := by
  have := sum_len _ (strs_len h)
  rw [SP_len]
  rw [List.length_map] at this ⊢
  omega
theorem strs_join {ns : List Int} (h : Fig ns) (hl : ns.length ≤ 5) : (Txt.join SP (ns.map strZ)).length ≤ 305 := by
  have := join_len SP _ (strs_len h)
  rw [SP_len, List.length_map] at this
  omega
theorem ws_sum {w : Str} {ns : List Int} (hw : w.length ≤ 60) (hl : ns.length ≤ 5) : ((w :: ns.map fgS).map (·.length)).sum + (w :: ns.map fgS).length * SP.length ≤ 16777216 := by
  have := sum_len (m := 60) (w :: ns.map fgS) (fun y hy => by
    rcases List.mem_cons.mp hy with e | e
    · rw [e]; exact hw
    · exact ws_len ns y e)
  rw [SP_len]
  rw [List.length_cons, List.length_map] at this ⊢
  omega
/-- the rows of a net -/
def rowsW (n : Net) : List Str := lineW ("poles" : Str) [n.1.1, n.1.2] :: n.2.map fun (t1 : Tie) => lineW ("tie" : Str) [t1.1, t1.2.1, t1.2.2]
def FigN (n : Net) : Prop := Fig [n.1.1, n.1.2] ∧ ∀ t ∈ n.2, Fig [t.1, t.2.1, t.2.2]
theorem okS_app {a b : Str} (ha : PyData.strOk a = true) (hb : PyData.strOk b = true) : PyData.strOk (a ++ b) = true := by
  unfold PyData.strOk at *
  rw [Array.all_eq_true'] at *
  intro x hx
  have hx : x ∈ a.cps ++ b.cps := hx
  rcases Array.mem_append.mp hx with h | h
  · exact ha x h
  · exact hb x h
theorem okS_join : ∀ ys : List Str, (∀ y ∈ ys, PyData.strOk y = true) → PyData.strOk (Txt.join SP ys) = true
  | [], _ => by decide +kernel
  | [w], h => h w (by simp)
  | w :: y :: ys, h => by
    rw [join_cons]
    exact okS_app (okS_app (h w (by simp)) (by decide +kernel)) (okS_join (y :: ys) fun z hz => h z (List.mem_cons_of_mem _ hz))
theorem okS_fig {d : Int} (h0 : 0 ≤ d) (h1 : d < 10) : PyData.strOk (fig d) = true := by
  obtain ⟨m, rfl⟩ := Int.eq_ofNat_of_zero_le h0
  have : m < 10 := by omega
  match m, this with
  | 0, _ | 1, _ | 2, _ | 3, _ | 4, _ | 5, _ | 6, _ | 7, _ | 8, _ | 9, _ => decide +kernel
theorem okS_fgF (n : Int) : ∀ i, PyData.strOk (fgF n i) = true
  | 0 => by show PyData.strOk ("" : Str) = true; decide +kernel
  | i + 1 => by
    show PyData.strOk (cond (decide ((0 : Int) < fgN n i)) (fig (fgN n i % (10 : Int)) ++ fgF n i) (fgF n i)) = true
    cases decide ((0 : Int) < fgN n i)
    · exact okS_fgF n i
    · exact okS_app (okS_fig (by omega) (by omega)) (okS_fgF n i)
theorem okS_w (n : Int) : PyData.strOk (fgS n) = true := by
  unfold fgS
  cases decide (n = (0 : Int))
  · exact okS_fgF n 60
  · show PyData.strOk ("0" : Str) = true
    decide +kernel
theorem okS_line {w : Str} (hw : PyData.strOk w = true) (ns : List Int) : PyData.strOk (lineW w ns) = true := okS_join _ fun y hy => by
  rcases List.mem_cons.mp hy with e | e
  · rw [e]; exact hw
  · obtain ⟨x, _, rfl⟩ := List.mem_map.mp e
    exact okS_w x
theorem okS_rows (n : Net) : ∀ x ∈ rowsW n, PyData.strOk x = true := fun x hx => by
  rcases List.mem_cons.mp hx with e | e
  · rw [e]; exact okS_line (by decide +kernel) _
  · obtain ⟨t, _, rfl⟩ := List.mem_map.mp e
    exact okS_line (by decide +kernel) _
end Toy
namespace Lk
open PySem L2
section
variable {X : Cx} {ss : List Sl} {a b e : Expr} {p pos apos : Pos} {k : Nat} {i : Int} {z y : Str} {ys : List Str} {c : Nat}
theorem RepL.of_strs {K : PySem.W.Frag} {G : Hp} : ∀ ys : List Str, RepL K G (ys.map V.str) (ys.map D.str)
  | [] => .nil
  | _ :: ys => .cons (.str _) (RepL.of_strs ys)
/-- x.split(y) -/
theorem ee_split (h : EE X ss a (.dat (.str z))) (hb : EE X ss b (.dat (.str y))) (hy : (y.length == 0) = false) (hz : z.length + 2 ≤ sizeLine) (hs : starEach [b] X.env = [(false, eval b X.env)] := by rfl) (hbase : attributeBase a "split" X.env (eval a X.env) = eval a X.env := by rfl) (hline : (apos.endLine == pos.line) = true := by rfl) :
    EE X ss (.Call (.Attribute a "split" apos) [b] [] pos) (.own (.lst ((Txt.split z y).map D.str))) := fun B G σ H S Q q =>
  e_of (pe_split pe_m pe_m hs hbase hline) (h B G σ H S _ fun G1 H1 v t1 r1 => ⟨⟨z, r1.str_inv⟩, hb B G1 σ H1 (S.step t1) _ fun G2 H2 w t2 r2 =>
    ⟨z, y, r1.str_inv, by rw [r2.str_inv], hy, hz, fun p hp => q G2 _ _ ((t1.trans t2).trans (.new (t1.trans t2).gh hp)) (.lst ((t1.trans t2).h.back hp) ((t1.trans t2).gh.back hp) upd_same (RepL.of_strs _))⟩⟩)
theorem ec_notinSg (ha : EE X ss a (.dat (.str ⟨#[c]⟩))) (hb : EE X ss b (.dat (.str z))) : EC X ss .NotIn a b (!decide (c ∈ z.cps.toList)) := fun B G σ H S Q q =>
  c_of op_notIn_sign (ha B G σ H S _ fun G1 H1 v t1 r1 => hb B G1 σ H1 (S.step t1) _ fun G2 H2 w t2 r2 => ⟨c, z, r1.str_inv, r2.str_inv, q G2 H2 (t1.trans t2)⟩)
theorem ee_intS (g : Bi X "int") (h : EE X ss a (.dat (.str z))) (hn : intText? z = some i) (hl : z.length ≤ 640) (A : A1 X a pos := by exact ⟨rfl, rfl⟩) : EE X ss (.Call (.Name "int" p) [a] [] pos) (.dat (.int i)) := fun B G σ H S Q q =>
  e_of (pe_callTy call_int_str g.g g.m PyProof.Rows.boot_int (pa_cons pe_m pa_nil A.he) (he := A.he) (hpl := A.hpl)) (h B G σ H S _ fun G1 H1 v t1 r1 => ⟨z, i, by rw [r1.str_inv], hn, hl, q G1 H1 _ t1 (.int _)⟩)
end
end Lk
namespace Toy
open PySem L2 Lk
theorem fgS_cd {n : Int} (h : 0 ≤ n ∧ n < 10 ^ 60) : cd (fgS n) = tD n.toNat := by
  rw [fgS_str h.1 h.2]
  obtain ⟨m, rfl⟩ := Int.eq_ofNat_of_zero_le h.1
  exact ofS_cd m
theorem tD_num (m : Nat) : tD m = TL.numL m := rfl
theorem fgS_sign {n : Int} (h : 0 ≤ n ∧ n < 10 ^ 60) {c : Nat} (hc : c ∈ cd (fgS n)) : c ∈ cd ("0123456789" : Str) := by
  rw [fgS_cd h, tD_num] at hc
  have := TL.numL_digits _ c hc
  rw [figs]
  have : c = 48 ∨ c = 49 ∨ c = 50 ∨ c = 51 ∨ c = 52 ∨ c = 53 ∨ c = 54 ∨ c = 55 ∨ c = 56 ∨ c = 57 := by omega
  simpa using this
theorem fgS_free {n : Int} (h : 0 ≤ n ∧ n < 10 ^ 60) : 32 ∉ cd (fgS n) := by
  rw [fgS_cd h, tD_num]
  exact TL.numL_free (by omega)
theorem fgS_ne {n : Int} (h : 0 ≤ n ∧ n < 10 ^ 60) : cd (fgS n) ≠ [] := by
  rw [fgS_cd h, tD_num]
  exact TL.numL_ne _
theorem fgS_int {n : Int} (h : 0 ≤ n ∧ n < 10 ^ 60) : intText? (fgS n) = some n := by
  have hl := fgS_len (n := n)
  rw [fgS_str h.1 h.2] at hl ⊢
  obtain ⟨m, rfl⟩ := Int.eq_ofNat_of_zero_le h.1
  refine TL.int_num ?_
  rw [TL.len_tl, TL.tl_num] at hl
  exact Nat.le_trans hl (by decide)
/-- the first figure is no 0 but for 0 itself -/
theorem tD_head : ∀ m : Nat, 0 < m → (tD m).head? ≠ some 48 := by
  intro m
  induction m using Nat.strongRecOn with
  | _ m ih =>
    intro hm
    by_cases h : m < 10
    · rw [tD_small h]
      intro e
      have : 48 + m = 48 := by simpa using e
      omega
    · rw [tD_big (by omega)]
      have i := ih (m / 10) (by omega) (by omega)
      cases e : tD (m / 10) with
      | nil => rw [tD_num] at e; exact absurd e (TL.numL_ne _)
      | cons x xs => rw [e] at i; exact i
theorem fgS_zero {n : Int} (h : 0 ≤ n ∧ n < 10 ^ 60) (hl : 1 < (fgS n).length) : (cd (fgS n)).head? ≠ some 48 := by
  have e := fgS_cd h
  rw [len_cd, e] at hl
  rw [e]
  refine tD_head _ ?_
  have : 0 < n.toNat ∨ n.toNat = 0 := by omega
  rcases this with q | q
  · exact q
  · rw [q, tD_small (by decide)] at hl
    exact absurd hl (by decide)
theorem line_split {w : Str} {ns : List Int} (h : Fig ns) (hw : 32 ∉ cd w) : Txt.split (lineW w ns) SP = w :: ns.map fgS := by
  unfold lineW
  refine TL.split_join (S := []) (s := 32) cd_blank (by decide +kernel) (by simp) fun p hp => ?_
  rcases List.mem_cons.mp hp with e | e
  · rw [e]; exact hw
  · obtain ⟨x, hx, rfl⟩ := List.mem_map.mp e
    exact fgS_free (h x hx)
theorem lineW_len {w : Str} {ns : List Int} (hw : w.length ≤ 60) (hl : ns.length ≤ 5) : (lineW w ns).length ≤ 366 := by
  unfold lineW
  have := join_len SP (m := 60) (w :: ns.map fgS) (fun y hy => by
    rcases List.mem_cons.mp hy with e | e
    · rw [e]; exact hw
    · exact ws_len ns y e)
  rw [SP_len, List.length_cons, List.length_map] at this
  omega
end Toy
namespace L2
open PySem PySem.Spec PyProof.Rows
end L2
namespace Lk
open PySem L2
end Lk
namespace Lk
open PySem L2
end Lk
namespace L2
open PySem PySem.Spec PyProof.Rows
end L2
namespace Lk
open PySem L2
end Lk
namespace Lk
open PySem L2
end Lk
namespace Lk
open PySem L2
end Lk
namespace Lk
open PySem L2
end Lk
namespace Lk
open PySem L2
end Lk
namespace Lk
open PySem L2
end Lk
namespace Lk
open PySem L2
section
variable {X : Cx} {k n b : Nat} {ss : List Sl} {e a c : Expr} {sts body : List Stmt} {x : Str} {pos pos' p p2 p3 : Pos} {P : Post} {good : D → Str → Prop} {ks : List D} {d : D} {a0 : Addr} {v : Str}
/-- tuple(x) of a list -/
theorem ee_tupL {ds : List D} (g : Bi X "tuple") (h : EL X ss a ds) (na : starEach [a] X.env = (false, eval a X.env) :: starEach [] X.env := by rfl) : EE X ss (.Call (.Name "tuple" p) [a] [] pos) (.dat (.tup ds)) := fun B G σ H S Q q =>
  e_of (pe_tupleOf g.g g.m pe_m na) (h B G σ H S _ fun G1 H1 l xs t1 h1 h2 => by
      refine .inl ⟨l, xs, rfl, h1, fun y hy => ?_⟩
      have t2 : Stp G1 H1 (upd G1 y (.tup xs)) (upd H1 y (.tup xs)) := .newF t1.gh hy
      exact q _ _ _ (t1.trans t2) (.tup (.of upd_same) (h2.mono t2.g)))
end
end Lk
namespace L2
open PySem PySem.W PySem.Spec PyProof.Rows
end L2
namespace Lk
open PySem L2
def oI : Option Int → D
  | none => .non
  | some i => .int i
end Lk
namespace Lk
open PySem L2
section
variable {X : Cx} {ss : List Sl} {a b e : Expr} {p pos apos : Pos} {ds : List D}
theorem ei_enumV {elts : List Expr} {kk : Nat} {tpos : Pos} (hg : Gl X "enumerate") (hm : X.mg "enumerate" = none) (hl : EVB X ss a (.lst ds)) (hs : starEach [a] X.env = (false, eval a X.env) :: starEach [] X.env := by rfl) (hs2 : starEach [a] X.env = [(false, eval a X.env)] := by rfl) :
    EI X ss (.Tuple elts kk tpos) (.Call (.Name "enumerate" p) [a] [] pos) (enuD ds) := fun B G σ H S R q =>
  i_of (pi_enum hg hm (pa_cons pe_m pa_nil hs) hs2) (hl B G σ H S _ fun a G1 H1 t1 w => by
    have S1 := S.step t1
    have key : ∃ xs, H1 a = some (.lst xs) ∧ RepL X.K G1 xs ds ∧ (B.H0 a = some (.lst xs) ∨ G1 a = some (.lst xs)) := by
      cases w with
      | own w =>
        cases w with
        | @lst _ xs _ h1 h2 => exact ⟨xs, S1.st.h _ _ h1, h2.mono S1.v0, .inl h1⟩
      | dat r =>
        cases (show Rep X.K B.V0 (.ref a) (.lst ds) from r) with
        | @lst _ xs _ h1 h2 => exact ⟨xs, S1.gh _ _ (S1.v0 _ _ h1), h2.mono S1.v0, .inr (S1.v0 _ _ h1)⟩
    obtain ⟨xs, h1, h2, h3⟩ := key
    refine ⟨a, xs, rfl, .of h1, ?_⟩
    have w := walk_enum (K := X.K) (a := a) (xs := xs)
    rw [h2.length, ← enuD_len ds] at w
    refine q _ G1 H1 _ _ t1 w (fun H' e1 e => .of (h3.elim (fun z => e _ _ z) fun z => e1 _ _ z)) fun i H2 y H3 G2 hi hy e1 e2 => ?_
    obtain ⟨T, u, v, e3, e4, e5, e6, e7⟩ := hy
    obtain ⟨d, e8, e9⟩ := h2.getV e7
    have e6 := Option.some.inj e6
    subst e3 e5 e6
    exact ⟨_, _, enuD_get e8, .newF e2 e4, .tup (.of upd_same) (.cons (.int _) (.cons (e9.mono (e1.trans (.new (e2.back e4)))) .nil))⟩)
end
end Lk
namespace Toy
open PySem L2 Lk
def DG : List Nat := cd ("0123456789" : Str)
theorem DG_iff {c : Nat} : c ∈ DG ↔ 48 ≤ c ∧ c ≤ 57 := by
  unfold DG
  rw [figs]
  simp only [List.mem_cons, List.not_mem_nil, or_false]
  omega
/-- number_written -/
def numW (z : Str) : Option Int :=
  cond (decide ((z.length : Int) = 0) || decide ((60 : Int) < (z.length : Int))) none
    (cond (decide ((cd z).head? = some 48) && decide ((1 : Int) < (z.length : Int))) none
      (cond ((cd z).all fun c => decide (c ∈ DG)) (some ((NumText.digitsVal (cd z) : Nat) : Int)) none))
theorem numW_int {z : Str} (h0 : 0 < z.length) (h1 : z.length ≤ 60) (h : ∀ c ∈ cd z, c ∈ DG) : intText? z = some ((NumText.digitsVal (cd z) : Nat) : Int) :=
  PySem.intText_digits (x := z) (fun c hc => DG_iff.mp (h c hc)) (fun e => by rw [len_cd, show cd z = [] from e] at h0; exact absurd h0 (by decide)) (by omega)
theorem numW_fg {n : Int} (h : 0 ≤ n ∧ n < 10 ^ 60) : numW (fgS n) = some n := by
  have hl := fgS_len (n := n)
  have hne : 0 < (fgS n).length := by rw [len_cd]; exact List.length_pos_iff.mpr (fgS_ne h)
  have hs : ∀ c ∈ cd (fgS n), c ∈ DG := fun c hc => fgS_sign h hc
  have e1 := numW_int hne hl hs
  rw [fgS_int h] at e1
  unfold numW
  rw [decide_eq_false (show ¬ ((fgS n).length : Int) = 0 by omega), decide_eq_false (show ¬ (60 : Int) < ((fgS n).length : Int) by omega)]
  have e2 : (decide ((cd (fgS n)).head? = some 48) && decide ((1 : Int) < ((fgS n).length : Int))) = false := by
    by_cases q : 1 < (fgS n).length
    · rw [decide_eq_false (fgS_zero h q)]; rfl
    · rw [decide_eq_false (show ¬ (1 : Int) < ((fgS n).length : Int) by omega), Bool.and_false]
  rw [e2, List.all_eq_true.mpr fun c hc => decide_eq_true (hs c hc)]
  exact e1.symm
def numsL : List Str → Option (List Int)
  | [] => some []
  | p :: ps => (numW p).bind fun n => (numsL ps).map (n :: ·)
theorem numsL_fg : ∀ {ns : List Int}, Fig ns → numsL (ns.map fgS) = some ns
  | [], _ => rfl
  | n :: ns, h => by
    show (numW (fgS n)).bind _ = _
    rw [numW_fg (h n (by simp))]
    show (numsL (ns.map fgS)).map (n :: ·) = _
    rw [numsL_fg fun x hx => h x (by simp [hx])]
    rfl
theorem numsL_app : ∀ {xs ys : List Str} {ns : List Int}, numsL xs = some ns → numsL (xs ++ ys) = (numsL ys).map (ns ++ ·)
  | [], ys, ns, h => by
    have h : [] = ns := Option.some.inj h
    subst h
    show numsL ys = _
    cases numsL ys <;> rfl
  | x :: xs, ys, ns, h => by
    show (numW x).bind (fun n => (numsL (xs ++ ys)).map (n :: ·)) = _
    have h : (numW x).bind (fun n => (numsL xs).map (n :: ·)) = some ns := h
    cases e : numW x with
    | none => rw [e] at h; cases h
    | some n =>
      rw [e] at h
      have h : (numsL xs).map (n :: ·) = some ns := h
      cases e2 : numsL xs with
      | none => rw [e2] at h; cases h
      | some ms =>
        rw [e2] at h
        have h : n :: ms = ns := Option.some.inj h
        subst h
        show (numsL (xs ++ ys)).map (n :: ·) = _
        rw [numsL_app e2]
        cases numsL ys <;> rfl
theorem numsL_bad : ∀ {xs ys : List Str} {x : Str}, numW x = none → numsL (xs ++ x :: ys) = none
  | [], ys, x, h => by
    show (numW x).bind _ = none
    rw [h]; rfl
  | u :: xs, ys, x, h => by
    show (numW u).bind (fun n => (numsL (xs ++ x :: ys)).map (n :: ·)) = none
    rw [numsL_bad h]
    cases numW u <;> rfl
def oT : Option (List Int) → D
  | none => .non
  | some ns => .tup (ns.map D.int)
def wordsT (z : Str) : List Str := Txt.split z SP
theorem wordsT_ne (z : Str) : wordsT z ≠ [] := by
  unfold wordsT Txt.split
  split
  · simp
  · split
    · simp
    · intro e
      have := congrArg List.length e
      rw [PySem.length_partsBetween] at this
      simp at this
/-- numbers_written -/
def numsW (z w : Str) (k : Int) : Option (List Int) :=
  cond ((!decide ((wordsT z).headD "" = w)) || (!decide (((wordsT z).length : Int) = k + (1 : Int)))) none (numsL (wordsT z).tail)
theorem numsW_line {w : Str} {ns : List Int} {k : Int} (h : Fig ns) (hw : 32 ∉ cd w) (hk : k = (ns.length : Int)) : numsW (lineW w ns) w k = some ns := by
  unfold numsW wordsT
  rw [line_split h hw]
  show cond ((!decide (w = w)) || (!decide (((w :: ns.map fgS).length : Int) = k + 1))) none (numsL (ns.map fgS)) = _
  rw [decide_eq_true rfl, decide_eq_true (show ((w :: ns.map fgS).length : Int) = k + 1 by rw [List.length_cons, List.length_map]; omega)]
  exact numsL_fg h
end Toy
namespace Toy
open PySem L2 Lk
/-- a marking of the places pl: every place once, its mark -/
structure Mg (M : List (Int × Int)) (pl : List Int) : Prop where
  nd : (M.map (·.1)).Nodup
  mem : ∀ x, x ∈ M.map (·.1) ↔ x ∈ pl
def lpl (n : Net) : List Int := ([n.1.1, n.1.2] ++ (n.2.map fun (t1 : Tie) => (t1).2.1)) ++ (n.2.map fun (t1 : Tie) => (t1).2.2)
theorem lpl_mem {n : Net} {x : Int} : x ∈ lpl n ↔ x ∈ placesP n := by
  rw [placesP_mem]
  unfold lpl
  simp only [List.mem_append, List.mem_cons, List.not_mem_nil, or_false, List.mem_map]
  constructor
  · rintro (((h | h) | ⟨t, h1, h2⟩) | ⟨t, h1, h2⟩)
    · exact .inl h
    · exact .inr (.inl h)
    · exact .inr (.inr ⟨t, h1, .inl h2.symm⟩)
    · exact .inr (.inr ⟨t, h1, .inr h2.symm⟩)
  · rintro (h | h | ⟨t, h1, h2 | h2⟩)
    · exact .inl (.inl (.inl h))
    · exact .inl (.inl (.inr h))
    · exact .inl (.inr ⟨t, h1, h2.symm⟩)
    · exact .inr ⟨t, h1, h2.symm⟩
def mkI (l : List Int) : List (Int × Int) := l.foldl (fun m p => put m p p) []
theorem mkI_snoc (l : List Int) (p : Int) : mkI (l ++ [p]) = put (mkI l) p p := by
  unfold mkI
  rw [List.foldl_append]
  rfl
theorem mkI_ok (l : List Int) : ((mkI l).map (·.1)).Nodup ∧ (∀ x, x ∈ (mkI l).map (·.1) ↔ x ∈ l) ∧ (∀ x a, look (mkI l) x = some a → a = x) ∧ (mkI l).length ≤ l.length := by
  suffices h : ∀ k, k ≤ l.length → ((mkI (l.take k)).map (·.1)).Nodup ∧ (∀ x, x ∈ (mkI (l.take k)).map (·.1) ↔ x ∈ l.take k) ∧ (∀ x a, look (mkI (l.take k)) x = some a → a = x) ∧ (mkI (l.take k)).length ≤ k by
    have := h l.length (Nat.le_refl _)
    rw [List.take_length] at this
    exact this
  intro k
  induction k with
  | zero => intro _; rw [List.take_zero]; exact ⟨.nil, fun x => Iff.rfl, fun x a h => (by cases h), Nat.le_refl _⟩
  | succ k ih =>
    intro hk
    obtain ⟨i1, i2, i3, i4⟩ := ih (by omega)
    rw [List.take_succ, List.getElem?_eq_getElem (show k < l.length by omega)]
    show ((mkI (l.take k ++ [l[k]])).map (·.1)).Nodup ∧ (∀ x, x ∈ (mkI (l.take k ++ [l[k]])).map (·.1) ↔ x ∈ l.take k ++ [l[k]]) ∧ (∀ x a, look (mkI (l.take k ++ [l[k]])) x = some a → a = x) ∧ (mkI (l.take k ++ [l[k]])).length ≤ k + 1
    rw [mkI_snoc]
    refine ⟨nodup_put i1, fun x => ?_, fun x a h => ?_, ?_⟩
    · rw [key_put, i2, List.mem_append, List.mem_singleton]
      exact ⟨fun h => h.elim .inr .inl, fun h => h.elim .inr .inl⟩
    · rw [look_put] at h
      split at h
      · rename_i e
        cases h
        exact e
      · exact i3 x a h
    · have := put_len (m := mkI (l.take k)) (k := l[k]) (v := l[k])
      omega
theorem mkI_mk (l : List Int) : Mk (mkI l) [] := ⟨(mkI_ok l).1, fun p q a b h1 h2 => by
  rw [con_nil, (mkI_ok l).2.2.1 _ _ h1, (mkI_ok l).2.2.1 _ _ h2]⟩
def lstep (row : List Int) (m : List (Int × Int)) (t : Tie) : List (Int × Int) := cond (decide (t.1 ∈ row)) (relab m (lk m t.2.2) (lk m t.2.1)) m
theorem lstep_keys (row : List Int) (m : List (Int × Int)) (t : Tie) : (lstep row m t).map (·.1) = m.map (·.1) := by
  unfold lstep
  cases decide (t.1 ∈ row)
  · rfl
  · exact relab_keys
def lmTo (n : Net) (row : List Int) (ts : List Tie) : List (Int × Int) := ts.foldl (lstep row) (mkI (lpl n))
abbrev lmarks (n : Net) (row : List Int) : List (Int × Int) := lmTo n row n.2
theorem lmTo_keys (n : Net) (row : List Int) (ts : List Tie) : (lmTo n row ts).map (·.1) = (mkI (lpl n)).map (·.1) := by
  have key : ∀ (ts : List Tie) (m : List (Int × Int)), (ts.foldl (lstep row) m).map (·.1) = m.map (·.1) := by
    intro ts
    induction ts with
    | nil => intro m; rfl
    | cons t ts ih => intro m; show (ts.foldl (lstep row) (lstep row m t)).map (·.1) = _; rw [ih, lstep_keys]
  exact key ts _
theorem lm_fold {row : List Int} {pl : List Int} : ∀ (ts : List Tie) (m l : List (Int × Int)), (∀ t ∈ ts, t.2.1 ∈ pl ∧ t.2.2 ∈ pl) → (∀ x, x ∈ m.map (·.1) ↔ x ∈ pl) → Mk m l → ∃ l', Mk (ts.foldl (lstep row) m) l' ∧ ∀ e, e ∈ l' ↔ e ∈ l ∨ e ∈ eds (ts.filter fun t => decide (t.1 ∈ row))
  | [], m, l, _, hk, M => ⟨l, M, fun e => by simp⟩
  | t :: ts, m, l, ht, hk, M => by
    obtain ⟨h1, h2⟩ := ht t (by simp)
    have hk' : ∀ x, x ∈ (lstep row m t).map (·.1) ↔ x ∈ pl := fun x => by rw [lstep_keys]; exact hk x
    have u1 := lk_key (m := m) (p := t.2.1) ((hk _).mpr h1)
    have u2 := lk_key (m := m) (p := t.2.2) ((hk _).mpr h2)
    have ht' : ∀ t ∈ ts, t.2.1 ∈ pl ∧ t.2.2 ∈ pl := fun u hu => ht u (by simp [hu])
    by_cases hr : t.1 ∈ row
    · have M' : Mk (lstep row m t) (t.2 :: l) := by
        unfold lstep
        rw [decide_eq_true hr]
        show Mk (relab m (lk m t.2.2) (lk m t.2.1)) ((t.2.1, t.2.2) :: l)
        exact M.step u1 u2 (.inr ⟨rfl, rfl⟩)
      obtain ⟨l', k2, k3⟩ := lm_fold ts _ _ ht' hk' M'
      refine ⟨l', k2, fun e => ?_⟩
      rw [k3, List.filter_cons, if_pos (decide_eq_true hr)]
      simp only [List.mem_cons, List.map_cons]
      constructor
      · rintro ((q | q) | q)
        · exact .inr (.inl q)
        · exact .inl q
        · exact .inr (.inr q)
      · rintro (q | q | q)
        · exact .inl (.inr q)
        · exact .inl (.inl q)
        · exact .inr q
    · have M' : Mk (lstep row m t) l := by
        unfold lstep
        rw [decide_eq_false hr]
        exact M
      obtain ⟨l', k2, k3⟩ := lm_fold ts _ _ ht' hk' M'
      refine ⟨l', k2, fun e => ?_⟩
      rw [k3, List.filter_cons, if_neg (by simpa using hr)]
theorem lmarks_mg (n : Net) (row : List Int) : Mg (lmarks n row) (placesP n) := ⟨by rw [lmTo_keys]; exact (mkI_ok _).1, fun x => by rw [lmTo_keys, (mkI_ok _).2.1, lpl_mem]⟩
theorem lmarks_con {n : Net} {row : List Int} {p q : Int} (hp : p ∈ placesP n) (hq : q ∈ placesP n) : lk (lmarks n row) p = lk (lmarks n row) q ↔ Rk.Con (eds (n.2.filter fun t => decide (t.1 ∈ row))) p q := by
  obtain ⟨l', k2, k3⟩ := lm_fold (row := row) (pl := placesP n) n.2 (mkI (lpl n)) [] tie_places (fun x => by rw [(mkI_ok _).2.1, lpl_mem]) (mkI_mk _)
  have hk := (lmarks_mg n row).mem
  have h := k2.con p q _ _ (lk_key ((hk p).mpr hp)) (lk_key ((hk q).mpr hq))
  exact h.trans (con_set fun e => by rw [k3]; simp)
end Toy
namespace Toy
open PySem L2 Lk
theorem placesP_le (n : Net) : (placesP n).Pairwise (· ≤ ·) := srt_le _
end Toy
namespace Toy
open PySem L2 Lk
open Rk (Con con_cons)
def leP (n : Net) (row : List Int) (p : Int) : Int := ((placesP n).find? fun q => decide (lk (lmarks n row) q = lk (lmarks n row) p)).getD p
abbrev rowE' (n : Net) (row : List Int) : List (Int × Int) := eds (n.2.filter fun t => decide (t.1 ∈ row))
structure IsLe (n : Net) (row : List Int) (p m : Int) : Prop where
  mem : m ∈ placesP n
  con : Con (rowE' n row) p m
  le : ∀ q ∈ placesP n, Con (rowE' n row) p q → m ≤ q
theorem IsLe.uniq {n : Net} {row : List Int} {p m m' : Int} (h : IsLe n row p m) (h' : IsLe n row p m') : m = m' :=
  Int.le_antisymm (h.le _ h'.mem h'.con) (h'.le _ h.mem h.con)
theorem find_least {l : List Int} (hs : l.Pairwise (· ≤ ·)) {f : Int → Bool} {m : Int} (h : l.find? f = some m) : ∀ q ∈ l, f q = true → m ≤ q := by
  induction l with
  | nil => cases h
  | cons x l ih =>
    have hs' := List.pairwise_cons.mp hs
    rw [List.find?_cons] at h
    intro q hq hf
    cases hx : f x with
    | true =>
      rw [hx] at h
      cases h
      rcases List.mem_cons.mp hq with e | e
      · subst e; exact Int.le_refl _
      · exact hs'.1 q e
    | false =>
      rw [hx] at h
      rcases List.mem_cons.mp hq with e | e
      · subst e; rw [hx] at hf; cases hf
      · exact ih hs'.2 h q e hf
theorem leP_ok {n : Net} {row : List Int} {p : Int} (hp : p ∈ placesP n) : IsLe n row p (leP n row p) := by
  unfold leP
  cases e : (placesP n).find? fun q => decide (lk (lmarks n row) q = lk (lmarks n row) p) with
  | none =>
    have := List.find?_eq_none.mp e p hp
    simp at this
  | some m =>
    have hm := List.mem_of_find?_eq_some e
    have h1 : lk (lmarks n row) m = lk (lmarks n row) p := by have := List.find?_some e; simpa using this
    refine ⟨hm, ((lmarks_con hm hp).mp h1).symm, fun q hq hc => ?_⟩
    exact find_least (placesP_le n) e q hq (decide_eq_true ((lmarks_con hq hp).mpr hc.symm))
theorem IsLe.of {n : Net} {row : List Int} {p m : Int} (hp : p ∈ placesP n) (h : IsLe n row p m) : leP n row p = m := (leP_ok hp).uniq h
end Toy
namespace Toy
open PySem L2 Lk
/-- a row of ties to be taken one by one -/
structure RowD (n : Net) (row : List Int) : Prop where
  nd : row.Nodup
  sub : ∀ x ∈ row, x ∈ namesP n
theorem RowD.take {n : Net} {row : List Int} (h : RowD n row) (i : Nat) : RowD n (row.take i) := ⟨h.nd.sublist (List.take_sublist _ _), fun x hx => h.sub x (List.mem_of_mem_take hx)⟩
end Toy
namespace Toy
open PySem L2 Lk
open Rk (Con con_cons)
def m__law_own (s : List Int) : Bool := (decide (((mA__law_cell_at (s) ((3 : Int))) % (2 : Int)) = (1 : Int)))
def digS (c : Int) : Nat → Int × Int
  | 0 => ((0 : Int) - (1 : Int), c)
  | i + 1 => (((digS c i).1 + (1 : Int)) + ((digS c i).2 % (1000000000000000000000000000000000000000000000000000000000 : Int)), (digS c i).2 / (1000000000000000000000000000000000000000000000000000000000 : Int))
theorem digS_lt (c : Int) (i : Nat) : (digS c i).1 < (digS c (i + 1)).1 := by
  show (digS c i).1 < (digS c i).1 + 1 + (digS c i).2 % _
  have := Int.emod_nonneg (digS c i).2 (show (1000000000000000000000000000000000000000000000000000000000 : Int) ≠ 0 by omega)
  omega
theorem digS_mono (c : Int) {i j : Nat} (h : i < j) : (digS c i).1 < (digS c j).1 := by
  induction j with
  | zero => omega
  | succ j ih =>
    rcases Nat.lt_succ_iff_lt_or_eq.mp h with q | q
    · exact Int.lt_trans (ih q) (digS_lt c j)
    · subst q; exact digS_lt c i
theorem digS_up (c : Int) : ∀ i : Nat, (digS c i).1 ≤ (i : Int) * 1000000000000000000000000000000000000000000000000000000000 - 1
  | 0 => by show (0 : Int) - 1 ≤ _; omega
  | i + 1 => by
    have ih := digS_up c i
    show (digS c i).1 + 1 + (digS c i).2 % _ ≤ _
    have := Int.emod_lt_of_pos (digS c i).2 (show (0 : Int) < 1000000000000000000000000000000000000000000000000000000000 by omega)
    omega
def numO (s : List Int) (a k : Int) : Int := cond (m__law_own s) (digS (mA__law_cell_at s a) (k + (1 : Int)).toNat).1 (mA__law_number s a k)
theorem numO_bd (s : List Int) (a : Int) {k : Int} (h : 0 ≤ k ∧ k ≤ 900) : 0 ≤ numO s a k ∧ numO s a k < 10 ^ 60 := by
  unfold numO
  cases m__law_own s
  · exact number_bd s a k
  · obtain ⟨m, rfl⟩ : ∃ m : Nat, k = m := ⟨k.toNat, by omega⟩
    have e : ((m : Int) + 1).toNat = m + 1 := by omega
    rw [e, cond_true]
    have h1 := digS_mono (mA__law_cell_at s a) (show 0 < m + 1 by omega)
    have h2 := digS_up (mA__law_cell_at s a) (m + 1)
    have h0 : (digS (mA__law_cell_at s a) 0).1 = 0 - 1 := rfl
    omega
theorem numO_nn (s : List Int) (a : Int) {k : Int} (h : 0 ≤ k ∧ k ≤ 900) : 0 ≤ numO s a k := (numO_bd s a h).1
theorem numO_inj {s : List Int} {a j k : Int} (hj : 0 ≤ j ∧ j < 67) (hk : 0 ≤ k ∧ k < 67) (h : numO s a j = numO s a k) : j = k := by
  unfold numO at h
  cases e : m__law_own s with
  | false => rw [e] at h; exact number_injA hj hk h
  | true =>
    rw [e, cond_true, cond_true] at h
    obtain ⟨m, rfl⟩ : ∃ m : Nat, j = m := ⟨j.toNat, by omega⟩
    obtain ⟨l, rfl⟩ : ∃ l : Nat, k = l := ⟨k.toNat, by omega⟩
    rw [show ((m : Int) + 1).toNat = m + 1 by omega, show ((l : Int) + 1).toNat = l + 1 by omega] at h
    rcases Nat.lt_trichotomy m l with q | q | q
    · have := digS_mono (mA__law_cell_at s a) (show m + 1 < l + 1 by omega); omega
    · rw [q]
    · have := digS_mono (mA__law_cell_at s a) (show l + 1 < m + 1 by omega); omega
def tieO (s : List Int) (w : Int) (p : Int × Nat) : Tie :=
  (numO s (0 : Int) (p.2 : Int), cond (m__law_own s) (numO s (2 : Int) (p.1 % w)) (numO s (2 : Int) (p.1 * (48271 : Int) % (10007 : Int) % w)), cond (m__law_own s) (numO s (2 : Int) (p.1 / w % w)) (numO s (2 : Int) (p.1 * (16807 : Int) % (10009 : Int) % w)))
def cutO (s : List Int) (a m : Int) : List Int := cond (m__law_own s) (cut (cut s (some a) (some (a + m))) none (some (((mA__law_cell_at s (4 : Int)) / (512 : Int)) % (16 : Int) % (m + (1 : Int))))) (cut s (some a) (some (a + m)))
def tiesO (s : List Int) (a m w : Int) : List Tie := (cutO s a m).zipIdx.map (tieO s w)
theorem cutO_len (s : List Int) {a : Int} (h : 5 ≤ a) : (cutO s a (14 : Int)).length ≤ 14 := by
  have h1 := cutN_len s h
  unfold cutN at h1
  unfold cutO
  cases m__law_own s
  · exact h1
  · have := cut_length (cut s (some a) (some (a + (14 : Int)))) none (some (((mA__law_cell_at s (4 : Int)) / (512 : Int)) % (16 : Int) % ((14 : Int) + (1 : Int))))
    exact Nat.le_trans this h1
theorem tiesO_length (s : List Int) (a m w : Int) : (tiesO s a m w).length = (cutO s a m).length := by unfold tiesO; simp
theorem tiesO_take {s : List Int} {a m w : Int} {i : Nat} {t : Int} (h : (cutO s a m)[i]? = some t) : (tiesO s a m w).take (i + 1) = (tiesO s a m w).take i ++ [tieO s w (t, i)] := by
  unfold tiesO
  rw [List.take_succ, List.getElem?_map, List.getElem?_zipIdx, h]
  simp
theorem tiesO_all (s : List Int) (a m w : Int) : (tiesO s a m w).take (cutO s a m).length = tiesO s a m w := by rw [← tiesO_length s a m w, List.take_length]
theorem tieO_nn (s : List Int) {w : Int} (hw : 1 ≤ w ∧ w ≤ 8) {p : Int × Nat} (hp : p.2 ≤ 14) : 0 ≤ (tieO s w p).1 ∧ 0 ≤ (tieO s w p).2.1 ∧ 0 ≤ (tieO s w p).2.2 := by
  have md : ∀ z : Int, 0 ≤ z % w ∧ z % w ≤ 900 := fun z => ⟨Int.emod_nonneg _ (by omega), by have := Int.emod_lt_of_pos z (show 0 < w by omega); omega⟩
  unfold tieO
  refine ⟨numO_nn _ _ (by omega), ?_, ?_⟩
  · cases m__law_own s <;> exact numO_nn _ _ (md _)
  · cases m__law_own s <;> exact numO_nn _ _ (md _)
theorem tiesO_pos (s : List Int) {a w : Int} (h : 5 ≤ a) (hw : 1 ≤ w ∧ w ≤ 8) : Pos3 (tiesO s a (14 : Int) w) := fun t ht => by
  obtain ⟨p, hp, rfl⟩ := List.mem_map.mp ht
  have hl := cutO_len s h
  have := (List.mem_zipIdx' hp).1
  exact tieO_nn s hw (by omega)
theorem netpreO (s : List Int) {a : Int} (h : 5 ≤ a) {w : Int} (hw : 1 ≤ w ∧ w ≤ 8) : (tiesO s a (14 : Int) w).length ≤ 60 ∧ Pos3 (tiesO s a (14 : Int) w) := ⟨by rw [tiesO_length]; have := cutO_len s h; omega, tiesO_pos s h hw⟩
theorem tiesO_nd (s : List Int) {a w : Int} (h : 5 ≤ a) : ((tiesO s a (14 : Int) w).map (·.1)).Nodup := by
  unfold tiesO
  rw [List.map_map]
  have e : ((fun x : Tie => x.1) ∘ tieO s w) = (fun k : Nat => numO s (0 : Int) (k : Int)) ∘ Prod.snd := rfl
  rw [e, ← List.map_map, List.zipIdx_map_snd, ← List.range_eq_range']
  have hl := cutO_len s h
  refine nodup_map_injA List.nodup_range fun j hj k hk q => ?_
  rw [List.mem_range] at hj hk
  have := numO_inj (by omega) (by omega) q
  omega
def polesO (s : List Int) (w : Int) : Int × Int := cond (m__law_own s) (numO s (2 : Int) (mA__law_cell_at s (4 : Int) / (8 : Int) % (8 : Int) % w), numO s (2 : Int) (mA__law_cell_at s (4 : Int) / (64 : Int) % (8 : Int) % w))
  (cond ((decide (w = (1 : Int))) || (decide (mA__law_cell_at s (4 : Int) / (8 : Int) % (5 : Int) = (4 : Int)))) (numO s (2 : Int) (0 : Int), numO s (2 : Int) (0 : Int)) (numO s (2 : Int) (0 : Int), numO s (2 : Int) (1 : Int)))
theorem polesO_nn (s : List Int) {w : Int} (hw : 1 ≤ w ∧ w ≤ 8) : 0 ≤ (polesO s w).1 ∧ 0 ≤ (polesO s w).2 := by
  have md : ∀ z : Int, 0 ≤ z % w ∧ z % w ≤ 900 := fun z => ⟨Int.emod_nonneg _ (by omega), by have := Int.emod_lt_of_pos z (show 0 < w by omega); omega⟩
  unfold polesO
  cases m__law_own s
  · cases ((decide (w = (1 : Int))) || (decide (mA__law_cell_at s (4 : Int) / (8 : Int) % (5 : Int) = (4 : Int)))) <;> exact ⟨numO_nn _ _ (by omega), numO_nn _ _ (by omega)⟩
  · exact ⟨numO_nn _ _ (md _), numO_nn _ _ (md _)⟩
def netO (s : List Int) (a : Int) : Net := netOf (polesO s (wN s)) (tiesO s a (14 : Int) (wN s))
def netsOTo (s : List Int) (i : Nat) : List Net := (([(5 : Int), (19 : Int), (33 : Int), (47 : Int)].take i).filter fun (a : Int) => (decide (a = (5 : Int))) || (decide (a < (s.length : Int)))).map (netO s)
def netsO (s : List Int) : List Net := netsOTo s 4
theorem netsOTo_len (s : List Int) (i : Nat) : (netsOTo s i).length ≤ 4 := by
  unfold netsOTo
  rw [List.length_map]
  refine Nat.le_trans (List.length_filter_le _ _) ?_
  rw [List.length_take]
  exact Nat.min_le_right _ _
theorem netsO_yes {s : List Int} {i : Nat} {t : Int} (h : [(5 : Int), (19 : Int), (33 : Int), (47 : Int)][i]? = some t) (e : ((decide (t = (5 : Int))) || (decide (t < (s.length : Int)))) = true) : netsOTo s (i + 1) = netsOTo s i ++ [netO s t] := by
  unfold netsOTo
  rw [List.take_succ, h, List.filter_append, List.map_append]
  show _ ++ List.map _ (List.filter _ [t]) = _
  rw [List.filter_cons, if_pos e]
  rfl
theorem netsO_no {s : List Int} {i : Nat} {t : Int} (h : [(5 : Int), (19 : Int), (33 : Int), (47 : Int)][i]? = some t) (e : ((decide (t = (5 : Int))) || (decide (t < (s.length : Int)))) = false) : netsOTo s (i + 1) = netsOTo s i := by
  unfold netsOTo
  rw [List.take_succ, h, List.filter_append, List.map_append]
  show _ ++ List.map _ (List.filter _ [t]) = _
  rw [List.filter_cons, if_neg (by rw [e]; decide)]
  exact List.append_nil _
theorem netO_g (s : List Int) {a : Int} (h : 5 ≤ a) : NetG (netO s a) := netOf_g (tiesO_nd s h) (tiesO_pos _ h (wN_bd s)) (by rw [tiesO_length]; exact cutO_len s h) (polesO_nn _ (wN_bd s))
theorem netsO_g {s : List Int} {i : Nat} {n : Net} (h : (netsO s)[i]? = some n) : NetG n := by
  have hm := List.mem_of_getElem? h
  unfold netsO netsOTo at hm
  obtain ⟨a, ha, rfl⟩ := List.mem_map.mp hm
  have ha := List.mem_of_mem_take (List.mem_filter.mp ha).1
  simp only [List.mem_cons, List.not_mem_nil, or_false] at ha
  exact netO_g s (by omega)
end Toy
namespace Lk
end Lk
namespace Toy
open PySem L2 Lk
def top (i : Nat) : Stmt := PySem.Challenge.pw_linkorcut_k05_whole_read_again.main.body.getD i (.Pass ⟨0, 0, 0, 0⟩)
abbrev s_is_number : Stmt := top 9
abbrev s_pair_of : Stmt := top 10
abbrev s_look_over : Stmt := top 11
abbrev s_made : Stmt := top 12
abbrev s_net_of : Stmt := top 13
abbrev s_places_of : Stmt := top 14
abbrev s_line_of : Stmt := top 16
abbrev s_shown : Stmt := top 17
abbrev s_number_written : Stmt := top 18
abbrev s_numbers_written : Stmt := top 19
abbrev s_read : Stmt := top 20
abbrev s__law_cell_at : Stmt := top 22
abbrev s__law_own : Stmt := top 23
abbrev s__law_number : Stmt := top 24
abbrev s__law_ties : Stmt := top 25
abbrev s__law_poles : Stmt := top 26
abbrev s__law_net : Stmt := top 27
abbrev s__law_nets : Stmt := top 28
abbrev s__law_wholes : Stmt := top 29
abbrev s__law_same_net : Stmt := top 30
abbrev s__law_about : Stmt := top 31
abbrev s__law_line : Stmt := top 32
abbrev s__law_written : Stmt := top 33
abbrev s_law : Stmt := top 34
end Toy
namespace Toy
open PySem L2 Lk
section
variable {P : Program} {w : World} {K : PySem.W.Frag} {mg : Str → Option Value} {base : Heap} {C : Addr}
def m_is_number (x : Int) : Bool :=
  (decide ((0 : Int) ≤ x) && decide (x < (1000000000000000000000000000000000000000000000000000000000000 : Int)))
def r_is_number : List D → (Sl → Prop) → Prop := fun ds post => ∃ (x : Int), ds = [D.int (x)] ∧ post (Sl.dat (D.bl ((m_is_number x))))
theorem sc_is_number : FnScope ["number"] ["number"] (defScope (s_is_number)) := ⟨rfl, rfl, rfl, by decide +kernel, rfl, by decide +kernel, by decide +kernel⟩
set_option maxHeartbeats 2000000 in
theorem body_is_number  : Body P w K mg base ["number"] 1 0 (s_is_number) (r_is_number) := by
  intro X A ds post hl hR
  obtain ⟨x, rfl, hp⟩ := hR
  have cx := A.cx
  obtain ⟨rfl, rfl, rfl, rfl, rfl, _, _, _, _⟩ := id A
  have v0 : VarOk X 0 "number" := A.var rfl (by first | exact Or.inl rfl | exact Or.inr (Or.inl rfl) | exact Or.inr (Or.inr rfl))
  have l0 : LocOk X 0 "number" := A.loc rfl (by first | exact Or.inl rfl | exact Or.inr rfl)
  show SS X _ [Sl.dat (D.int (x))] _
  refine ss_ret (r := Sl.dat (D.bl ((decide ((0 : Int) ≤ x) && decide (x < (1000000000000000000000000000000000000000000000000000000000000 : Int)))))) (ee_chI (f := fun (i j : Int) => decide (i ≤ j)) (f' := fun (i j : Int) => decide (i < j)) op_le op_lt ee_int (ee_var v0 rfl) (ee_powL (v := 1000000000000000000000000000000000000000000000000000000000000) ⟨by decide, by decide, by decide⟩ (by decide))) ?_
  refine Eq.mp (congrArg post ?_) hp
  unfold m_is_number
  rfl
def r_pair_of : List D → (Sl → Prop) → Prop := fun ds post => ∃ (a : Int) (b : Int), ds = [D.int (a), D.int (b)] ∧ post (Sl.dat (ePair ((prOf a b))))
theorem sc_pair_of : FnScope ["one", "other"] ["one", "other"] (defScope (s_pair_of)) := ⟨rfl, rfl, rfl, by decide +kernel, rfl, by decide +kernel, by decide +kernel⟩
set_option maxHeartbeats 2000000 in
theorem body_pair_of  : Body P w K mg base ["one", "other"] 2 0 (s_pair_of) (r_pair_of) := by
  intro X A ds post hl hR
  obtain ⟨a, b, rfl, hp⟩ := hR
  have cx := A.cx
  obtain ⟨rfl, rfl, rfl, rfl, rfl, _, _, _, _⟩ := id A
  have v0 : VarOk X 0 "one" := A.var rfl (by first | exact Or.inl rfl | exact Or.inr (Or.inl rfl) | exact Or.inr (Or.inr rfl))
  have v1 : VarOk X 1 "other" := A.var rfl (by first | exact Or.inl rfl | exact Or.inr (Or.inl rfl) | exact Or.inr (Or.inr rfl))
  have l0 : LocOk X 0 "one" := A.loc rfl (by first | exact Or.inl rfl | exact Or.inr rfl)
  have l1 : LocOk X 1 "other" := A.loc rfl (by first | exact Or.inl rfl | exact Or.inr rfl)
  show SS X _ [Sl.dat (D.int (a)), Sl.dat (D.int (b))] _
  refine ss_if (et_c (ec_lt (ee_var v1 rfl) (ee_var v0 rfl)) (by first | exact L2.nomark _ | rfl | with_unfolding_all rfl)) (fun e1 => ?_) (fun e1 => ?_)
  · have f_e1 := e1; try simp only [srt_length, srtT_length, List.length_take, List.length_map, List.length_range, List.length_append, List.length_cons, List.length_nil, Bool.and_eq_true, Bool.or_eq_true, Bool.not_eq_true', Bool.not_eq_false', Bool.and_eq_false_imp, Bool.or_eq_false_iff, decide_eq_true_eq, decide_eq_false_iff_not] at f_e1
    refine ss_ret (r := Sl.dat (ePair ((b, a)))) (EE.asPair (ee_tup (ea_cons (ee_var v1 rfl) (ea_cons (ee_var v0 rfl) ea_nil)) (by simp))) ?_
    exact Eq.mp (congrArg post (by unfold prOf; rw [e1]; rfl)) hp
  · have f_e1 := e1; try simp only [srt_length, srtT_length, List.length_take, List.length_map, List.length_range, List.length_append, List.length_cons, List.length_nil, Bool.and_eq_true, Bool.or_eq_true, Bool.not_eq_true', Bool.not_eq_false', Bool.and_eq_false_imp, Bool.or_eq_false_iff, decide_eq_true_eq, decide_eq_false_iff_not] at f_e1
    refine ss_nil ?_
    show SS X _ [Sl.dat (D.int (a)), Sl.dat (D.int (b))] _
    refine ss_ret (r := Sl.dat (ePair ((a, b)))) (EE.asPair (ee_tup (ea_cons (ee_var v0 rfl) (ea_cons (ee_var v1 rfl) ea_nil)) (by simp))) ?_
    exact Eq.mp (congrArg post (by unfold prOf; rw [e1]; rfl)) hp
def r_made : List D → (Sl → Prop) → Prop := fun ds post => ∃ (p : (Int × Int)) (ts : (List Tie)), ds = [ePair (p), D.lst ((ts).map eTie)] ∧ (ts.length ≤ 60 ∧ Pos3 ts) ∧ post (Sl.own (oNet ((mkNet p ts))))
theorem sc_made : FnScope ["poles", "ties", "rows", "name", "one", "other", "ends"] ["poles", "ties"] (defScope (s_made)) := ⟨rfl, rfl, rfl, by decide +kernel, rfl, by decide +kernel, by decide +kernel⟩
set_option maxHeartbeats 2000000 in
theorem body_made (m_sorted : mg "sorted" = none) (F_pair_of : Fn P w K mg base 1 "pair_of" 2 (r_pair_of)) : Body P w K mg base ["poles", "ties", "rows", "name", "one", "other", "ends"] 2 1 (s_made) (r_made) := by
  intro X A ds post hl hR
  obtain ⟨p, ts, rfl, hpre, hp⟩ := hR
  obtain ⟨hlen, hpos⟩ := hpre
  have cx := A.cx
  obtain ⟨rfl, rfl, rfl, rfl, rfl, _, _, _, _⟩ := id A
  have v0 : VarOk X 0 "poles" := A.var rfl (by first | exact Or.inl rfl | exact Or.inr (Or.inl rfl) | exact Or.inr (Or.inr rfl))
  have v1 : VarOk X 1 "ties" := A.var rfl (by first | exact Or.inl rfl | exact Or.inr (Or.inl rfl) | exact Or.inr (Or.inr rfl))
  have v2 : VarOk X 2 "rows" := A.var rfl (by first | exact Or.inl rfl | exact Or.inr (Or.inl rfl) | exact Or.inr (Or.inr rfl))
  have v3 : VarOk X 3 "name" := A.var rfl (by first | exact Or.inl rfl | exact Or.inr (Or.inl rfl) | exact Or.inr (Or.inr rfl))
  have v4 : VarOk X 4 "one" := A.var rfl (by first | exact Or.inl rfl | exact Or.inr (Or.inl rfl) | exact Or.inr (Or.inr rfl))
  have v5 : VarOk X 5 "other" := A.var rfl (by first | exact Or.inl rfl | exact Or.inr (Or.inl rfl) | exact Or.inr (Or.inr rfl))
  have v6 : VarOk X 6 "ends" := A.var rfl (by first | exact Or.inl rfl | exact Or.inr (Or.inl rfl) | exact Or.inr (Or.inr rfl))
  have l0 : LocOk X 0 "poles" := A.loc rfl (by first | exact Or.inl rfl | exact Or.inr rfl)
  have l1 : LocOk X 1 "ties" := A.loc rfl (by first | exact Or.inl rfl | exact Or.inr rfl)
  have l2 : LocOk X 2 "rows" := A.loc rfl (by first | exact Or.inl rfl | exact Or.inr rfl)
  have l3 : LocOk X 3 "name" := A.loc rfl (by first | exact Or.inl rfl | exact Or.inr rfl)
  have l4 : LocOk X 4 "one" := A.loc rfl (by first | exact Or.inl rfl | exact Or.inr rfl)
  have l5 : LocOk X 5 "other" := A.loc rfl (by first | exact Or.inl rfl | exact Or.inr rfl)
  have l6 : LocOk X 6 "ends" := A.loc rfl (by first | exact Or.inl rfl | exact Or.inr rfl)
  have b_sorted : Bi X "sorted" := A.bi rfl m_sorted
  show SS X _ [Sl.dat (ePair (p)), Sl.dat (D.lst ((ts).map eTie)), Sl.any, Sl.any, Sl.any, Sl.any, Sl.any] _
  refine ss_asg cx.nd l2 (r := Sl.own (Own.lst (([]).map eTie))) (ee_lst ea_nil (by decide)) ?_
  show SS X _ [Sl.dat (ePair (p)), Sl.dat (D.lst ((ts).map eTie)), Sl.own (Own.lst (([]).map eTie)), Sl.any, Sl.any, Sl.any, Sl.any] _
  refine ss_forT (en := eTie) (xs := ts) cx (ei_list (ee_var v1 rfl)) (fun (zi : Nat) zs => zs = [Sl.dat (ePair (p)), Sl.dat (D.lst ((ts).map eTie)), Sl.own (Own.lst ((((ts.take zi).map mkTie)).map eTie)), Sl.any, Sl.any, Sl.any, Sl.any]) ?_ (fun zi zt s1 hx1 hW => ?_) (fun s1 hW => ?_)
  · rfl
  · subst hW
    refine ⟨_, _, (tt_tup cx.calm (tts_cons (tt_name l3 cx.nd) (tts_cons (tt_name l4 cx.nd) (tts_cons (tt_name l5 cx.nd) tts_nil)))), ?_⟩
    have hi := (List.getElem?_eq_some_iff.mp hx1).1
    show SS X _ [Sl.dat (ePair (p)), Sl.dat (D.lst ((ts).map eTie)), Sl.own (Own.lst ((((ts.take zi).map mkTie)).map eTie)), Sl.dat (D.int ((zt).1)), Sl.dat (D.int ((zt).2.1)), Sl.dat (D.int ((zt).2.2)), Sl.any] _
    refine ss_asg cx.nd l6 (r := Sl.dat (ePair ((prOf ((zt).2.1) ((zt).2.2))))) (ee_call F_pair_of cx (by decide) (A.gl rfl) (ea_cons (ee_var v4 rfl) (ea_cons (ee_var v5 rfl) ea_nil)) ⟨(zt).2.1, (zt).2.2, rfl, rfl⟩ rfl) ?_
    show SS X _ [Sl.dat (ePair (p)), Sl.dat (D.lst ((ts).map eTie)), Sl.own (Own.lst ((((ts.take zi).map mkTie)).map eTie)), Sl.dat (D.int ((zt).1)), Sl.dat (D.int ((zt).2.1)), Sl.dat (D.int ((zt).2.2)), Sl.dat (ePair ((prOf ((zt).2.1) ((zt).2.2))))] _
    refine ss_appT (en := eTie) (xs := ((ts.take zi).map mkTie)) (t := ((zt).1, ((prOf ((zt).2.1) ((zt).2.2))).1, ((prOf ((zt).2.1) ((zt).2.2))).2)) v2 rfl (EE.asTie (ee_tup (ea_cons (ee_var v3 rfl) (ea_cons (ee_ixT (d := D.int (((prOf ((zt).2.1) ((zt).2.2))).1)) (ee_var v6 rfl) ee_int (fun _ _ => rfl) rfl) (ea_cons (ee_ixT (d := D.int (((prOf ((zt).2.1) ((zt).2.2))).2)) (ee_var v6 rfl) ee_int (fun _ _ => rfl) rfl) ea_nil))) (by simp))) (by first | assumption | omega | (simp only [srt_length, srtT_length, List.length_take, List.length_map, List.length_range, List.length_append, List.length_cons, List.length_nil, Bool.and_eq_true, Bool.or_eq_true, Bool.not_eq_true', Bool.not_eq_false', Bool.and_eq_false_imp, Bool.or_eq_false_iff, decide_eq_true_eq, decide_eq_false_iff_not] at *; omega) | exact Int.emod_nonneg _ (by omega) | (simp only [srt_length, List.length_map, List.length_range, List.length_cons, List.length_nil]; rw [Int.toNat_of_nonneg (by omega)]; exact Int.emod_lt_of_pos _ (by omega)) | ((try simp only [srt_length, List.length_map, List.length_range, List.length_cons, List.length_nil]); generalize zq : b2z _ = zz; have zq2 := b2z_bd zq; omega)) ?_
    show SS X _ [Sl.dat (ePair (p)), Sl.dat (D.lst ((ts).map eTie)), Sl.own (Own.lst (((((ts.take zi).map mkTie) ++ [((zt).1, ((prOf ((zt).2.1) ((zt).2.2))).1, ((prOf ((zt).2.1) ((zt).2.2))).2)])).map eTie)), Sl.dat (D.int ((zt).1)), Sl.dat (D.int ((zt).2.1)), Sl.dat (D.int ((zt).2.2)), Sl.dat (ePair ((prOf ((zt).2.1) ((zt).2.2))))] _
    refine ss_end (ss' := [Sl.dat (ePair (p)), Sl.dat (D.lst ((ts).map eTie)), Sl.own (Own.lst ((((ts.take (zi + 1)).map mkTie)).map eTie)), Sl.any, Sl.any, Sl.any, Sl.any]) ?_ ?_
    · exact Les.cons (.refl _) <| Les.cons (.refl _) <| Les.cons (.of (by (rw [mkTie_take hx1]; rfl))) <| Les.cons (.any _) <| Les.cons (.any _) <| Les.cons (.any _) <| Les.cons (.any _) <| .nil
    · exact rfl
  · subst hW
    rw [List.take_length]
    show SS X _ [Sl.dat (ePair (p)), Sl.dat (D.lst ((ts).map eTie)), Sl.own (Own.lst (((ts.map mkTie)).map eTie)), Sl.any, Sl.any, Sl.any, Sl.any] _
    refine ss_ret (r := Sl.own (oNet (((prOf ((p).1) ((p).2)), (srtT (ts.map mkTie))) : Net))) (ee_tupO (ep_dat (ee_call F_pair_of cx (by decide) (A.gl rfl) (ea_cons (ee_ixT (d := D.int ((p).1)) (ee_var v0 rfl) ee_int (fun _ _ => rfl) rfl) (ea_cons (ee_ixT (d := D.int ((p).2)) (ee_var v0 rfl) ee_int (fun _ _ => rfl) rfl) ea_nil)) ⟨(p).1, (p).2, rfl, rfl⟩ rfl) (ep_own (ee_sortedT (ts := (ts.map mkTie)) b_sorted (el_own v2 rfl) (by exact ⟨by rw [List.length_map]; omega, mkTie_pos hpos⟩)) ep_nil')) (by simp)) ?_
    exact hp
abbrev eB (m : List (Int × Int)) : List (Key × D) := m.map fun p => (Sum.inl p.1, D.bl true)
theorem put_new {m : List (Int × Int)} {k v : Int} (h : k ∉ m.map (·.1)) : put m k v = m ++ [(k, v)] := by
  unfold put
  rw [if_neg]
  intro q
  obtain ⟨p, hp, e⟩ := List.any_eq_true.mp q
  exact h (List.mem_map.mpr ⟨p, hp, of_decide_eq_true e⟩)
def r_places_of : List Ar → (Sl → Prop) → Prop := fun as post => ∃ (n : Net), as = [Ar.vw (oNet n)] ∧ NetOk n ∧ post (Sl.own (Own.lst ((placesP n).map D.int)))
theorem sc_places_of : FnScope ["net", "met", "place", "name", "one", "other"] ["net"] (defScope s_places_of) := ⟨rfl, rfl, rfl, by decide +kernel, rfl, by decide +kernel, by decide +kernel⟩
set_option maxHeartbeats 2000000 in
theorem body_places_of (m_sorted : mg "sorted" = none) : BodyV P w K mg base ["net", "met", "place", "name", "one", "other"] 1 0 s_places_of r_places_of := by
  intro X A as post hl hR
  obtain ⟨n, rfl, hN, hp⟩ := hR
  have cx := A.cx
  obtain ⟨rfl, rfl, rfl, rfl, rfl, _, _, _, _⟩ := id A
  have v0 : VarOk X 0 "net" := A.var rfl (Or.inl rfl)
  have v1 : VarOk X 1 "met" := A.var rfl (Or.inl rfl)
  have v2 : VarOk X 2 "place" := A.var rfl (Or.inl rfl)
  have v4 : VarOk X 4 "one" := A.var rfl (Or.inl rfl)
  have v5 : VarOk X 5 "other" := A.var rfl (Or.inl rfl)
  have l1 : LocOk X 1 "met" := A.loc rfl (Or.inl rfl)
  have l2 : LocOk X 2 "place" := A.loc rfl (Or.inl rfl)
  have l3 : LocOk X 3 "name" := A.loc rfl (Or.inl rfl)
  have l4 : LocOk X 4 "one" := A.loc rfl (Or.inl rfl)
  have l5 : LocOk X 5 "other" := A.loc rfl (Or.inl rfl)
  have b_sorted : Bi X "sorted" := A.bi rfl m_sorted
  have hn14 := hN.len
  have pD : ∀ (m : List (Int × Int)) (k : Int), putD (eB m) (Sum.inl k) (D.bl true) = eB (put m k 0) := fun m k => putD_map (en := fun _ : Int => D.bl true) (v := 0)
  show SS X _ [Sl.vw (oNet n), Sl.any, Sl.any, Sl.any, Sl.any, Sl.any] _
  refine ss_asg cx.nd l1 ee_dnew ?_
  refine ss_forT (en := D.int) (xs := [n.1.1, n.1.2]) cx (ei_tup (ee_child (d := ePair n.1) (ev_vw v0 rfl) ee_int (fun _ _ => rfl) rfl)) (fun i s => s = [Sl.vw (oNet n), Sl.own (Own.dic (eB (([n.1.1, n.1.2].take i).foldl (fun m p => put m p 0) []))), Sl.any, Sl.any, Sl.any, Sl.any]) rfl (fun i t s1 hx hW => ?_) (fun s1 hW => ?_)
  · subst hW
    have hi : i < 2 := (List.getElem?_eq_some_iff.mp hx).1
    refine ⟨_, _, tt_name l2 cx.nd, ?_⟩
    have hle : (([n.1.1, n.1.2].take i).foldl (fun m p => put m p 0) ([] : List (Int × Int))).length ≤ 2 := by
      match i, hi with
      | 0, _ => exact Nat.zero_le _
      | 1, _ =>
        have := put_len (m := ([] : List (Int × Int))) (k := n.1.1) (v := (0 : Int))
        show (put ([] : List (Int × Int)) n.1.1 0).length ≤ 2
        simp only [List.length_nil] at this
        omega
    refine ss_dput (q := Sum.inl t) (d := D.bl true) cx v1 rfl (ee_var v2 rfl) ee_bl (by rw [List.length_map]; omega) ?_
    rw [pD]
    refine ss_end (ss' := [Sl.vw (oNet n), Sl.own (Own.dic (eB (([n.1.1, n.1.2].take (i + 1)).foldl (fun m p => put m p 0) []))), Sl.any, Sl.any, Sl.any, Sl.any]) ?_ rfl
    rw [List.take_succ, hx, List.foldl_append]
    exact .cons (.refl _) (.cons (.refl _) (.cons (.any _) (.cons (.refl _) (.cons (.refl _) (.cons (.refl _) .nil)))))
  · subst hW
    show SS X _ [Sl.vw (oNet n), Sl.own (Own.dic (eB (met0 n))), Sl.any, Sl.any, Sl.any, Sl.any] _
    refine ss_forT (en := eTie) (xs := n.2) cx (ei_vw (evb_child (o := .lst (n.2.map eTie)) (evb_vw v0 rfl) ee_int (fun _ _ => rfl) rfl) trivial) (fun i s => s = [Sl.vw (oNet n), Sl.own (Own.dic (eB (metTo n (n.2.take i)))), Sl.any, Sl.any, Sl.any, Sl.any]) rfl (fun i t s1 hx hW => ?_) (fun s1 hW => ?_)
    · subst hW
      refine ⟨_, _, tt_tup cx.calm (tts_cons (tt_name l3 cx.nd) (tts_cons (tt_name l4 cx.nd) (tts_cons (tt_name l5 cx.nd) tts_nil))), ?_⟩
      have hle := met_len (n.2.take i) (met0 n)
      have h0 := met0_len n
      have hlt : (n.2.take i).length ≤ 14 := by rw [List.length_take]; omega
      have hme : (metTo n (n.2.take i)).length ≤ 30 := by unfold metTo; omega
      have hput := put_len (m := metTo n (n.2.take i)) (k := t.2.1) (v := (0 : Int))
      show SS X _ [Sl.vw (oNet n), Sl.own (Own.dic (eB (metTo n (n.2.take i)))), Sl.any, Sl.dat (D.int t.1), Sl.dat (D.int t.2.1), Sl.dat (D.int t.2.2)] _
      refine ss_dput (q := Sum.inl t.2.1) (d := D.bl true) cx v1 rfl (ee_var v4 rfl) ee_bl (by rw [List.length_map]; omega) ?_
      rw [pD]
      refine ss_dput (q := Sum.inl t.2.2) (d := D.bl true) (kvs := eB (put (metTo n (n.2.take i)) t.2.1 0)) cx v1 rfl (ee_var v5 rfl) ee_bl (by rw [List.length_map]; omega) ?_
      rw [pD]
      refine ss_end (ss' := [Sl.vw (oNet n), Sl.own (Own.dic (eB (metTo n (n.2.take (i + 1))))), Sl.any, Sl.any, Sl.any, Sl.any]) ?_ rfl
      rw [metTo_take hx]
      exact .cons (.refl _) (.cons (.refl _) (.cons (.refl _) (.cons (.any _) (.cons (.any _) (.cons (.any _) .nil)))))
    · subst hW
      rw [List.take_length]
      have hpl := placesP_len hN
      unfold placesP at hpl
      rw [srt_length, List.length_map] at hpl
      exact ss_ret (ee_sortedKM (ns := (metTo n n.2).map (fun p : Int × Int => p.1)) cx b_sorted (ed_own v1 rfl) (by rw [List.map_map, List.map_map]; rfl) (by rw [List.length_map]; omega)) hp
def toldL (p : Int × Int) (ts : List Tie) : List Int := [p.1, p.2] ++ ts.flatMap fun t => [t.1, t.2.1, t.2.2]
theorem toldL_take {p : Int × Int} {ts : List Tie} {i : Nat} {t : Tie} (h : ts[i]? = some t) : toldL p (ts.take (i + 1)) = toldL p (ts.take i) ++ [t.1, t.2.1, t.2.2] := by
  unfold toldL
  rw [List.take_succ, h, List.flatMap_append, List.append_assoc]
  simp
theorem toldL_len (p : Int × Int) : ∀ ts : List Tie, (toldL p ts).length = 2 + 3 * ts.length
  | [] => rfl
  | t :: ts => by
    have h := toldL_len p ts
    unfold toldL at h ⊢
    simp only [List.flatMap_cons, List.length_append, List.length_cons, List.length_nil] at h ⊢
    omega
structure ToldOk (p : Int × Int) (ts : List Tie) : Prop where
  num : ∀ x ∈ toldL p ts, m_is_number x = true
  nd : (ts.map (·.1)).Nodup
  len : ts.length ≤ 14
def r_look_over : List D → (Sl → Prop) → Prop := fun ds post => ∃ (p : Int × Int) (ts : List Tie), ds = [ePair p, D.lst (ts.map eTie)] ∧ ToldOk p ts ∧ post (Sl.dat D.non)
theorem sc_look_over : FnScope ["poles", "ties", "told", "tie", "number", "met"] ["poles", "ties"] (defScope s_look_over) := ⟨rfl, rfl, rfl, by decide +kernel, rfl, by decide +kernel, by decide +kernel⟩
set_option maxHeartbeats 2000000 in
theorem body_look_over {lv l1 : Nat} (hlv : l1 ≤ lv) (m_list : mg "list" = none) (F_num : Fn P w K mg base l1 "is_number" 1 r_is_number) : Body P w K mg base ["poles", "ties", "told", "tie", "number", "met"] 2 lv s_look_over r_look_over := by
  intro X A ds post hl hR
  obtain ⟨p, ts, rfl, ok, hp⟩ := hR
  have cx := A.cx
  obtain ⟨rfl, rfl, rfl, rfl, rfl, _, _, _, _⟩ := id A
  have v0 : VarOk X 0 "poles" := A.var rfl (Or.inl rfl)
  have v1 : VarOk X 1 "ties" := A.var rfl (Or.inl rfl)
  have v2 : VarOk X 2 "told" := A.var rfl (Or.inl rfl)
  have v3 : VarOk X 3 "tie" := A.var rfl (Or.inl rfl)
  have v4 : VarOk X 4 "number" := A.var rfl (Or.inl rfl)
  have v5 : VarOk X 5 "met" := A.var rfl (Or.inl rfl)
  have l2 : LocOk X 2 "told" := A.loc rfl (Or.inl rfl)
  have l3 : LocOk X 3 "tie" := A.loc rfl (Or.inl rfl)
  have l4 : LocOk X 4 "number" := A.loc rfl (Or.inl rfl)
  have l5 : LocOk X 5 "met" := A.loc rfl (Or.inl rfl)
  have b_list : Bi X "list" := A.bi rfl m_list
  have hlen := ok.len
  show SS X _ [Sl.dat (ePair p), Sl.dat (D.lst (ts.map eTie)), Sl.any, Sl.any, Sl.any, Sl.any] _
  refine ss_asg cx.nd l2 (r := Sl.own (Own.lst ((toldL p []).map D.int))) (ee_listT (ds := [D.int p.1, D.int p.2]) b_list (ee_var v0 rfl)) ?_
  refine ss_forT (en := eTie) (xs := ts) cx (ei_list (ee_var v1 rfl)) (fun i s => s = [Sl.dat (ePair p), Sl.dat (D.lst (ts.map eTie)), Sl.own (Own.lst ((toldL p (ts.take i)).map D.int)), Sl.any, Sl.any, Sl.any]) rfl (fun i t s1 hx hW => ?_) (fun s1 hW => ?_)
  · subst hW
    have hi := (List.getElem?_eq_some_iff.mp hx).1
    have htl := toldL_len p (ts.take i)
    rw [List.length_take] at htl
    refine ⟨_, _, tt_name l3 cx.nd, ?_⟩
    show SS X _ [Sl.dat (ePair p), Sl.dat (D.lst (ts.map eTie)), Sl.own (Own.lst ((toldL p (ts.take i)).map D.int)), Sl.dat (eTie t), Sl.any, Sl.any] _
    refine ss_extT (en := D.int) (xs := toldL p (ts.take i)) (ys := [t.1, t.2.1, t.2.2]) v2 rfl (ee_listT (ds := [D.int t.1, D.int t.2.1, D.int t.2.2]) b_list (ee_var v3 rfl)) (by simp only [List.length_cons, List.length_nil]; omega) ?_
    rw [← toldL_take hx]
    exact ss_end (ss' := [Sl.dat (ePair p), Sl.dat (D.lst (ts.map eTie)), Sl.own (Own.lst ((toldL p (ts.take (i + 1))).map D.int)), Sl.any, Sl.any, Sl.any]) (.cons (.refl _) <| .cons (.refl _) <| .cons (.refl _) <| .cons (.any _) <| .cons (.refl _) <| .cons (.refl _) <| .nil) rfl
  · subst hW
    rw [List.take_length]
    refine SS.frz (n := 2) rfl ?_
    show SS X _ [Sl.dat (ePair p), Sl.dat (D.lst (ts.map eTie)), Sl.dat (D.lst ((toldL p ts).map D.int)), Sl.any, Sl.any, Sl.any] _
    refine ss_forT (en := D.int) (xs := toldL p ts) cx (ei_list (ee_var v2 rfl)) (fun i s => s = [Sl.dat (ePair p), Sl.dat (D.lst (ts.map eTie)), Sl.dat (D.lst ((toldL p ts).map D.int)), Sl.any, Sl.any, Sl.any]) rfl (fun i x s1 hx hW => ?_) (fun s1 hW => ?_)
    · subst hW
      refine ⟨_, _, tt_name l4 cx.nd, ?_⟩
      have hnum := ok.num x (List.mem_of_getElem? hx)
      show SS X _ [Sl.dat (ePair p), Sl.dat (D.lst (ts.map eTie)), Sl.dat (D.lst ((toldL p ts).map D.int)), Sl.any, Sl.dat (D.int x), Sl.any] _
      refine ss_if (y := !m_is_number x) (et_not (et_val (ee_call F_num cx hlv (A.gl rfl) (ea_cons (ee_var v4 rfl) ea_nil) ⟨x, rfl, rfl⟩ rfl))) (fun e => ?_) (fun e => ?_)
      · rw [hnum] at e; cases e
      · exact ss_nil (ss_end (ss' := [Sl.dat (ePair p), Sl.dat (D.lst (ts.map eTie)), Sl.dat (D.lst ((toldL p ts).map D.int)), Sl.any, Sl.any, Sl.any]) (.cons (.refl _) <| .cons (.refl _) <| .cons (.refl _) <| .cons (.refl _) <| .cons (.any _) <| .cons (.refl _) <| .nil) rfl)
    · subst hW
      refine ss_asg cx.nd l5 ee_dnew ?_
      refine ss_forT (en := eTie) (xs := ts) cx (ei_list (ee_var v1 rfl)) (fun i s => s = [Sl.dat (ePair p), Sl.dat (D.lst (ts.map eTie)), Sl.dat (D.lst ((toldL p ts).map D.int)), Sl.any, Sl.any, Sl.own (Own.dic (eB ((ts.take i).map fun t => (t.1, 0))))]) rfl (fun i t s1 hx hW => ?_) (fun s1 hW => ?_)
      · subst hW
        refine ⟨_, _, tt_name l3 cx.nd, ?_⟩
        have hi := (List.getElem?_eq_some_iff.mp hx).1
        have hnew : t.1 ∉ ((ts.take i).map fun t => (t.1, (0 : Int))).map (·.1) := fun hm => by
          rw [List.map_map] at hm
          have nd := ok.nd
          rw [← List.take_append_drop i ts, List.map_append, List.nodup_append] at nd
          refine nd.2.2 t.1 hm t.1 (List.mem_map.mpr ⟨t, List.mem_of_getElem? (i := 0) ?_, rfl⟩) rfl
          rw [List.getElem?_drop, Nat.add_zero]
          exact hx
        have hvn : valD (eB ((ts.take i).map fun t => (t.1, (0 : Int)))) (Sum.inl t.1) = none := by
          rw [show valD (eB ((ts.take i).map fun t => (t.1, (0 : Int)))) (Sum.inl t.1) = (look ((ts.take i).map fun t => (t.1, (0 : Int))) t.1).map (fun _ => D.bl true) from valD_map (m := (ts.take i).map fun t => (t.1, (0 : Int))) (en := fun _ : Int => D.bl true), look_none.mpr hnew]; rfl
        have hml : ((ts.take i).map fun t => (t.1, (0 : Int))).length ≤ 14 := by rw [List.length_map, List.length_take]; omega
        show SS X _ [Sl.dat (ePair p), Sl.dat (D.lst (ts.map eTie)), Sl.dat (D.lst ((toldL p ts).map D.int)), Sl.dat (eTie t), Sl.any, Sl.own (Own.dic (eB ((ts.take i).map fun t => (t.1, 0))))] _
        refine ss_when (y := (valD (eB ((ts.take i).map fun t => (t.1, (0 : Int)))) (Sum.inl t.1)).isSome) (et_c (ec_inD (q := Sum.inl t.1) cx (ee_ixT (d := D.int t.1) (ee_var v3 rfl) ee_int (fun _ _ => rfl) rfl) (ed_own v5 rfl)) (by first | exact L2.nomark _ | rfl | with_unfolding_all rfl)) (fun e => ?_) (fun e => ?_)
        · rw [hvn] at e; cases e
        · refine ss_dput (q := Sum.inl t.1) (d := D.bl true) cx v5 rfl (ee_ixT (d := D.int t.1) (ee_var v3 rfl) ee_int (fun _ _ => rfl) rfl) ee_bl (by rw [List.length_map]; omega) ?_
          rw [show putD (eB ((ts.take i).map fun t => (t.1, (0 : Int)))) (Sum.inl t.1) (D.bl true) = eB (put ((ts.take i).map fun t => (t.1, (0 : Int))) t.1 0) from putD_map (en := fun _ : Int => D.bl true) (v := 0), put_new hnew]
          refine ss_end (ss' := [Sl.dat (ePair p), Sl.dat (D.lst (ts.map eTie)), Sl.dat (D.lst ((toldL p ts).map D.int)), Sl.any, Sl.any, Sl.own (Own.dic (eB ((ts.take (i + 1)).map fun t => (t.1, 0))))]) ?_ rfl
          rw [List.take_succ, hx, List.map_append]
          exact .cons (.refl _) <| .cons (.refl _) <| .cons (.refl _) <| .cons (.any _) <| .cons (.refl _) <| .cons (.refl _) <| .nil
      · subst hW
        exact ss_nil hp
def r_net_of : List D → (Sl → Prop) → Prop := fun ds post => ∃ (p : Int × Int) (ts : List Tie), ds = [ePair p, D.lst (ts.map eTie)] ∧ (ToldOk p ts ∧ Pos3 ts ∧ NetOk (mkNet p ts) ∧ (placesP (mkNet p ts)).length ≤ 8) ∧ post (Sl.own (oNet (mkNet p ts)))
theorem sc_net_of : FnScope ["poles", "ties", "net"] ["poles", "ties"] (defScope s_net_of) := ⟨rfl, rfl, rfl, by decide +kernel, rfl, by decide +kernel, by decide +kernel⟩
set_option maxHeartbeats 2000000 in
theorem body_net_of {lv l1 l2 l3 : Nat} (h1 : l1 ≤ lv) (h2 : l2 ≤ lv) (h3 : l3 ≤ lv) (m_len : mg "len" = none) (c_T : ∃ t, mg "MOST_TIES" = some (.int (14 : Int) t)) (c_P : ∃ t, mg "MOST_PLACES" = some (.int (8 : Int) t)) (F_look : Fn P w K mg base l1 "look_over" 2 r_look_over) (F_made : Fn P w K mg base l2 "made" 2 r_made) (F_places : Fv P w K mg base l3 "places_of" 1 r_places_of) : Body P w K mg base ["poles", "ties", "net"] 2 lv s_net_of r_net_of := by
  intro X A ds post hl hR
  obtain ⟨p, ts, rfl, ⟨ok, hpos, hN, hpl⟩, hp⟩ := hR
  have cx := A.cx
  obtain ⟨rfl, rfl, rfl, rfl, rfl, _, _, _, _⟩ := id A
  have v0 : VarOk X 0 "poles" := A.var rfl (Or.inl rfl)
  have v1 : VarOk X 1 "ties" := A.var rfl (Or.inl rfl)
  have v2 : VarOk X 2 "net" := A.var rfl (Or.inl rfl)
  have l2 : LocOk X 2 "net" := A.loc rfl (Or.inl rfl)
  have b_len : Bi X "len" := A.bi rfl m_len
  obtain ⟨_, c_T⟩ := c_T
  obtain ⟨_, c_P⟩ := c_P
  have hlen := ok.len
  show SS X _ [Sl.dat (ePair p), Sl.dat (D.lst (ts.map eTie)), Sl.any] _
  refine ss_expr (r := Sl.dat D.non) (ee_call F_look cx h1 (A.gl rfl) (ea_cons (ee_var v0 rfl) (ea_cons (ee_var v1 rfl) ea_nil)) ⟨p, ts, rfl, ok, rfl⟩ rfl) ?_
  refine ss_asg cx.nd l2 (r := Sl.own (oNet (mkNet p ts))) (ee_call F_made cx h2 (A.gl rfl) (ea_cons (ee_var v0 rfl) (ea_cons (ee_var v1 rfl) ea_nil)) ⟨p, ts, rfl, ⟨by omega, hpos⟩, rfl⟩ rfl) ?_
  generalize mkNet p ts = n at hN hpl hp
  show SS X _ [Sl.dat (ePair p), Sl.dat (D.lst (ts.map eTie)), Sl.own (oNet n)] _
  refine ss_when (y := (decide ((14 : Int) < (ts.length : Int))) || (decide ((8 : Int) < ((placesP n).length : Int)))) (et_w (etw_or (et_c (ec_gt (ee_lenT' (en := eTie) b_len (el_dat (ee_var v1 rfl))) (ee_globI (A.gl rfl) c_T)) (by first | exact L2.nomark _ | rfl | with_unfolding_all rfl)) (fun _ => etw_or1 (et_c (ec_gt (ee_lenT' (en := D.int) b_len (el_new (ee_callV F_places cx h3 (A.gl rfl) (ear_vw (ev_own v2 rfl) ear_nil) ⟨n, rfl, hN, rfl⟩ rfl))) (ee_globI (A.gl rfl) c_P)) (by first | exact L2.nomark _ | rfl | with_unfolding_all rfl))))) (fun e => ?_) (fun e => ?_)
  · rw [decide_eq_false (show ¬ (14 : Int) < (ts.length : Int) by omega), decide_eq_false (show ¬ (8 : Int) < ((placesP n).length : Int) by omega)] at e
    cases e
  · exact ss_retO (o := oNet n) v2 rfl hp
theorem atI_hd {α : Type} (x : α) (xs : List α) : atI (x :: xs) 0 = some x := by
  unfold atI ixN
  simp
theorem sgn0 (c : Nat) : decide ((⟨#[c]⟩ : Str) = ("0" : Str)) = decide (some c = some 48) := by
  have h : ((⟨#[c]⟩ : Str) = ("0" : Str)) ↔ some c = some 48 := by
    constructor
    · intro e
      have := congrArg cd e
      rw [show cd ("0" : Str) = [48] by decide +kernel] at this
      have : [c] = [48] := this
      injection this with h1
      rw [h1]
    · intro e
      have e := Option.some.inj e
      subst e
      decide +kernel
  by_cases q : some c = some 48
  · rw [decide_eq_true q, decide_eq_true (h.mpr q)]
  · rw [decide_eq_false q, decide_eq_false fun z => q (h.mp z)]
def r_number_written : List D → (Sl → Prop) → Prop := fun ds post => ∃ z : Str, ds = [D.str z] ∧ z.length ≤ sizeLine ∧ post (Sl.dat (oI (numW z)))
theorem sc_number_written : FnScope ["word", "sign"] ["word"] (defScope s_number_written) := ⟨rfl, rfl, rfl, by decide +kernel, rfl, by decide +kernel, by decide +kernel⟩
set_option maxHeartbeats 2000000 in
theorem body_number_written (m_len : mg "len" = none) (m_int : mg "int" = none) : Body P w K mg base ["word", "sign"] 1 0 s_number_written r_number_written := by
  intro X A ds post hl hR
  obtain ⟨z, rfl, hz, hp⟩ := hR
  have cx := A.cx
  obtain ⟨rfl, rfl, rfl, rfl, rfl, _, _, _, _⟩ := id A
  have v0 : VarOk X 0 "word" := A.var rfl (Or.inl rfl)
  have v1 : VarOk X 1 "sign" := A.var rfl (Or.inl rfl)
  have l1 : LocOk X 1 "sign" := A.loc rfl (Or.inl rfl)
  have b_len : Bi X "len" := A.bi rfl m_len
  have b_int : Bi X "int" := A.bi rfl m_int
  show SS X _ [Sl.dat (D.str z), Sl.any] _
  refine ss_when (y := decide ((z.length : Int) = 0) || decide ((60 : Int) < (z.length : Int))) (et_w (etw_or (et_c (ec_eqI (ee_lenS b_len (ee_var v0 rfl) hz) ee_int) (by first | exact L2.nomark _ | rfl | with_unfolding_all rfl)) (fun _ => etw_or1 (et_c (ec_gt (ee_lenS b_len (ee_var v0 rfl) hz) ee_int) (by first | exact L2.nomark _ | rfl | with_unfolding_all rfl))))) (fun e => ?_) (fun e => ?_)
  · refine ss_ret (r := Sl.dat D.non) ee_non ?_
    have : numW z = none := by unfold numW; rw [e]; rfl
    rw [this] at hp
    exact hp
  · have e' := e
    rw [Bool.or_eq_false_iff] at e'
    have e1 := of_decide_eq_false e'.1
    have e2 := of_decide_eq_false e'.2
    have hlen : z.length = (cd z).length := len_cd z
    have hne : cd z ≠ [] := fun q => by rw [q] at hlen; exact e1 (by rw [hlen]; rfl)
    obtain ⟨c, cs, hc⟩ := List.exists_cons_of_ne_nil hne
    refine ss_when (y := decide ((cd z).head? = some 48) && decide ((1 : Int) < (z.length : Int))) (et_w (etw_and (x := decide ((cd z).head? = some 48)) ?_ (fun _ => etw_and1 (et_c (ec_gt (ee_lenS b_len (ee_var v0 rfl) hz) ee_int) (by first | exact L2.nomark _ | rfl | with_unfolding_all rfl))))) (fun e3 => ?_) (fun e3 => ?_)
    · rw [hc]
      show ET X _ _ (decide (some c = some 48))
      rw [← sgn0]
      exact et_c (ec_eqS (ee_ixS (c := c) (ee_var v0 rfl) ee_int (fun _ _ => rfl) hz (by show atI (cd z) 0 = some c; rw [hc]; exact atI_hd _ _)) ee_str) (by first | exact L2.nomark _ | rfl | with_unfolding_all rfl)
    · refine ss_ret (r := Sl.dat D.non) ee_non ?_
      have : numW z = none := by unfold numW; rw [e, e3]; rfl
      rw [this] at hp
      exact hp
    · have hnum : numW z = cond ((cd z).all fun c => decide (c ∈ DG)) (some ((NumText.digitsVal (cd z) : Nat) : Int)) none := by unfold numW; rw [e, e3]; rfl
      refine ss_forT (en := fun c => D.str ⟨#[c]⟩) (xs := cd z) cx (ei_str (ee_var v0 rfl)) (fun i s => (∀ c ∈ (cd z).take i, c ∈ DG) ∧ s = [Sl.dat (D.str z), Sl.any]) ⟨(by simp), rfl⟩ (fun i c s1 hx hW => ?_) (fun s1 hW => ?_)
      · obtain ⟨hall, rfl⟩ := hW
        refine ⟨_, _, tt_name l1 cx.nd, ?_⟩
        show SS X _ [Sl.dat (D.str z), Sl.dat (D.str ⟨#[c]⟩)] _
        refine ss_when (y := !decide (c ∈ DG)) (et_c (ec_notinSg (ee_var v1 rfl) ee_str) (by first | exact L2.nomark _ | rfl | with_unfolding_all rfl)) (fun e4 => ?_) (fun e4 => ?_)
        · refine ss_ret (r := Sl.dat D.non) ee_non ?_
          have : ((cd z).all fun c => decide (c ∈ DG)) = false := by
            rw [List.all_eq_false]
            exact ⟨c, List.mem_of_getElem? hx, by simpa using e4⟩
          rw [hnum, this] at hp
          exact hp
        · refine ss_end (ss' := [Sl.dat (D.str z), Sl.any]) (.cons (.refl _) (.cons (.any _) .nil)) ⟨fun d hd => ?_, rfl⟩
          rw [List.take_succ, hx] at hd
          rcases List.mem_append.mp hd with q | q
          · exact hall d q
          · have q : d = c := by simpa using q
            rw [q]
            simpa using e4
      · obtain ⟨hall, rfl⟩ := hW
        rw [List.take_length] at hall
        have hh : ((cd z).all fun c => decide (c ∈ DG)) = true := List.all_eq_true.mpr fun d hd => decide_eq_true (hall d hd)
        rw [hnum, hh] at hp
        exact ss_ret (r := Sl.dat (D.int ((NumText.digitsVal (cd z) : Nat) : Int))) (ee_intS b_int (ee_var v0 rfl) (numW_int (by omega) (by omega) hall) (by omega)) hp
theorem cut_tail {α : Type} (x : α) (xs : List α) : cut (x :: xs) (some 1) none = xs := by
  unfold cut
  rw [show (1 : Int) = ((1 : Nat) : Int) from rfl, HT.sIx_nat]
  rw [show HT.sIx (x :: xs).length (x :: xs).length none = (x :: xs).length from rfl]
  rw [List.take_of_length_le (by rw [List.length_drop]; omega)]
  rw [show min 1 (x :: xs).length = 1 by rw [List.length_cons]; omega]
  rfl
theorem cutD_tail (x : D) (xs : List D) : cutD (x :: xs) (some 1) none = xs := cut_tail x xs
theorem numsL_len : ∀ {xs : List Str} {ns : List Int}, numsL xs = some ns → ns.length = xs.length
  | [], ns, h => by
    have h : [] = ns := Option.some.inj h
    subst h; rfl
  | x :: xs, ns, h => by
    have h : (numW x).bind (fun n => (numsL xs).map (n :: ·)) = some ns := h
    cases e : numW x with
    | none => rw [e] at h; cases h
    | some n =>
      rw [e] at h
      have h : (numsL xs).map (n :: ·) = some ns := h
      cases e2 : numsL xs with
      | none => rw [e2] at h; cases h
      | some ms =>
        rw [e2] at h
        have h : n :: ms = ns := Option.some.inj h
        subst h
        rw [List.length_cons, List.length_cons, numsL_len e2]
def r_numbers_written : List D → (Sl → Prop) → Prop := fun ds post => ∃ (z u : Str) (k : Int), ds = [D.str z, D.str u, D.int k] ∧ z.length ≤ 900 ∧ post (Sl.dat (oT (numsW z u k)))
theorem sc_numbers_written : FnScope ["text", "word", "many", "words", "numbers", "part", "number"] ["text", "word", "many"] (defScope s_numbers_written) := ⟨rfl, rfl, rfl, by decide +kernel, rfl, by decide +kernel, by decide +kernel⟩
set_option maxHeartbeats 2000000 in
theorem body_numbers_written {lv l1 : Nat} (h1 : l1 ≤ lv) (m_len : mg "len" = none) (m_tuple : mg "tuple" = none) (F_num : Fn P w K mg base l1 "number_written" 1 r_number_written) : Body P w K mg base ["text", "word", "many", "words", "numbers", "part", "number"] 3 lv s_numbers_written r_numbers_written := by
  intro X A ds post hl hR
  obtain ⟨z, u, k, rfl, hz, hp⟩ := hR
  have cx := A.cx
  obtain ⟨rfl, rfl, rfl, rfl, rfl, _, _, _, _⟩ := id A
  have v0 : VarOk X 0 "text" := A.var rfl (Or.inl rfl)
  have v1 : VarOk X 1 "word" := A.var rfl (Or.inl rfl)
  have v2 : VarOk X 2 "many" := A.var rfl (Or.inl rfl)
  have v3 : VarOk X 3 "words" := A.var rfl (Or.inl rfl)
  have v4 : VarOk X 4 "numbers" := A.var rfl (Or.inl rfl)
  have v5 : VarOk X 5 "part" := A.var rfl (Or.inl rfl)
  have v6 : VarOk X 6 "number" := A.var rfl (Or.inl rfl)
  have l3 : LocOk X 3 "words" := A.loc rfl (Or.inl rfl)
  have l4 : LocOk X 4 "numbers" := A.loc rfl (Or.inl rfl)
  have l5 : LocOk X 5 "part" := A.loc rfl (Or.inl rfl)
  have l6 : LocOk X 6 "number" := A.loc rfl (Or.inl rfl)
  have b_len : Bi X "len" := A.bi rfl m_len
  have b_tuple : Bi X "tuple" := A.bi rfl m_tuple
  have hwl : (wordsT z).length ≤ 902 := Nat.le_trans (PyProof.Rows.split_le z SP) (by omega)
  have hshort : ∀ p ∈ wordsT z, p.length ≤ sizeLine := fun p hp => by
    have := PyProof.Rows.part_short (x := z) (y := SP) hp
    rw [sizeLine_eq]
    omega
  show SS X _ [Sl.dat (D.str z), Sl.dat (D.str u), Sl.dat (D.int k), Sl.any, Sl.any, Sl.any, Sl.any] _
  refine ss_asg cx.nd l3 (r := Sl.own (Own.lst ((wordsT z).map D.str))) (ee_split (ee_var v0 rfl) ee_str (by decide +kernel) (by rw [sizeLine_eq]; omega)) ?_
  have hne := wordsT_ne z
  unfold numsW at hp
  generalize wordsT z = W at hne hwl hshort hp
  obtain ⟨w0, ps, rfl⟩ := List.exists_cons_of_ne_nil hne
  show SS X _ [Sl.dat (D.str z), Sl.dat (D.str u), Sl.dat (D.int k), Sl.own (Own.lst ((w0 :: ps).map D.str)), Sl.any, Sl.any, Sl.any] _
  refine ss_when (y := (!decide (w0 = u)) || (!decide (((w0 :: ps).length : Int) = k + (1 : Int)))) (et_w (etw_or (et_c (ec_neS (ee_ixLT (en := D.str) (xs := w0 :: ps) (t := w0) (el_own v3 rfl) ee_int (fun _ _ => rfl) (atI_hd _ _)) (ee_var v1 rfl)) (by first | exact L2.nomark _ | rfl | with_unfolding_all rfl)) (fun _ => etw_or1 (et_c (ec_neI (ee_lenT' (en := D.str) b_len (el_own v3 rfl)) (ee_add (ee_var v2 rfl) ee_int)) (by first | exact L2.nomark _ | rfl | with_unfolding_all rfl))))) (fun e => ?_) (fun e => ?_)
  · refine ss_ret (r := Sl.dat D.non) ee_non ?_
    have hp : post (Sl.dat (oT (cond ((!decide (w0 = u)) || (!decide (((w0 :: ps).length : Int) = k + (1 : Int)))) none (numsL ps)))) := hp
    rw [e] at hp
    exact hp
  · have hp : post (Sl.dat (oT (cond ((!decide (w0 = u)) || (!decide (((w0 :: ps).length : Int) = k + (1 : Int)))) none (numsL ps)))) := hp
    rw [e] at hp
    have hp : post (Sl.dat (oT (numsL ps))) := hp
    refine ss_asg cx.nd l4 (r := Sl.own (Own.lst (([] : List Int).map D.int))) (ee_lst ea_nil (by decide)) ?_
    refine ss_forT (en := D.str) (xs := ps) cx (ei_list (EE.frzL ?_)) (fun i s => ∃ ns, numsL (ps.take i) = some ns ∧ s = [Sl.dat (D.str z), Sl.dat (D.str u), Sl.dat (D.int k), Sl.own (Own.lst ((w0 :: ps).map D.str)), Sl.own (Own.lst (ns.map D.int)), Sl.any, Sl.any]) ⟨[], rfl, rfl⟩ (fun i t s1 hx hW => ?_) (fun s1 hW => ?_)
    · exact Eq.mp (congrArg (fun l => EE X _ _ (Sl.own (Own.lst (List.map D.str l)))) (cut_tail w0 ps)) (ee_slLT (en := D.str) (xs := w0 :: ps) (el_own v3 rfl) (eo_some ee_int) eo_none)
    · obtain ⟨ns, hns, rfl⟩ := hW
      have hnl := numsL_len hns
      rw [List.length_take] at hnl
      rw [List.length_cons] at hwl
      refine ⟨_, _, tt_name l5 cx.nd, ?_⟩
      show SS X _ [Sl.dat (D.str z), Sl.dat (D.str u), Sl.dat (D.int k), Sl.own (Own.lst ((w0 :: ps).map D.str)), Sl.own (Own.lst (ns.map D.int)), Sl.dat (D.str t), Sl.any] _
      refine ss_asg cx.nd l6 (r := Sl.dat (oI (numW t))) (ee_call F_num cx h1 (A.gl rfl) (ea_cons (ee_var v5 rfl) ea_nil) ⟨t, rfl, hshort t (List.mem_cons_of_mem _ (List.mem_of_getElem? hx)), rfl⟩ rfl) ?_
      show SS X _ [Sl.dat (D.str z), Sl.dat (D.str u), Sl.dat (D.int k), Sl.own (Own.lst ((w0 :: ps).map D.str)), Sl.own (Own.lst (ns.map D.int)), Sl.dat (D.str t), Sl.dat (oI (numW t))] _
      cases hn : numW t with
      | none =>
        refine ss_when (y := true) (et_c (ec_isN (d := D.non) (ee_var v6 rfl)) (by first | exact L2.nomark _ | rfl | with_unfolding_all rfl)) (fun _ => ?_) (fun q => by cases q)
        refine ss_ret (r := Sl.dat D.non) ee_non ?_
        have hi := (List.getElem?_eq_some_iff.mp hx)
        have hb : numsL ps = none := by
          rw [show ps = ps.take i ++ t :: ps.drop (i + 1) by rw [← hi.2, List.getElem_cons_drop, List.take_append_drop]]
          exact numsL_bad hn
        rw [hb] at hp
        exact hp
      | some n =>
        refine ss_when (y := false) (et_c (ec_isN (d := D.int n) (ee_var v6 rfl)) (by first | exact L2.nomark _ | rfl | with_unfolding_all rfl)) (fun q => by cases q) (fun _ => ?_)
        refine ss_appT (en := D.int) (xs := ns) (t := n) v4 rfl (ee_var v6 rfl) (by omega) ?_
        refine ss_end (ss' := [Sl.dat (D.str z), Sl.dat (D.str u), Sl.dat (D.int k), Sl.own (Own.lst ((w0 :: ps).map D.str)), Sl.own (Own.lst ((ns ++ [n]).map D.int)), Sl.any, Sl.any]) (.cons (.refl _) <| .cons (.refl _) <| .cons (.refl _) <| .cons (.refl _) <| .cons (.refl _) <| .cons (.any _) <| .cons (.any _) .nil) ⟨ns ++ [n], ?_, rfl⟩
        rw [List.take_succ, hx]
        show numsL (ps.take i ++ [t]) = _
        rw [numsL_app hns]
        show ((numW t).bind fun n => (numsL []).map (n :: ·)).map (ns ++ ·) = _
        rw [hn]
        rfl
    · obtain ⟨ns, hns, rfl⟩ := hW
      rw [List.take_length] at hns
      rw [hns] at hp
      exact ss_ret (r := Sl.dat (D.tup (ns.map D.int))) (ee_tupL b_tuple (el_own v4 rfl)) hp
def tieW (t : Tie) : Str := lineW ("tie" : Str) [t.1, t.2.1, t.2.2]
def rowsP (p : Int × Int) (ts : List Tie) : List Str := lineW ("poles" : Str) [p.1, p.2] :: ts.map tieW
def RdOk (p : Int × Int) (ts : List Tie) : Prop := FigN (p, ts) ∧ ToldOk p ts ∧ Pos3 ts ∧ NetOk (mkNet p ts) ∧ (placesP (mkNet p ts)).length ≤ 8
def toldD (p : Int × Int) (ts : List Tie) : List D := ePair p :: ts.map eTie
def r_read : List Ar → (Sl → Prop) → Prop := fun as post => ∃ (p : Int × Int) (ts : List Tie), as = [Ar.vw (Own.lst ((rowsP p ts).map D.str))] ∧ RdOk p ts ∧ post (Sl.own (oNet (mkNet p ts)))
theorem sc_read : FnScope ["rows", "told", "row", "text", "numbers"] ["rows"] (defScope s_read) := ⟨rfl, rfl, rfl, by decide +kernel, rfl, by decide +kernel, by decide +kernel⟩
theorem poles_free : 32 ∉ cd ("poles" : Str) := by decide +kernel
theorem tie_free : 32 ∉ cd ("tie" : Str) := by decide +kernel
set_option maxHeartbeats 4000000 in
theorem body_read {lv l1 l2 : Nat} (h1 : l1 ≤ lv) (h2 : l2 ≤ lv) (m_len : mg "len" = none) (m_enum : mg "enumerate" = none) (F_nums : Fn P w K mg base l1 "numbers_written" 3 r_numbers_written) (F_net : Fn P w K mg base l2 "net_of" 2 r_net_of) : BodyV P w K mg base ["rows", "told", "row", "text", "numbers"] 1 lv s_read r_read := by
  intro X A as post hl hR
  obtain ⟨p, ts, rfl, ⟨⟨f1, f2⟩, ok, hpos, hN, hpl⟩, hp⟩ := hR
  have cx := A.cx
  obtain ⟨rfl, rfl, rfl, rfl, rfl, _, _, _, _⟩ := id A
  have v0 : VarOk X 0 "rows" := A.var rfl (Or.inl rfl)
  have v1 : VarOk X 1 "told" := A.var rfl (Or.inl rfl)
  have v2 : VarOk X 2 "row" := A.var rfl (Or.inl rfl)
  have v3 : VarOk X 3 "text" := A.var rfl (Or.inl rfl)
  have v4 : VarOk X 4 "numbers" := A.var rfl (Or.inl rfl)
  have l1 : LocOk X 1 "told" := A.loc rfl (Or.inl rfl)
  have l2 : LocOk X 2 "row" := A.loc rfl (Or.inl rfl)
  have l3 : LocOk X 3 "text" := A.loc rfl (Or.inl rfl)
  have l4 : LocOk X 4 "numbers" := A.loc rfl (Or.inl rfl)
  have b_len : Bi X "len" := A.bi rfl m_len
  have b_enum : Bi X "enumerate" := A.bi rfl m_enum
  have hlen := ok.len
  have hrl : (rowsP p ts).length = ts.length + 1 := by unfold rowsP; rw [List.length_cons, List.length_map]
  have htl : (toldD p ts).length = ts.length + 1 := by unfold toldD; rw [List.length_cons, List.length_map]
  show SS X _ [Sl.vw (Own.lst ((rowsP p ts).map D.str)), Sl.any, Sl.any, Sl.any, Sl.any] _
  refine ss_when (y := decide (((rowsP p ts).length : Int) = 0)) (et_c (ec_eqI (ee_lenT' (en := D.str) b_len (el_ev (ev_vw v0 rfl))) ee_int) (by first | exact L2.nomark _ | rfl | with_unfolding_all rfl)) (fun e => ?_) (fun _ => ?_)
  · have := of_decide_eq_true e
    omega
  refine ss_asg cx.nd l1 (r := Sl.own (Own.lst ([] : List D))) (ee_lst ea_nil (by decide)) ?_
  refine ss_forE (en := D.str) (xs := rowsP p ts) cx (ei_enumV b_enum.g b_enum.m (evb_vw v0 rfl)) (fun i s => s = [Sl.vw (Own.lst ((rowsP p ts).map D.str)), Sl.own (Own.lst ((toldD p ts).take i)), Sl.any, Sl.any, Sl.any]) rfl (fun i t s1 hx hW => ?_) (fun s1 hW => ?_)
  · subst hW
    have hi := (List.getElem?_eq_some_iff.mp hx).1
    refine ⟨_, _, tt_tup cx.calm (tts_cons (tt_name l2 cx.nd) (tts_cons (tt_name l3 cx.nd) tts_nil)), ?_⟩
    show SS X _ [Sl.vw (Own.lst ((rowsP p ts).map D.str)), Sl.own (Own.lst ((toldD p ts).take i)), Sl.dat (D.int (i : Int)), Sl.dat (D.str t), Sl.any] _
    have hbd : ((toldD p ts).take i).length ≤ 1000 := by rw [List.length_take]; omega
    cases i with
    | zero =>
      have ht : t = lineW ("poles" : Str) [p.1, p.2] := (Option.some.inj hx).symm
      subst ht
      refine ss_if (y := true) (et_c (ec_eqI (i := 0) (j := 0) (ee_var v2 rfl) ee_int) (by first | exact L2.nomark _ | rfl | with_unfolding_all rfl)) (fun _ => ?_) (fun q => by cases q)
      have hw := numsW_line (k := 2) f1 poles_free rfl
      refine ss_asg cx.nd l4 (r := Sl.dat (ePair p)) (ee_call F_nums cx h1 (A.gl rfl) (ea_cons (ee_var v3 rfl) (ea_cons ee_str (ea_cons ee_int ea_nil))) ⟨_, _, 2, rfl, Nat.le_trans (lineW_len (by decide +kernel) (by show 2 ≤ 5; decide)) (by decide), by rw [hw]; rfl⟩ rfl) ?_
      refine ss_end (ss' := [Sl.vw (Own.lst ((rowsP p ts).map D.str)), Sl.own (Own.lst ((toldD p ts).take 0)), Sl.dat (D.int 0), Sl.any, Sl.dat (ePair p)]) (.cons (.refl _) <| .cons (.refl _) <| .cons (.refl _) <| .cons (.any _) <| .cons (.refl _) .nil) ?_
      refine ss_when (y := false) (et_c (ec_isN (d := ePair p) (ee_var v4 rfl)) (by first | exact L2.nomark _ | rfl | with_unfolding_all rfl)) (fun q => by cases q) (fun _ => ?_)
      refine ss_app (d := ePair p) v1 rfl (ee_var v4 rfl) hbd ?_
      exact ss_end (ss' := [Sl.vw (Own.lst ((rowsP p ts).map D.str)), Sl.own (Own.lst ((toldD p ts).take 1)), Sl.any, Sl.any, Sl.any]) (.cons (.refl _) <| .cons (.refl _) <| .cons (.any _) <| .cons (.refl _) <| .cons (.any _) .nil) rfl
    | succ i =>
      have hx : (ts.map tieW)[i]? = some t := hx
      rw [List.getElem?_map] at hx
      cases hu : ts[i]? with
      | none => rw [hu] at hx; cases hx
      | some q =>
      rw [hu] at hx
      have ht : tieW q = t := Option.some.inj hx
      subst ht
      have hq := f2 q (List.mem_of_getElem? hu)
      refine ss_if (y := decide (((i + 1 : Nat) : Int) = 0)) (et_c (ec_eqI (ee_var v2 rfl) ee_int) (by first | exact L2.nomark _ | rfl | with_unfolding_all rfl)) (fun e => ?_) (fun _ => ?_)
      · have := of_decide_eq_true e
        omega
      have hw := numsW_line (k := 3) hq tie_free rfl
      refine ss_asg cx.nd l4 (r := Sl.dat (eTie q)) (ee_call F_nums cx h1 (A.gl rfl) (ea_cons (ee_var v3 rfl) (ea_cons ee_str (ea_cons ee_int ea_nil))) ⟨_, _, 3, rfl, Nat.le_trans (lineW_len (by decide +kernel) (by show 3 ≤ 5; decide)) (by decide), by unfold tieW; rw [hw]; rfl⟩ rfl) ?_
      refine ss_end (ss' := [Sl.vw (Own.lst ((rowsP p ts).map D.str)), Sl.own (Own.lst ((toldD p ts).take (i + 1))), Sl.dat (D.int ((i + 1 : Nat) : Int)), Sl.any, Sl.dat (eTie q)]) (.cons (.refl _) <| .cons (.refl _) <| .cons (.refl _) <| .cons (.any _) <| .cons (.refl _) .nil) ?_
      refine ss_when (y := false) (et_c (ec_isN (d := eTie q) (ee_var v4 rfl)) (by first | exact L2.nomark _ | rfl | with_unfolding_all rfl)) (fun q => by cases q) (fun _ => ?_)
      refine ss_app (d := eTie q) v1 rfl (ee_var v4 rfl) hbd ?_
      have e9 : (toldD p ts).take (i + 1) ++ [eTie q] = (toldD p ts).take (i + 2) := by
        have : (toldD p ts)[i + 1]? = some (eTie q) := by
          show (ts.map eTie)[i]? = _
          rw [List.getElem?_map, hu]; rfl
        rw [List.take_succ (i := i + 1), this]; rfl
      rw [e9]
      exact ss_end (ss' := [Sl.vw (Own.lst ((rowsP p ts).map D.str)), Sl.own (Own.lst ((toldD p ts).take (i + 2))), Sl.any, Sl.any, Sl.any]) (.cons (.refl _) <| .cons (.refl _) <| .cons (.any _) <| .cons (.refl _) <| .cons (.any _) .nil) rfl
  · subst hW
    rw [hrl, ← htl, List.take_length]
    show SS X _ [Sl.vw (Own.lst ((rowsP p ts).map D.str)), Sl.own (Own.lst (toldD p ts)), Sl.any, Sl.any, Sl.any] _
    refine ss_ret (r := Sl.own (oNet (mkNet p ts))) (ee_call F_net cx h2 (A.gl rfl) (ea_cons (ee_ixL (d := ePair p) (ds := toldD p ts) (el_own v1 rfl) ee_int (fun _ _ => rfl) (atI_hd _ _)) (ea_cons (d := D.lst (ts.map eTie)) ?_ ea_nil)) ⟨p, ts, rfl, ⟨ok, hpos, hN, hpl⟩, rfl⟩ rfl) hp
    exact (Eq.mp (congrArg (fun l => EE X _ _ (Sl.own (Own.lst l))) (cutD_tail (ePair p) (ts.map eTie))) (ee_slL (ds := toldD p ts) (el_own v1 rfl) (eo_some ee_int) eo_none)).frzL
end
end Toy
namespace Toy
open PySem L2 Lk
section
variable {P : Program} {w : World} {K : PySem.W.Frag} {mg : Str → Option Value} {base : Heap} {C : Addr}
theorem fig2 {a b : Int} (ha : 0 ≤ a ∧ a < 10 ^ 60) (hb : 0 ≤ b ∧ b < 10 ^ 60) : Fig [a, b] := fun x hx => by
  rcases List.mem_cons.mp hx with e | e
  · rw [e]; exact ha
  · rw [List.mem_singleton.mp e]; exact hb
theorem fig3 {a b c : Int} (ha : 0 ≤ a ∧ a < 10 ^ 60) (hb : 0 ≤ b ∧ b < 10 ^ 60) (hc : 0 ≤ c ∧ c < 10 ^ 60) : Fig [a, b, c] := fun x hx => by
  rcases List.mem_cons.mp hx with e | e
  · rw [e]; exact ha
  · exact fig2 hb hc x e
theorem cut_mid {α : Type} (l : List α) {i : Int} (h0 : 0 ≤ i) (x : α) : (cut l none (some i) ++ [x] ++ cut l (some i) none).Perm (l ++ [x]) := by
  obtain ⟨m, rfl⟩ : ∃ m : Nat, i = m := ⟨i.toNat, by omega⟩
  unfold cut
  rw [HT.sIx_nat, HT.sIx_nat]
  have e1 : HT.sIx l.length l.length none = l.length := rfl
  have e2 : HT.sIx l.length 0 none = 0 := rfl
  rw [e1, e2, List.drop_zero]
  rw [List.take_of_length_le (l := l.drop (min m l.length)) (by rw [List.length_drop]; omega), Nat.sub_zero]
  have e : (l ++ [x]).Perm (l.take (min m l.length) ++ (l.drop (min m l.length) ++ [x])) := by
    rw [← List.append_assoc, List.take_append_drop]
  refine .trans ?_ e.symm
  rw [List.append_assoc]
  exact .append (.refl _) List.perm_append_comm
theorem mk_flip {t u : Tie} (h : t.2.1 ≤ t.2.2) (e : u = t ∨ u = (t.1, t.2.2, t.2.1)) : mkTie u = t := by
  obtain ⟨a, b, c⟩ := t
  have h : b ≤ c := h
  unfold mkTie prOf
  rcases e with e | e <;> subst e
  · rw [decide_eq_false (show ¬ c < b by omega)]; rfl
  · by_cases q : b < c
    · rw [decide_eq_true (show b < c from q)]; rfl
    · have : b = c := by omega
      subst this
      rw [decide_eq_false q]; rfl
/-- the ties told -/
structure Mixed (ts told : List Tie) : Prop where
  p : (told.map mkTie).Perm ts
  each : ∀ u ∈ told, ∃ t ∈ ts, u = t ∨ u = (t.1, t.2.2, t.2.1)
theorem srtT_eq {a b : List Tie} (h : a.Perm b) : srtT a = srtT b := srtT_of ((srtT_perm a).trans h) (srtT_le a)
def abX {α : Type} (s : Int × List α) (t : α) : Int × List α :=
  ((s.1 * (48271 : Int) + (7919 : Int)) % (2147483647 : Int),
   cut s.2 none (some ((s.1 * (48271 : Int) + (7919 : Int)) % (2147483647 : Int) / (64 : Int) % ((s.2.length : Int) + (1 : Int)))) ++ [t] ++ cut s.2 (some ((s.1 * (48271 : Int) + (7919 : Int)) % (2147483647 : Int) / (64 : Int) % ((s.2.length : Int) + (1 : Int)))) none)
def abS {α : Type} (ts : List α) (c : Int) : Int × List α := ts.foldl abX (c % (2147483647 : Int), [])
def abG {α : Type} (ts : List α) (c : Int) : List α := (abS ts c).2
theorem abS_take {α : Type} {ts : List α} {c : Int} {i : Nat} {t : α} (h : ts[i]? = some t) : abS (ts.take (i + 1)) c = abX (abS (ts.take i) c) t := by
  unfold abS
  rw [List.take_succ, h, List.foldl_append]
  rfl
theorem cut_map {α β : Type} (f : α → β) (xs : List α) (a b : Option Int) : cut (xs.map f) a b = (cut xs a b).map f := by
  unfold cut
  rw [List.length_map, List.map_take, List.map_drop]
theorem abS_map {α β : Type} (f : α → β) : ∀ (ts : List α) (s : Int × List α), (ts.map f).foldl abX (s.1, s.2.map f) = ((ts.foldl abX s).1, (ts.foldl abX s).2.map f)
  | [], s => rfl
  | t :: ts, s => by
    show (ts.map f).foldl abX (abX (s.1, s.2.map f) (f t)) = _
    have e : abX (s.1, s.2.map f) (f t) = ((abX s t).1, (abX s t).2.map f) := by
      unfold abX
      rw [List.length_map, cut_map, cut_map, List.map_append, List.map_append]
      rfl
    rw [e]
    exact abS_map f ts (abX s t)
theorem abG_map {α β : Type} (f : α → β) (ts : List α) (c : Int) : abG (ts.map f) c = (abG ts c).map f := congrArg Prod.snd (abS_map f ts (c % (2147483647 : Int), []))
theorem abX_perm {α : Type} (s : Int × List α) (t : α) : (abX s t).2.Perm (s.2 ++ [t]) := cut_mid _ (Int.emod_nonneg _ (by omega)) _
theorem ab_fold {α : Type} : ∀ (ts : List α) (s : Int × List α), (ts.foldl abX s).2.Perm (s.2 ++ ts)
  | [], s => by rw [List.append_nil]; exact .refl _
  | t :: ts, s => by
    refine (ab_fold ts (abX s t)).trans ?_
    refine ((abX_perm s t).append_right ts).trans ?_
    rw [List.append_assoc]
    exact .refl _
theorem abG_perm {α : Type} (ts : List α) (c : Int) : (abG ts c).Perm ts := ab_fold ts _
theorem abTo_len {α : Type} (ts : List α) (c : Int) : ∀ i, i ≤ ts.length → (abS (ts.take i) c).2.length = i := fun i h => by
  have := (abG_perm (ts.take i) c).length_eq
  rw [List.length_take] at this
  have e : (abS (ts.take i) c).2.length = (abG (ts.take i) c).length := rfl
  omega
theorem cut_head {α : Type} (x : α) (xs : List α) : cut (x :: xs) none (some 1) = [x] := by
  unfold cut
  rw [show (1 : Int) = ((1 : Nat) : Int) from rfl, HT.sIx_nat]
  rw [show HT.sIx (x :: xs).length 0 none = 0 from rfl, List.drop_zero]
  rw [show min 1 (x :: xs).length = 1 by rw [List.length_cons]; omega]
  rfl
theorem mk05 {n : Net} (F : NetF n) {p : Int × Int} {ts : List Tie} (hpl : p = n.1 ∨ p = (n.1.2, n.1.1)) (M : Mixed n.2 ts) : mkNet p ts = n := by
  unfold mkNet
  rw [srtT_eq M.p, ← F.g.srt]
  have hp : prOf p.1 p.2 = n.1 := by
    have h := F.g.pl.2
    obtain ⟨⟨a, b⟩, ts⟩ := n
    have h : a ≤ b := h
    rcases hpl with e | e <;> rw [e]
    · show prOf a b = (a, b)
      unfold prOf
      rw [decide_eq_false (show ¬ b < a by omega)]; rfl
    · show prOf b a = (a, b)
      unfold prOf
      by_cases q : a < b
      · rw [decide_eq_true q]; rfl
      · have : a = b := by omega
        subst this
        rw [decide_eq_false q]; rfl
  rw [hp]
theorem rd05 {n : Net} (F : NetF n) {p : Int × Int} {ts : List Tie} (hpl : p = n.1 ∨ p = (n.1.2, n.1.1)) (M : Mixed n.2 ts) : RdOk p ts := by
  have ml := M.p.length_eq
  rw [List.length_map] at ml
  have num : ∀ x, 0 ≤ x ∧ x < 10 ^ 60 → m_is_number x = true := fun x hx => by
    unfold m_is_number
    rw [decide_eq_true (show (0 : Int) ≤ x from hx.1), decide_eq_true (show x < 1000000000000000000000000000000000000000000000000000000000000 by have := hx.2; omega)]
    rfl
  have tie : ∀ u ∈ ts, (0 ≤ u.1 ∧ u.1 < 10 ^ 60) ∧ (0 ≤ u.2.1 ∧ u.2.1 < 10 ^ 60) ∧ (0 ≤ u.2.2 ∧ u.2.2 < 10 ^ 60) := fun u hu => by
    obtain ⟨t, ht, e⟩ := M.each u hu
    have k1 := F.pl _ (tie_places t ht).1
    have k2 := F.pl _ (tie_places t ht).2
    have k0 : 0 ≤ t.1 ∧ t.1 < 10 ^ 60 := ⟨F.g.ok.nn t ht, F.nm t ht⟩
    rcases e with e | e <;> subst e
    · exact ⟨k0, k1, k2⟩
    · exact ⟨k0, k2, k1⟩
  have pol : (0 ≤ p.1 ∧ p.1 < 10 ^ 60) ∧ (0 ≤ p.2 ∧ p.2 < 10 ^ 60) := by
    have k1 := F.pl n.1.1 (placesP_mem.mpr (.inl rfl))
    have k2 := F.pl n.1.2 (placesP_mem.mpr (.inr (.inl rfl)))
    rcases hpl with e | e <;> rw [e]
    · exact ⟨k1, k2⟩
    · exact ⟨k2, k1⟩
  refine ⟨⟨fig2 pol.1 pol.2, fun u hu => fig3 (tie u hu).1 (tie u hu).2.1 (tie u hu).2.2⟩, ⟨fun x hx => num x ?_, ?_, by rw [ml]; exact F.g.ok.len⟩, fun u hu => ⟨(tie u hu).1.1, (tie u hu).2.1.1, (tie u hu).2.2.1⟩, by rw [mk05 F hpl M]; exact F.g.ok, by rw [mk05 F hpl M]; exact F.few⟩
  · unfold toldL at hx
    rcases List.mem_append.mp hx with q | q
    · simp only [List.mem_cons, List.not_mem_nil, or_false] at q
      rcases q with q | q <;> subst q
      · exact pol.1
      · exact pol.2
    · obtain ⟨u, hu, hx⟩ := List.mem_flatMap.mp q
      have k := tie u hu
      simp only [List.mem_cons, List.not_mem_nil, or_false] at hx
      rcases hx with e | e | e <;> subst e
      · exact k.1
      · exact k.2.1
      · exact k.2.2
  · have e : ts.map (·.1) = (ts.map mkTie).map (·.1) := by rw [List.map_map]; rfl
    rw [e]
    exact ((M.p.map (·.1)).nodup_iff).mpr F.g.ok.nd
theorem mixed_self {n : Net} (F : NetF n) : Mixed n.2 n.2 := ⟨by
  have : n.2.map mkTie = n.2 := by
    refine (List.map_congr_left fun t ht => mk_flip (F.g.asc t ht) (.inl rfl)).trans ?_
    rw [List.map_id']
  rw [this], fun u hu => ⟨u, hu, .inl rfl⟩⟩
theorem Mixed.perm {ts a b : List Tie} (M : Mixed ts a) (h : b.Perm a) : Mixed ts b := ⟨(h.map mkTie).trans M.p, fun u hu => M.each u (h.mem_iff.mp hu)⟩
def flT (c : Int) (p : Tie × Nat) : Tie := at0 (0, 0, 0) [p.1, ((p.1.1, p.1.2.2, p.1.2.1) : Tie)] (c / ((p.2 : Int) + (2 : Int)) % (2 : Int))
theorem flT_or (c : Int) (p : Tie × Nat) : flT c p = p.1 ∨ flT c p = (p.1.1, p.1.2.2, p.1.2.1) := by
  have h0 := Int.emod_nonneg (c / ((p.2 : Int) + (2 : Int))) (show (2 : Int) ≠ 0 by omega)
  have h1 := Int.emod_lt_of_pos (c / ((p.2 : Int) + (2 : Int))) (show (0 : Int) < 2 by omega)
  have hm := at0_mem (z := ((0, 0, 0) : Tie)) (xs := [p.1, ((p.1.1, p.1.2.2, p.1.2.1) : Tie)]) h0 h1
  simp only [List.mem_cons, List.not_mem_nil, or_false] at hm
  exact hm
def flL (ts : List Tie) (c : Int) : List Tie := ts.zipIdx.map (flT c)
theorem flL_take {ts : List Tie} {c : Int} {i : Nat} {t : Tie} (h : ts[i]? = some t) : (flL ts c).take (i + 1) = (flL ts c).take i ++ [flT c (t, i)] := by
  unfold flL
  rw [List.take_succ, List.getElem?_map, List.getElem?_zipIdx, h]
  simp
theorem flL_len (ts : List Tie) (c : Int) : (flL ts c).length = ts.length := by unfold flL; simp
theorem flL_all (ts : List Tie) (c : Int) : (flL ts c).take ts.length = flL ts c := by rw [← flL_len ts c, List.take_length]
theorem flL_mixed {n : Net} (F : NetF n) (c : Int) : Mixed n.2 (flL n.2 c) := ⟨by
  have e : (flL n.2 c).map mkTie = n.2 := by
    unfold flL
    rw [List.map_map]
    refine (List.map_congr_left (g := Prod.fst) fun p hp => ?_).trans ?_
    · have hm : p.1 ∈ n.2 := by
        have : p.1 ∈ n.2.zipIdx.map Prod.fst := List.mem_map.mpr ⟨p, hp, rfl⟩
        rwa [List.zipIdx_map_fst] at this
      exact mk_flip (F.g.asc p.1 hm) (flT_or c p)
    · exact List.zipIdx_map_fst _ _
  rw [e], fun u hu => by
    obtain ⟨p, hp, rfl⟩ := List.mem_map.mp hu
    have hm : p.1 ∈ n.2 := by
      have : p.1 ∈ n.2.zipIdx.map Prod.fst := List.mem_map.mpr ⟨p, hp, rfl⟩
      rwa [List.zipIdx_map_fst] at this
    exact ⟨p.1, hm, flT_or c p⟩⟩
def plY (n : Net) (c : Int) : Int × Int := at0 (0, 0) [n.1, (n.1.2, n.1.1)] (c % (2 : Int))
theorem plY_or (n : Net) (c : Int) : plY n c = n.1 ∨ plY n c = (n.1.2, n.1.1) := by
  have h0 := Int.emod_nonneg c (show (2 : Int) ≠ 0 by omega)
  have h1 := Int.emod_lt_of_pos c (show (0 : Int) < 2 by omega)
  have hm := at0_mem (z := ((0, 0) : Int × Int)) (xs := [n.1, (n.1.2, n.1.1)]) h0 h1
  simp only [List.mem_cons, List.not_mem_nil, or_false] at hm
  exact hm
theorem mixed_about {n : Net} (F : NetF n) (c : Int) : Mixed n.2 (abG n.2 c) := (mixed_self F).perm (abG_perm _ c)
theorem mixed_written {n : Net} (F : NetF n) (c : Int) : Mixed n.2 (abG (flL n.2 c) c) := (flL_mixed F c).perm (abG_perm _ c)
theorem rows_mixed (n : Net) (c : Int) : cut (rowsW n) none (some (1 : Int)) ++ abG (cut (rowsW n) (some (1 : Int)) none) c = rowsP n.1 (abG n.2 c) := by
  unfold rowsW rowsP
  rw [cut_head, cut_tail]
  show _ ++ abG (n.2.map tieW) c = _
  rw [abG_map]
  rfl
theorem netF_fig {n : Net} (F : NetF n) : FigN n := (rd05 F (.inl rfl) (mixed_self F)).1
theorem netO_place (s : List Int) (a : Int) {x : Int} (h : x ∈ placesP (netO s a)) : ∃ j : Nat, (j : Int) < wN s ∧ x = numO s (2 : Int) (j : Int) := by
  have hw := wN_bd s
  have mm : ∀ {u v : Int}, (∃ j : Nat, (j : Int) < wN s ∧ u = numO s (2 : Int) (j : Int)) → (∃ j : Nat, (j : Int) < wN s ∧ v = numO s (2 : Int) (j : Int)) → (x = min u v ∨ x = max u v) → ∃ j : Nat, (j : Int) < wN s ∧ x = numO s (2 : Int) (j : Int) := fun {u v} hu hv hx => by
    have : x = u ∨ x = v := by omega
    rcases this with e | e <;> rw [e]
    · exact hu
    · exact hv
  have ix : ∀ c : Int, ∃ j : Nat, (j : Int) < wN s ∧ numO s (2 : Int) (c % wN s) = numO s (2 : Int) (j : Int) := fun c => by
    have h0 := Int.emod_nonneg c (b := wN s) (by omega)
    have h1 := Int.emod_lt_of_pos c (b := wN s) (by omega)
    exact ⟨(c % wN s).toNat, by omega, by rw [Int.toNat_of_nonneg h0]⟩
  have p12 : (∃ j : Nat, (j : Int) < wN s ∧ (polesO s (wN s)).1 = numO s (2 : Int) (j : Int)) ∧ (∃ j : Nat, (j : Int) < wN s ∧ (polesO s (wN s)).2 = numO s (2 : Int) (j : Int)) := by
    unfold polesO
    cases m__law_own s
    · cases e : ((decide (wN s = (1 : Int))) || (decide (mA__law_cell_at s (4 : Int) / (8 : Int) % (5 : Int) = (4 : Int))))
      · have : ¬ wN s = 1 := fun q => by rw [decide_eq_true q] at e; cases e
        exact ⟨⟨0, by omega, rfl⟩, ⟨1, by omega, rfl⟩⟩
      · exact ⟨⟨0, by omega, rfl⟩, ⟨0, by omega, rfl⟩⟩
    · exact ⟨ix _, ix _⟩
  have tO : ∀ p : Int × Nat, (∃ j : Nat, (j : Int) < wN s ∧ (tieO s (wN s) p).2.1 = numO s (2 : Int) (j : Int)) ∧ (∃ j : Nat, (j : Int) < wN s ∧ (tieO s (wN s) p).2.2 = numO s (2 : Int) (j : Int)) := fun p => by
    unfold tieO
    cases m__law_own s
    · exact ⟨ix _, ix _⟩
    · exact ⟨ix _, ix _⟩
  rcases placesP_mem.mp h with e | e | ⟨t, ht, e⟩
  · exact mm p12.1 p12.2 (.inl e)
  · exact mm p12.1 p12.2 (.inr e)
  · have ht : t ∈ srtT _ := ht
    rw [srtT_mem] at ht
    obtain ⟨u, hu, rfl⟩ := List.mem_map.mp ht
    obtain ⟨p, _, rfl⟩ := List.mem_map.mp hu
    exact mm (tO p).1 (tO p).2 e
theorem netO_places (s : List Int) (a : Int) : (placesP (netO s a)).length ≤ 8 := by
  have hw := wN_bd s
  have h := nd_len (placesP_nd (netO s a)) (m := (List.range (wN s).toNat).map fun j : Nat => numO s (2 : Int) (j : Int)) fun x hx => by
    obtain ⟨j, hj, e⟩ := netO_place s a hx
    exact List.mem_map.mpr ⟨j, List.mem_range.mpr (by omega), e.symm⟩
  rw [List.length_map, List.length_range] at h
  omega
theorem netsO_f {s : List Int} {i : Nat} {n : Net} (h : (netsO s)[i]? = some n) : NetF n := by
  have g := netsO_g h
  have hm := List.mem_of_getElem? h
  unfold netsO netsOTo at hm
  obtain ⟨a, ha, rfl⟩ := List.mem_map.mp hm
  have ha := List.mem_of_mem_take (List.mem_filter.mp ha).1
  simp only [List.mem_cons, List.not_mem_nil, or_false] at ha
  have hw := wN_bd s
  have hcl := cutO_len s (show 5 ≤ a by omega)
  refine ⟨g, netO_places s a, fun x hx => ?_, fun t ht => ?_⟩
  · obtain ⟨j, hj, e⟩ := netO_place s a hx
    rw [e]
    exact numO_bd s _ (by omega)
  · have ht : t ∈ srtT _ := ht
    rw [srtT_mem] at ht
    obtain ⟨u, hu, rfl⟩ := List.mem_map.mp ht
    obtain ⟨p, hp, rfl⟩ := List.mem_map.mp hu
    have := (List.mem_zipIdx' hp).1
    exact (numO_bd s _ (by omega)).2
end
end Toy
namespace Toy
open PySem L2 Lk
section
variable {P : Program} {w : World} {K : PySem.W.Frag} {mg : Str → Option Value} {base : Heap} {C : Addr}
def rowsTo (n : Net) (i : Nat) : List Str := lineW ("poles" : Str) [n.1.1, n.1.2] :: (n.2.take i).map fun (t1 : Tie) => lineW ("tie" : Str) [t1.1, t1.2.1, t1.2.2]
theorem rowsTo_take {n : Net} {i : Nat} {t : Tie} (h : n.2[i]? = some t) : rowsTo n (i + 1) = rowsTo n i ++ [lineW ("tie" : Str) [t.1, t.2.1, t.2.2]] := by
  unfold rowsTo
  rw [List.take_succ, h, List.map_append]
  rfl
theorem rowsTo_len (n : Net) (i : Nat) : (rowsTo n i).length ≤ n.2.length + 1 := by
  unfold rowsTo
  rw [List.length_cons, List.length_map, List.length_take]
  omega
theorem line_eq2 {w : Str} {ns : List Int} (h : Fig ns) (ne : 0 < ns.length) : lineS w ns = lineW w ns := by
  cases ns with
  | nil => cases ne
  | cons x xs => exact line_eq h
theorem rowsW_len (n : Net) : (rowsW n).length = n.2.length + 1 := by
  unfold rowsW
  rw [List.length_cons, List.length_map]
theorem two5 (a b : Int) : [a, b].length ≤ 5 := by show 2 ≤ 5; decide
theorem three5 (a b c : Int) : [a, b, c].length ≤ 5 := by show 3 ≤ 5; decide
theorem polesLen : ("poles" : Str).length ≤ 60 := by decide +kernel
theorem tieLen : ("tie" : Str).length ≤ 60 := by decide +kernel
theorem wsp_len {w : Str} (h : w.length ≤ 60) : w.length + SP.length ≤ sizeLine := by rw [SP_len, sizeLine_eq]; omega
theorem wspj_len {w : Str} {ns : List Int} (h : w.length ≤ 60) (f : Fig ns) (hl : ns.length ≤ 5) : (w ++ SP).length + (PySem.Txt.join SP (ns.map strZ)).length ≤ sizeLine := by
  have := strs_join f hl
  have e : (w ++ SP).length = w.length + SP.length := by rw [len_cd, cd_app, List.length_append]; rfl
  rw [e, SP_len, sizeLine_eq]
  omega
def r__law_cell_at : List D → (Sl → Prop) → Prop := fun ds post => ∃ (s : List Int) (k : Int), ds = [D.scr (s), D.int (k)] ∧ (0 ≤ k) ∧ post (Sl.dat (D.int ((mA__law_cell_at s k))))
theorem sc__law_cell_at : FnScope ["_law_script", "_law_k"] ["_law_script", "_law_k"] (defScope (s__law_cell_at)) := ⟨rfl, rfl, rfl, by decide +kernel, rfl, by decide +kernel, by decide +kernel⟩
set_option maxHeartbeats 2000000 in
theorem body__law_cell_at (m_len : mg "len" = none) : Body P w K mg base ["_law_script", "_law_k"] 2 0 (s__law_cell_at) (r__law_cell_at) := by
  intro X A ds post hl hR
  obtain ⟨s, k, rfl, hpre, hp⟩ := hR
  have cx := A.cx
  obtain ⟨rfl, rfl, rfl, rfl, rfl, _, _, _, _⟩ := id A
  have v0 : VarOk X 0 "_law_script" := A.var rfl (by first | exact Or.inl rfl | exact Or.inr (Or.inl rfl) | exact Or.inr (Or.inr rfl))
  have v1 : VarOk X 1 "_law_k" := A.var rfl (by first | exact Or.inl rfl | exact Or.inr (Or.inl rfl) | exact Or.inr (Or.inr rfl))
  have l0 : LocOk X 0 "_law_script" := A.loc rfl (by first | exact Or.inl rfl | exact Or.inr rfl)
  have l1 : LocOk X 1 "_law_k" := A.loc rfl (by first | exact Or.inl rfl | exact Or.inr rfl)
  have b_len : Bi X "len" := A.bi rfl m_len
  show SS X _ [Sl.dat (D.scr (s)), Sl.dat (D.int (k))] _
  refine ss_if (et_c (ec_lt (ee_var v1 rfl) (ee_lenT' (en := D.int) b_len (el_scr (ee_var v0 rfl)))) (by first | exact L2.nomark _ | rfl | with_unfolding_all rfl)) (fun e1 => ?_) (fun e1 => ?_)
  · have f_e1 := e1; try simp only [srt_length, srtT_length, List.length_take, List.length_map, List.length_range, List.length_append, List.length_cons, List.length_nil, Bool.and_eq_true, Bool.or_eq_true, Bool.not_eq_true', Bool.not_eq_false', Bool.and_eq_false_imp, Bool.or_eq_false_iff, decide_eq_true_eq, decide_eq_false_iff_not] at f_e1
    refine ss_ret (r := Sl.dat (D.int ((at0 0 s k)))) (ee_ixLT (en := D.int) (t := (at0 0 s k)) (el_scr (ee_var v0 rfl)) (ee_var v1 rfl) (fun _ _ => rfl) (at0_ok (by first | assumption | omega | (simp only [srt_length, srtT_length, List.length_take, List.length_map, List.length_range, List.length_append, List.length_cons, List.length_nil, Bool.and_eq_true, Bool.or_eq_true, Bool.not_eq_true', Bool.not_eq_false', Bool.and_eq_false_imp, Bool.or_eq_false_iff, decide_eq_true_eq, decide_eq_false_iff_not] at *; omega) | exact Int.emod_nonneg _ (by omega) | (simp only [srt_length, List.length_map, List.length_range, List.length_cons, List.length_nil]; rw [Int.toNat_of_nonneg (by omega)]; exact Int.emod_lt_of_pos _ (by omega)) | ((try simp only [srt_length, List.length_map, List.length_range, List.length_cons, List.length_nil]); generalize zq : b2z _ = zz; have zq2 := b2z_bd zq; omega)) (by first | assumption | omega | (simp only [srt_length, srtT_length, List.length_take, List.length_map, List.length_range, List.length_append, List.length_cons, List.length_nil, Bool.and_eq_true, Bool.or_eq_true, Bool.not_eq_true', Bool.not_eq_false', Bool.and_eq_false_imp, Bool.or_eq_false_iff, decide_eq_true_eq, decide_eq_false_iff_not] at *; omega) | exact Int.emod_nonneg _ (by omega) | (simp only [srt_length, List.length_map, List.length_range, List.length_cons, List.length_nil]; rw [Int.toNat_of_nonneg (by omega)]; exact Int.emod_lt_of_pos _ (by omega)) | ((try simp only [srt_length, List.length_map, List.length_range, List.length_cons, List.length_nil]); generalize zq : b2z _ = zz; have zq2 := b2z_bd zq; omega)))) ?_
    refine Eq.mp (congrArg post ?_) hp
    unfold mA__law_cell_at
    rw [e1]
    rfl
  · have f_e1 := e1; try simp only [srt_length, srtT_length, List.length_take, List.length_map, List.length_range, List.length_append, List.length_cons, List.length_nil, Bool.and_eq_true, Bool.or_eq_true, Bool.not_eq_true', Bool.not_eq_false', Bool.and_eq_false_imp, Bool.or_eq_false_iff, decide_eq_true_eq, decide_eq_false_iff_not] at f_e1
    refine ss_nil ?_
    show SS X _ [Sl.dat (D.scr (s)), Sl.dat (D.int (k))] _
    refine ss_ret (r := Sl.dat (D.int ((0 : Int)))) ee_int ?_
    refine Eq.mp (congrArg post ?_) hp
    unfold mA__law_cell_at
    rw [e1]
    rfl
def r__law_own : List D → (Sl → Prop) → Prop := fun ds post => ∃ (s : List Int), ds = [D.scr (s)] ∧ post (Sl.dat (D.bl ((m__law_own s))))
theorem sc__law_own : FnScope ["_law_script"] ["_law_script"] (defScope (s__law_own)) := ⟨rfl, rfl, rfl, by decide +kernel, rfl, by decide +kernel, by decide +kernel⟩
set_option maxHeartbeats 2000000 in
theorem body__law_own (F__law_cell_at : Fn P w K mg base 1 "_law_cell_at" 2 (r__law_cell_at)) : Body P w K mg base ["_law_script"] 1 1 (s__law_own) (r__law_own) := by
  intro X A ds post hl hR
  obtain ⟨s, rfl, hp⟩ := hR
  have cx := A.cx
  obtain ⟨rfl, rfl, rfl, rfl, rfl, _, _, _, _⟩ := id A
  have v0 : VarOk X 0 "_law_script" := A.var rfl (by first | exact Or.inl rfl | exact Or.inr (Or.inl rfl) | exact Or.inr (Or.inr rfl))
  have l0 : LocOk X 0 "_law_script" := A.loc rfl (by first | exact Or.inl rfl | exact Or.inr rfl)
  show SS X _ [Sl.dat (D.scr (s))] _
  refine ss_ret (r := Sl.dat (D.bl ((decide (((mA__law_cell_at (s) ((3 : Int))) % (2 : Int)) = (1 : Int)))))) (ee_c (ec_eqI (ee_mod (ee_call F__law_cell_at cx (by decide) (A.gl rfl) (ea_cons (ee_var v0 rfl) (ea_cons ee_int ea_nil)) ⟨s, (3 : Int), rfl, (by first | assumption | omega | (refine ⟨?_, ?_⟩ <;> first | assumption | omega) | (refine ⟨?_, ?_, ?_⟩ <;> first | assumption | omega) | (refine ⟨?_, ?_, ?_, ?_⟩ <;> first | assumption | omega)), rfl⟩ rfl) ee_int (by first | assumption | omega | (simp only [srt_length, srtT_length, List.length_take, List.length_map, List.length_range, List.length_append, List.length_cons, List.length_nil, Bool.and_eq_true, Bool.or_eq_true, Bool.not_eq_true', Bool.not_eq_false', Bool.and_eq_false_imp, Bool.or_eq_false_iff, decide_eq_true_eq, decide_eq_false_iff_not] at *; omega) | exact Int.emod_nonneg _ (by omega) | (simp only [srt_length, List.length_map, List.length_range, List.length_cons, List.length_nil]; rw [Int.toNat_of_nonneg (by omega)]; exact Int.emod_lt_of_pos _ (by omega)) | ((try simp only [srt_length, List.length_map, List.length_range, List.length_cons, List.length_nil]); generalize zq : b2z _ = zz; have zq2 := b2z_bd zq; omega))) ee_int) (by first | exact L2.nomark _ | rfl | with_unfolding_all rfl)) ?_
  refine Eq.mp (congrArg post ?_) hp
  unfold m__law_own
  rfl
def r__law_number : List D → (Sl → Prop) → Prop := fun ds post => ∃ (s : List Int) (a : Int) (k : Int), ds = [D.scr (s), D.int (a), D.int (k)] ∧ (0 ≤ a ∧ 0 ≤ k ∧ k ≤ 900) ∧ post (Sl.dat (D.int ((numO s a k))))
theorem sc__law_number : FnScope ["_law_script", "_law_seat", "_law_k", "_law_one", "_law_two", "_law_number_here", "_law_step", "_law_shift"] ["_law_script", "_law_seat", "_law_k"] (defScope (s__law_number)) := ⟨rfl, rfl, rfl, by decide +kernel, rfl, by decide +kernel, by decide +kernel⟩
set_option maxHeartbeats 2000000 in
theorem body__law_number (m_range : mg "range" = none) (F__law_cell_at : Fn P w K mg base 1 "_law_cell_at" 2 (r__law_cell_at)) (F__law_own : Fn P w K mg base 2 "_law_own" 1 (r__law_own)) : Body P w K mg base ["_law_script", "_law_seat", "_law_k", "_law_one", "_law_two", "_law_number_here", "_law_step", "_law_shift"] 3 2 (s__law_number) (r__law_number) := by
  intro X A ds post hl hR
  obtain ⟨s, a, k, rfl, hpre, hp⟩ := hR
  obtain ⟨ha, hk0, hk1⟩ := hpre
  have cx := A.cx
  obtain ⟨rfl, rfl, rfl, rfl, rfl, _, _, _, _⟩ := id A
  have v0 : VarOk X 0 "_law_script" := A.var rfl (by first | exact Or.inl rfl | exact Or.inr (Or.inl rfl) | exact Or.inr (Or.inr rfl))
  have v1 : VarOk X 1 "_law_seat" := A.var rfl (by first | exact Or.inl rfl | exact Or.inr (Or.inl rfl) | exact Or.inr (Or.inr rfl))
  have v2 : VarOk X 2 "_law_k" := A.var rfl (by first | exact Or.inl rfl | exact Or.inr (Or.inl rfl) | exact Or.inr (Or.inr rfl))
  have v3 : VarOk X 3 "_law_one" := A.var rfl (by first | exact Or.inl rfl | exact Or.inr (Or.inl rfl) | exact Or.inr (Or.inr rfl))
  have v4 : VarOk X 4 "_law_two" := A.var rfl (by first | exact Or.inl rfl | exact Or.inr (Or.inl rfl) | exact Or.inr (Or.inr rfl))
  have v5 : VarOk X 5 "_law_number_here" := A.var rfl (by first | exact Or.inl rfl | exact Or.inr (Or.inl rfl) | exact Or.inr (Or.inr rfl))
  have v6 : VarOk X 6 "_law_step" := A.var rfl (by first | exact Or.inl rfl | exact Or.inr (Or.inl rfl) | exact Or.inr (Or.inr rfl))
  have v7 : VarOk X 7 "_law_shift" := A.var rfl (by first | exact Or.inl rfl | exact Or.inr (Or.inl rfl) | exact Or.inr (Or.inr rfl))
  have l0 : LocOk X 0 "_law_script" := A.loc rfl (by first | exact Or.inl rfl | exact Or.inr rfl)
  have l1 : LocOk X 1 "_law_seat" := A.loc rfl (by first | exact Or.inl rfl | exact Or.inr rfl)
  have l2 : LocOk X 2 "_law_k" := A.loc rfl (by first | exact Or.inl rfl | exact Or.inr rfl)
  have l3 : LocOk X 3 "_law_one" := A.loc rfl (by first | exact Or.inl rfl | exact Or.inr rfl)
  have l4 : LocOk X 4 "_law_two" := A.loc rfl (by first | exact Or.inl rfl | exact Or.inr rfl)
  have l5 : LocOk X 5 "_law_number_here" := A.loc rfl (by first | exact Or.inl rfl | exact Or.inr rfl)
  have l6 : LocOk X 6 "_law_step" := A.loc rfl (by first | exact Or.inl rfl | exact Or.inr rfl)
  have l7 : LocOk X 7 "_law_shift" := A.loc rfl (by first | exact Or.inl rfl | exact Or.inr rfl)
  have b_range : Bi X "range" := A.bi rfl m_range
  show SS X _ [Sl.dat (D.scr (s)), Sl.dat (D.int (a)), Sl.dat (D.int (k)), Sl.any, Sl.any, Sl.any, Sl.any, Sl.any] _
  refine ss_asg cx.nd l3 (r := Sl.dat (D.int ((mA__law_cell_at (s) (a))))) (ee_call F__law_cell_at cx (by decide) (A.gl rfl) (ea_cons (ee_var v0 rfl) (ea_cons (ee_var v1 rfl) ea_nil)) ⟨s, a, rfl, (by first | assumption | omega | (refine ⟨?_, ?_⟩ <;> first | assumption | omega) | (refine ⟨?_, ?_, ?_⟩ <;> first | assumption | omega) | (refine ⟨?_, ?_, ?_, ?_⟩ <;> first | assumption | omega)), rfl⟩ rfl) ?_
  show SS X _ [Sl.dat (D.scr (s)), Sl.dat (D.int (a)), Sl.dat (D.int (k)), Sl.dat (D.int ((mA__law_cell_at (s) (a)))), Sl.any, Sl.any, Sl.any, Sl.any] _
  refine ss_asg cx.nd l4 (r := Sl.dat (D.int ((mA__law_cell_at (s) ((a + (1 : Int))))))) (ee_call F__law_cell_at cx (by decide) (A.gl rfl) (ea_cons (ee_var v0 rfl) (ea_cons (ee_add (ee_var v1 rfl) ee_int) ea_nil)) ⟨s, (a + (1 : Int)), rfl, (by first | assumption | omega | (refine ⟨?_, ?_⟩ <;> first | assumption | omega) | (refine ⟨?_, ?_, ?_⟩ <;> first | assumption | omega) | (refine ⟨?_, ?_, ?_, ?_⟩ <;> first | assumption | omega)), rfl⟩ rfl) ?_
  show SS X _ [Sl.dat (D.scr (s)), Sl.dat (D.int (a)), Sl.dat (D.int (k)), Sl.dat (D.int ((mA__law_cell_at (s) (a)))), Sl.dat (D.int ((mA__law_cell_at (s) ((a + (1 : Int)))))), Sl.any, Sl.any, Sl.any] _
  refine ss_if (et_val (ee_call F__law_own cx (by decide) (A.gl rfl) (ea_cons (ee_var v0 rfl) ea_nil) ⟨s, rfl, rfl⟩ rfl)) (fun e1 => ?_) (fun e1 => ?_)
  · have f_e1 := e1; try simp only [srt_length, srtT_length, List.length_take, List.length_map, List.length_range, List.length_append, List.length_cons, List.length_nil, Bool.and_eq_true, Bool.or_eq_true, Bool.not_eq_true', Bool.not_eq_false', Bool.and_eq_false_imp, Bool.or_eq_false_iff, decide_eq_true_eq, decide_eq_false_iff_not] at f_e1
    refine ss_asg cx.nd l5 (r := Sl.dat (D.int (((0 : Int) - (1 : Int))))) (ee_sub ee_int ee_int) ?_
    show SS X _ [Sl.dat (D.scr (s)), Sl.dat (D.int (a)), Sl.dat (D.int (k)), Sl.dat (D.int ((mA__law_cell_at (s) (a)))), Sl.dat (D.int ((mA__law_cell_at (s) ((a + (1 : Int)))))), Sl.dat (D.int (((0 : Int) - (1 : Int)))), Sl.any, Sl.any] _
    refine ss_forR cx (ei_range1 b_range.g b_range.m (ee_add (ee_var v2 rfl) ee_int) ⟨(by first | assumption | omega | (simp only [srt_length, srtT_length, List.length_take, List.length_map, List.length_range, List.length_append, List.length_cons, List.length_nil, Bool.and_eq_true, Bool.or_eq_true, Bool.not_eq_true', Bool.not_eq_false', Bool.and_eq_false_imp, Bool.or_eq_false_iff, decide_eq_true_eq, decide_eq_false_iff_not] at *; omega) | exact Int.emod_nonneg _ (by omega) | (simp only [srt_length, List.length_map, List.length_range, List.length_cons, List.length_nil]; rw [Int.toNat_of_nonneg (by omega)]; exact Int.emod_lt_of_pos _ (by omega)) | ((try simp only [srt_length, List.length_map, List.length_range, List.length_cons, List.length_nil]); generalize zq : b2z _ = zz; have zq2 := b2z_bd zq; omega)), (by first | assumption | omega | (simp only [srt_length, srtT_length, List.length_take, List.length_map, List.length_range, List.length_append, List.length_cons, List.length_nil, Bool.and_eq_true, Bool.or_eq_true, Bool.not_eq_true', Bool.not_eq_false', Bool.and_eq_false_imp, Bool.or_eq_false_iff, decide_eq_true_eq, decide_eq_false_iff_not] at *; omega) | exact Int.emod_nonneg _ (by omega) | (simp only [srt_length, List.length_map, List.length_range, List.length_cons, List.length_nil]; rw [Int.toNat_of_nonneg (by omega)]; exact Int.emod_lt_of_pos _ (by omega)) | ((try simp only [srt_length, List.length_map, List.length_range, List.length_cons, List.length_nil]); generalize zq : b2z _ = zz; have zq2 := b2z_bd zq; omega))⟩) (fun (zi : Nat) zs => zs = [Sl.dat (D.scr (s)), Sl.dat (D.int (a)), Sl.dat (D.int (k)), Sl.dat (D.int ((digS (mA__law_cell_at s a) zi).2)), Sl.dat (D.int ((mA__law_cell_at (s) ((a + (1 : Int)))))), Sl.dat (D.int ((digS (mA__law_cell_at s a) zi).1)), Sl.any, Sl.any]) ?_ (fun zi s1 hx1 hW => ?_) (fun s1 hW => ?_)
    · rfl
    · subst hW
      refine ⟨_, _, (tt_name l6 cx.nd), ?_⟩
      show SS X _ [Sl.dat (D.scr (s)), Sl.dat (D.int (a)), Sl.dat (D.int (k)), Sl.dat (D.int ((digS (mA__law_cell_at s a) zi).2)), Sl.dat (D.int ((mA__law_cell_at (s) ((a + (1 : Int)))))), Sl.dat (D.int ((digS (mA__law_cell_at s a) zi).1)), Sl.dat (D.int (((0 : Int) + (zi : Int)))), Sl.any] _
      refine ss_asg cx.nd l5 (r := Sl.dat (D.int ((((digS (mA__law_cell_at s a) zi).1 + (1 : Int)) + ((digS (mA__law_cell_at s a) zi).2 % (1000000000000000000000000000000000000000000000000000000000 : Int)))))) (ee_add (ee_add (ee_var v5 rfl) ee_int) (ee_mod (ee_var v3 rfl) (ee_powL (v := 1000000000000000000000000000000000000000000000000000000000) ⟨by decide, by decide, by decide⟩ (by decide)) (by first | assumption | omega | (simp only [srt_length, srtT_length, List.length_take, List.length_map, List.length_range, List.length_append, List.length_cons, List.length_nil, Bool.and_eq_true, Bool.or_eq_true, Bool.not_eq_true', Bool.not_eq_false', Bool.and_eq_false_imp, Bool.or_eq_false_iff, decide_eq_true_eq, decide_eq_false_iff_not] at *; omega) | exact Int.emod_nonneg _ (by omega) | (simp only [srt_length, List.length_map, List.length_range, List.length_cons, List.length_nil]; rw [Int.toNat_of_nonneg (by omega)]; exact Int.emod_lt_of_pos _ (by omega)) | ((try simp only [srt_length, List.length_map, List.length_range, List.length_cons, List.length_nil]); generalize zq : b2z _ = zz; have zq2 := b2z_bd zq; omega)))) ?_
      show SS X _ [Sl.dat (D.scr (s)), Sl.dat (D.int (a)), Sl.dat (D.int (k)), Sl.dat (D.int ((digS (mA__law_cell_at s a) zi).2)), Sl.dat (D.int ((mA__law_cell_at (s) ((a + (1 : Int)))))), Sl.dat (D.int ((((digS (mA__law_cell_at s a) zi).1 + (1 : Int)) + ((digS (mA__law_cell_at s a) zi).2 % (1000000000000000000000000000000000000000000000000000000000 : Int))))), Sl.dat (D.int (((0 : Int) + (zi : Int)))), Sl.any] _
      refine ss_asg cx.nd l3 (r := Sl.dat (D.int (((digS (mA__law_cell_at s a) zi).2 / (1000000000000000000000000000000000000000000000000000000000 : Int))))) (ee_divW (ee_var v3 rfl) (ee_powL (v := 1000000000000000000000000000000000000000000000000000000000) ⟨by decide, by decide, by decide⟩ (by decide)) ⟨by decide, by decide +kernel⟩) ?_
      show SS X _ [Sl.dat (D.scr (s)), Sl.dat (D.int (a)), Sl.dat (D.int (k)), Sl.dat (D.int (((digS (mA__law_cell_at s a) zi).2 / (1000000000000000000000000000000000000000000000000000000000 : Int)))), Sl.dat (D.int ((mA__law_cell_at (s) ((a + (1 : Int)))))), Sl.dat (D.int ((((digS (mA__law_cell_at s a) zi).1 + (1 : Int)) + ((digS (mA__law_cell_at s a) zi).2 % (1000000000000000000000000000000000000000000000000000000000 : Int))))), Sl.dat (D.int (((0 : Int) + (zi : Int)))), Sl.any] _
      refine ss_end (ss' := [Sl.dat (D.scr (s)), Sl.dat (D.int (a)), Sl.dat (D.int (k)), Sl.dat (D.int ((digS (mA__law_cell_at s a) (zi + 1)).2)), Sl.dat (D.int ((mA__law_cell_at (s) ((a + (1 : Int)))))), Sl.dat (D.int ((digS (mA__law_cell_at s a) (zi + 1)).1)), Sl.any, Sl.any]) ?_ ?_
      · exact Les.cons (.refl _) <| Les.cons (.refl _) <| Les.cons (.refl _) <| Les.cons (.of (by rfl)) <| Les.cons (.refl _) <| Les.cons (.of (by rfl)) <| Les.cons (.any _) <| Les.cons (.refl _) <| .nil
      · exact rfl
    · subst hW
      show SS X _ [Sl.dat (D.scr (s)), Sl.dat (D.int (a)), Sl.dat (D.int (k)), Sl.dat (D.int ((digS (mA__law_cell_at s a) ((k + (1 : Int))).toNat).2)), Sl.dat (D.int ((mA__law_cell_at (s) ((a + (1 : Int)))))), Sl.dat (D.int ((digS (mA__law_cell_at s a) ((k + (1 : Int))).toNat).1)), Sl.any, Sl.any] _
      refine ss_ret (r := Sl.dat (D.int ((digS (mA__law_cell_at s a) ((k + (1 : Int))).toNat).1))) (ee_var v5 rfl) ?_
      exact Eq.mp (congrArg post (by unfold numO; rw [e1]; rfl)) hp
  · have f_e1 := e1; try simp only [srt_length, srtT_length, List.length_take, List.length_map, List.length_range, List.length_append, List.length_cons, List.length_nil, Bool.and_eq_true, Bool.or_eq_true, Bool.not_eq_true', Bool.not_eq_false', Bool.and_eq_false_imp, Bool.or_eq_false_iff, decide_eq_true_eq, decide_eq_false_iff_not] at f_e1
    refine ss_nil ?_
    show SS X _ [Sl.dat (D.scr (s)), Sl.dat (D.int (a)), Sl.dat (D.int (k)), Sl.dat (D.int ((mA__law_cell_at (s) (a)))), Sl.dat (D.int ((mA__law_cell_at (s) ((a + (1 : Int)))))), Sl.any, Sl.any, Sl.any] _
    refine ss_asg cx.nd l6 (r := Sl.dat (D.int ((1 : Int)))) ee_int ?_
    show SS X _ [Sl.dat (D.scr (s)), Sl.dat (D.int (a)), Sl.dat (D.int (k)), Sl.dat (D.int ((mA__law_cell_at (s) (a)))), Sl.dat (D.int ((mA__law_cell_at (s) ((a + (1 : Int)))))), Sl.any, Sl.dat (D.int ((1 : Int))), Sl.any] _
    refine ss_asg cx.nd l7 (r := Sl.dat (D.int ((0 : Int)))) ee_int ?_
    show SS X _ [Sl.dat (D.scr (s)), Sl.dat (D.int (a)), Sl.dat (D.int (k)), Sl.dat (D.int ((mA__law_cell_at (s) (a)))), Sl.dat (D.int ((mA__law_cell_at (s) ((a + (1 : Int)))))), Sl.any, Sl.dat (D.int ((1 : Int))), Sl.dat (D.int ((0 : Int)))] _
    refine ss_ifm [Sl.dat (D.scr (s)), Sl.dat (D.int (a)), Sl.dat (D.int (k)), Sl.dat (D.int ((mA__law_cell_at (s) (a)))), Sl.dat (D.int ((mA__law_cell_at (s) ((a + (1 : Int)))))), Sl.any, Sl.dat (D.int ((cond (decide ((0 : Int) < ((mA__law_cell_at (s) (a)) % (3 : Int)))) (((mA__law_cell_at (s) (a)) % (1000000000000000000000000000000000000000000000000000000000 : Int)) + (1 : Int)) (1 : Int)))), Sl.dat (D.int ((0 : Int)))] (et_c (ec_gt (ee_mod (ee_var v3 rfl) ee_int (by first | assumption | omega | (simp only [srt_length, srtT_length, List.length_take, List.length_map, List.length_range, List.length_append, List.length_cons, List.length_nil, Bool.and_eq_true, Bool.or_eq_true, Bool.not_eq_true', Bool.not_eq_false', Bool.and_eq_false_imp, Bool.or_eq_false_iff, decide_eq_true_eq, decide_eq_false_iff_not] at *; omega) | exact Int.emod_nonneg _ (by omega) | (simp only [srt_length, List.length_map, List.length_range, List.length_cons, List.length_nil]; rw [Int.toNat_of_nonneg (by omega)]; exact Int.emod_lt_of_pos _ (by omega)) | ((try simp only [srt_length, List.length_map, List.length_range, List.length_cons, List.length_nil]); generalize zq : b2z _ = zz; have zq2 := b2z_bd zq; omega))) ee_int) (by first | exact L2.nomark _ | rfl | with_unfolding_all rfl)) (fun e2 => ?_) (fun e2 => ?_) ?_
    · have f_e2 := e2; try simp only [srt_length, srtT_length, List.length_take, List.length_map, List.length_range, List.length_append, List.length_cons, List.length_nil, Bool.and_eq_true, Bool.or_eq_true, Bool.not_eq_true', Bool.not_eq_false', Bool.and_eq_false_imp, Bool.or_eq_false_iff, decide_eq_true_eq, decide_eq_false_iff_not] at f_e2
      refine ss_asg cx.nd l6 (r := Sl.dat (D.int ((((mA__law_cell_at (s) (a)) % (1000000000000000000000000000000000000000000000000000000000 : Int)) + (1 : Int))))) (ee_add (ee_mod (ee_var v3 rfl) (ee_powL (v := 1000000000000000000000000000000000000000000000000000000000) ⟨by decide, by decide, by decide⟩ (by decide)) (by first | assumption | omega | (simp only [srt_length, srtT_length, List.length_take, List.length_map, List.length_range, List.length_append, List.length_cons, List.length_nil, Bool.and_eq_true, Bool.or_eq_true, Bool.not_eq_true', Bool.not_eq_false', Bool.and_eq_false_imp, Bool.or_eq_false_iff, decide_eq_true_eq, decide_eq_false_iff_not] at *; omega) | exact Int.emod_nonneg _ (by omega) | (simp only [srt_length, List.length_map, List.length_range, List.length_cons, List.length_nil]; rw [Int.toNat_of_nonneg (by omega)]; exact Int.emod_lt_of_pos _ (by omega)) | ((try simp only [srt_length, List.length_map, List.length_range, List.length_cons, List.length_nil]); generalize zq : b2z _ = zz; have zq2 := b2z_bd zq; omega))) ee_int) ?_
      show SS X _ [Sl.dat (D.scr (s)), Sl.dat (D.int (a)), Sl.dat (D.int (k)), Sl.dat (D.int ((mA__law_cell_at (s) (a)))), Sl.dat (D.int ((mA__law_cell_at (s) ((a + (1 : Int)))))), Sl.any, Sl.dat (D.int ((((mA__law_cell_at (s) (a)) % (1000000000000000000000000000000000000000000000000000000000 : Int)) + (1 : Int)))), Sl.dat (D.int ((0 : Int)))] _
      exact ss_nil (Les.cons (.refl _) <| Les.cons (.refl _) <| Les.cons (.refl _) <| Les.cons (.refl _) <| Les.cons (.refl _) <| Les.cons (.refl _) <| Les.cons (le_then e2) <| Les.cons (.refl _) <| .nil)
    · have f_e2 := e2; try simp only [srt_length, srtT_length, List.length_take, List.length_map, List.length_range, List.length_append, List.length_cons, List.length_nil, Bool.and_eq_true, Bool.or_eq_true, Bool.not_eq_true', Bool.not_eq_false', Bool.and_eq_false_imp, Bool.or_eq_false_iff, decide_eq_true_eq, decide_eq_false_iff_not] at f_e2
      exact ss_nil (Les.cons (.refl _) <| Les.cons (.refl _) <| Les.cons (.refl _) <| Les.cons (.refl _) <| Les.cons (.refl _) <| Les.cons (.refl _) <| Les.cons (le_else e2) <| Les.cons (.refl _) <| .nil)
    refine ss_ifm [Sl.dat (D.scr (s)), Sl.dat (D.int (a)), Sl.dat (D.int (k)), Sl.dat (D.int ((mA__law_cell_at (s) (a)))), Sl.dat (D.int ((mA__law_cell_at (s) ((a + (1 : Int)))))), Sl.any, Sl.dat (D.int ((cond (decide ((0 : Int) < ((mA__law_cell_at (s) (a)) % (3 : Int)))) (((mA__law_cell_at (s) (a)) % (1000000000000000000000000000000000000000000000000000000000 : Int)) + (1 : Int)) (1 : Int)))), Sl.dat (D.int ((cond (decide ((0 : Int) < ((mA__law_cell_at (s) ((a + (1 : Int)))) % (3 : Int)))) ((mA__law_cell_at (s) ((a + (1 : Int)))) % (1000000000000000000000000000000000000000000000000000000000 : Int)) (0 : Int))))] (et_c (ec_gt (ee_mod (ee_var v4 rfl) ee_int (by first | assumption | omega | (simp only [srt_length, srtT_length, List.length_take, List.length_map, List.length_range, List.length_append, List.length_cons, List.length_nil, Bool.and_eq_true, Bool.or_eq_true, Bool.not_eq_true', Bool.not_eq_false', Bool.and_eq_false_imp, Bool.or_eq_false_iff, decide_eq_true_eq, decide_eq_false_iff_not] at *; omega) | exact Int.emod_nonneg _ (by omega) | (simp only [srt_length, List.length_map, List.length_range, List.length_cons, List.length_nil]; rw [Int.toNat_of_nonneg (by omega)]; exact Int.emod_lt_of_pos _ (by omega)) | ((try simp only [srt_length, List.length_map, List.length_range, List.length_cons, List.length_nil]); generalize zq : b2z _ = zz; have zq2 := b2z_bd zq; omega))) ee_int) (by first | exact L2.nomark _ | rfl | with_unfolding_all rfl)) (fun e3 => ?_) (fun e3 => ?_) ?_
    · have f_e3 := e3; try simp only [srt_length, srtT_length, List.length_take, List.length_map, List.length_range, List.length_append, List.length_cons, List.length_nil, Bool.and_eq_true, Bool.or_eq_true, Bool.not_eq_true', Bool.not_eq_false', Bool.and_eq_false_imp, Bool.or_eq_false_iff, decide_eq_true_eq, decide_eq_false_iff_not] at f_e3
      refine ss_asg cx.nd l7 (r := Sl.dat (D.int (((mA__law_cell_at (s) ((a + (1 : Int)))) % (1000000000000000000000000000000000000000000000000000000000 : Int))))) (ee_mod (ee_var v4 rfl) (ee_powL (v := 1000000000000000000000000000000000000000000000000000000000) ⟨by decide, by decide, by decide⟩ (by decide)) (by first | assumption | omega | (simp only [srt_length, srtT_length, List.length_take, List.length_map, List.length_range, List.length_append, List.length_cons, List.length_nil, Bool.and_eq_true, Bool.or_eq_true, Bool.not_eq_true', Bool.not_eq_false', Bool.and_eq_false_imp, Bool.or_eq_false_iff, decide_eq_true_eq, decide_eq_false_iff_not] at *; omega) | exact Int.emod_nonneg _ (by omega) | (simp only [srt_length, List.length_map, List.length_range, List.length_cons, List.length_nil]; rw [Int.toNat_of_nonneg (by omega)]; exact Int.emod_lt_of_pos _ (by omega)) | ((try simp only [srt_length, List.length_map, List.length_range, List.length_cons, List.length_nil]); generalize zq : b2z _ = zz; have zq2 := b2z_bd zq; omega))) ?_
      show SS X _ [Sl.dat (D.scr (s)), Sl.dat (D.int (a)), Sl.dat (D.int (k)), Sl.dat (D.int ((mA__law_cell_at (s) (a)))), Sl.dat (D.int ((mA__law_cell_at (s) ((a + (1 : Int)))))), Sl.any, Sl.dat (D.int ((cond (decide ((0 : Int) < ((mA__law_cell_at (s) (a)) % (3 : Int)))) (((mA__law_cell_at (s) (a)) % (1000000000000000000000000000000000000000000000000000000000 : Int)) + (1 : Int)) (1 : Int)))), Sl.dat (D.int (((mA__law_cell_at (s) ((a + (1 : Int)))) % (1000000000000000000000000000000000000000000000000000000000 : Int))))] _
      exact ss_nil (Les.cons (.refl _) <| Les.cons (.refl _) <| Les.cons (.refl _) <| Les.cons (.refl _) <| Les.cons (.refl _) <| Les.cons (.refl _) <| Les.cons (.refl _) <| Les.cons (le_then e3) <| .nil)
    · have f_e3 := e3; try simp only [srt_length, srtT_length, List.length_take, List.length_map, List.length_range, List.length_append, List.length_cons, List.length_nil, Bool.and_eq_true, Bool.or_eq_true, Bool.not_eq_true', Bool.not_eq_false', Bool.and_eq_false_imp, Bool.or_eq_false_iff, decide_eq_true_eq, decide_eq_false_iff_not] at f_e3
      exact ss_nil (Les.cons (.refl _) <| Les.cons (.refl _) <| Les.cons (.refl _) <| Les.cons (.refl _) <| Les.cons (.refl _) <| Les.cons (.refl _) <| Les.cons (.refl _) <| Les.cons (le_else e3) <| .nil)
    refine ss_asg cx.nd l5 (r := Sl.dat (D.int ((((cond (decide ((0 : Int) < ((mA__law_cell_at (s) (a)) % (3 : Int)))) (((mA__law_cell_at (s) (a)) % (1000000000000000000000000000000000000000000000000000000000 : Int)) + (1 : Int)) (1 : Int)) * (((((1 : Int) + (((mA__law_cell_at (s) ((a + (1 : Int)))) / (3 : Int)) % (66 : Int))) * k) + (((mA__law_cell_at (s) (a)) / (3 : Int)) % (67 : Int))) % (67 : Int))) + (cond (decide ((0 : Int) < ((mA__law_cell_at (s) ((a + (1 : Int)))) % (3 : Int)))) ((mA__law_cell_at (s) ((a + (1 : Int)))) % (1000000000000000000000000000000000000000000000000000000000 : Int)) (0 : Int)))))) (ee_add (ee_mul (ee_var v6 rfl) (ee_mod (ee_add (ee_mul (ee_add ee_int (ee_mod (ee_div (ee_var v4 rfl) ee_int ⟨(by first | assumption | omega | (simp only [srt_length, srtT_length, List.length_take, List.length_map, List.length_range, List.length_append, List.length_cons, List.length_nil, Bool.and_eq_true, Bool.or_eq_true, Bool.not_eq_true', Bool.not_eq_false', Bool.and_eq_false_imp, Bool.or_eq_false_iff, decide_eq_true_eq, decide_eq_false_iff_not] at *; omega) | exact Int.emod_nonneg _ (by omega) | (simp only [srt_length, List.length_map, List.length_range, List.length_cons, List.length_nil]; rw [Int.toNat_of_nonneg (by omega)]; exact Int.emod_lt_of_pos _ (by omega)) | ((try simp only [srt_length, List.length_map, List.length_range, List.length_cons, List.length_nil]); generalize zq : b2z _ = zz; have zq2 := b2z_bd zq; omega)), (by first | assumption | omega | (simp only [srt_length, srtT_length, List.length_take, List.length_map, List.length_range, List.length_append, List.length_cons, List.length_nil, Bool.and_eq_true, Bool.or_eq_true, Bool.not_eq_true', Bool.not_eq_false', Bool.and_eq_false_imp, Bool.or_eq_false_iff, decide_eq_true_eq, decide_eq_false_iff_not] at *; omega) | exact Int.emod_nonneg _ (by omega) | (simp only [srt_length, List.length_map, List.length_range, List.length_cons, List.length_nil]; rw [Int.toNat_of_nonneg (by omega)]; exact Int.emod_lt_of_pos _ (by omega)) | ((try simp only [srt_length, List.length_map, List.length_range, List.length_cons, List.length_nil]); generalize zq : b2z _ = zz; have zq2 := b2z_bd zq; omega))⟩) ee_int (by first | assumption | omega | (simp only [srt_length, srtT_length, List.length_take, List.length_map, List.length_range, List.length_append, List.length_cons, List.length_nil, Bool.and_eq_true, Bool.or_eq_true, Bool.not_eq_true', Bool.not_eq_false', Bool.and_eq_false_imp, Bool.or_eq_false_iff, decide_eq_true_eq, decide_eq_false_iff_not] at *; omega) | exact Int.emod_nonneg _ (by omega) | (simp only [srt_length, List.length_map, List.length_range, List.length_cons, List.length_nil]; rw [Int.toNat_of_nonneg (by omega)]; exact Int.emod_lt_of_pos _ (by omega)) | ((try simp only [srt_length, List.length_map, List.length_range, List.length_cons, List.length_nil]); generalize zq : b2z _ = zz; have zq2 := b2z_bd zq; omega)))) (ee_var v2 rfl) (by first | exact Or.inl ⟨by omega, by omega⟩ | exact Or.inr ⟨by omega, by omega⟩)) (ee_mod (ee_div (ee_var v3 rfl) ee_int ⟨(by first | assumption | omega | (simp only [srt_length, srtT_length, List.length_take, List.length_map, List.length_range, List.length_append, List.length_cons, List.length_nil, Bool.and_eq_true, Bool.or_eq_true, Bool.not_eq_true', Bool.not_eq_false', Bool.and_eq_false_imp, Bool.or_eq_false_iff, decide_eq_true_eq, decide_eq_false_iff_not] at *; omega) | exact Int.emod_nonneg _ (by omega) | (simp only [srt_length, List.length_map, List.length_range, List.length_cons, List.length_nil]; rw [Int.toNat_of_nonneg (by omega)]; exact Int.emod_lt_of_pos _ (by omega)) | ((try simp only [srt_length, List.length_map, List.length_range, List.length_cons, List.length_nil]); generalize zq : b2z _ = zz; have zq2 := b2z_bd zq; omega)), (by first | assumption | omega | (simp only [srt_length, srtT_length, List.length_take, List.length_map, List.length_range, List.length_append, List.length_cons, List.length_nil, Bool.and_eq_true, Bool.or_eq_true, Bool.not_eq_true', Bool.not_eq_false', Bool.and_eq_false_imp, Bool.or_eq_false_iff, decide_eq_true_eq, decide_eq_false_iff_not] at *; omega) | exact Int.emod_nonneg _ (by omega) | (simp only [srt_length, List.length_map, List.length_range, List.length_cons, List.length_nil]; rw [Int.toNat_of_nonneg (by omega)]; exact Int.emod_lt_of_pos _ (by omega)) | ((try simp only [srt_length, List.length_map, List.length_range, List.length_cons, List.length_nil]); generalize zq : b2z _ = zz; have zq2 := b2z_bd zq; omega))⟩) ee_int (by first | assumption | omega | (simp only [srt_length, srtT_length, List.length_take, List.length_map, List.length_range, List.length_append, List.length_cons, List.length_nil, Bool.and_eq_true, Bool.or_eq_true, Bool.not_eq_true', Bool.not_eq_false', Bool.and_eq_false_imp, Bool.or_eq_false_iff, decide_eq_true_eq, decide_eq_false_iff_not] at *; omega) | exact Int.emod_nonneg _ (by omega) | (simp only [srt_length, List.length_map, List.length_range, List.length_cons, List.length_nil]; rw [Int.toNat_of_nonneg (by omega)]; exact Int.emod_lt_of_pos _ (by omega)) | ((try simp only [srt_length, List.length_map, List.length_range, List.length_cons, List.length_nil]); generalize zq : b2z _ = zz; have zq2 := b2z_bd zq; omega)))) ee_int (by first | assumption | omega | (simp only [srt_length, srtT_length, List.length_take, List.length_map, List.length_range, List.length_append, List.length_cons, List.length_nil, Bool.and_eq_true, Bool.or_eq_true, Bool.not_eq_true', Bool.not_eq_false', Bool.and_eq_false_imp, Bool.or_eq_false_iff, decide_eq_true_eq, decide_eq_false_iff_not] at *; omega) | exact Int.emod_nonneg _ (by omega) | (simp only [srt_length, List.length_map, List.length_range, List.length_cons, List.length_nil]; rw [Int.toNat_of_nonneg (by omega)]; exact Int.emod_lt_of_pos _ (by omega)) | ((try simp only [srt_length, List.length_map, List.length_range, List.length_cons, List.length_nil]); generalize zq : b2z _ = zz; have zq2 := b2z_bd zq; omega))) (by first | exact Or.inl ⟨by omega, by omega⟩ | exact Or.inr ⟨by omega, by omega⟩)) (ee_var v7 rfl)) ?_
    show SS X _ [Sl.dat (D.scr (s)), Sl.dat (D.int (a)), Sl.dat (D.int (k)), Sl.dat (D.int ((mA__law_cell_at (s) (a)))), Sl.dat (D.int ((mA__law_cell_at (s) ((a + (1 : Int)))))), Sl.dat (D.int ((((cond (decide ((0 : Int) < ((mA__law_cell_at (s) (a)) % (3 : Int)))) (((mA__law_cell_at (s) (a)) % (1000000000000000000000000000000000000000000000000000000000 : Int)) + (1 : Int)) (1 : Int)) * (((((1 : Int) + (((mA__law_cell_at (s) ((a + (1 : Int)))) / (3 : Int)) % (66 : Int))) * k) + (((mA__law_cell_at (s) (a)) / (3 : Int)) % (67 : Int))) % (67 : Int))) + (cond (decide ((0 : Int) < ((mA__law_cell_at (s) ((a + (1 : Int)))) % (3 : Int)))) ((mA__law_cell_at (s) ((a + (1 : Int)))) % (1000000000000000000000000000000000000000000000000000000000 : Int)) (0 : Int))))), Sl.dat (D.int ((cond (decide ((0 : Int) < ((mA__law_cell_at (s) (a)) % (3 : Int)))) (((mA__law_cell_at (s) (a)) % (1000000000000000000000000000000000000000000000000000000000 : Int)) + (1 : Int)) (1 : Int)))), Sl.dat (D.int ((cond (decide ((0 : Int) < ((mA__law_cell_at (s) ((a + (1 : Int)))) % (3 : Int)))) ((mA__law_cell_at (s) ((a + (1 : Int)))) % (1000000000000000000000000000000000000000000000000000000000 : Int)) (0 : Int))))] _
    refine ss_if (et_c (ec_eqI (ee_mod (ee_var v4 rfl) ee_int (by first | assumption | omega | (simp only [srt_length, srtT_length, List.length_take, List.length_map, List.length_range, List.length_append, List.length_cons, List.length_nil, Bool.and_eq_true, Bool.or_eq_true, Bool.not_eq_true', Bool.not_eq_false', Bool.and_eq_false_imp, Bool.or_eq_false_iff, decide_eq_true_eq, decide_eq_false_iff_not] at *; omega) | exact Int.emod_nonneg _ (by omega) | (simp only [srt_length, List.length_map, List.length_range, List.length_cons, List.length_nil]; rw [Int.toNat_of_nonneg (by omega)]; exact Int.emod_lt_of_pos _ (by omega)) | ((try simp only [srt_length, List.length_map, List.length_range, List.length_cons, List.length_nil]); generalize zq : b2z _ = zz; have zq2 := b2z_bd zq; omega))) ee_int) (by first | exact L2.nomark _ | rfl | with_unfolding_all rfl)) (fun e4 => ?_) (fun e4 => ?_)
    · have f_e4 := e4; try simp only [srt_length, srtT_length, List.length_take, List.length_map, List.length_range, List.length_append, List.length_cons, List.length_nil, Bool.and_eq_true, Bool.or_eq_true, Bool.not_eq_true', Bool.not_eq_false', Bool.and_eq_false_imp, Bool.or_eq_false_iff, decide_eq_true_eq, decide_eq_false_iff_not] at f_e4
      refine ss_ret (r := Sl.dat (D.int ((((1000000000000000000000000000000000000000000000000000000000000 : Int) - (1 : Int)) - (((cond (decide ((0 : Int) < ((mA__law_cell_at (s) (a)) % (3 : Int)))) (((mA__law_cell_at (s) (a)) % (1000000000000000000000000000000000000000000000000000000000 : Int)) + (1 : Int)) (1 : Int)) * (((((1 : Int) + (((mA__law_cell_at (s) ((a + (1 : Int)))) / (3 : Int)) % (66 : Int))) * k) + (((mA__law_cell_at (s) (a)) / (3 : Int)) % (67 : Int))) % (67 : Int))) + (cond (decide ((0 : Int) < ((mA__law_cell_at (s) ((a + (1 : Int)))) % (3 : Int)))) ((mA__law_cell_at (s) ((a + (1 : Int)))) % (1000000000000000000000000000000000000000000000000000000000 : Int)) (0 : Int))))))) (ee_sub (ee_sub (ee_powL (v := 1000000000000000000000000000000000000000000000000000000000000) ⟨by decide, by decide, by decide⟩ (by decide)) ee_int) (ee_var v5 rfl)) ?_
      exact Eq.mp (congrArg post (by unfold numO; rw [e1]; show Sl.dat (D.int (mA__law_number s a k)) = _; unfold mA__law_number; rw [e4]; rfl)) hp
    · have f_e4 := e4; try simp only [srt_length, srtT_length, List.length_take, List.length_map, List.length_range, List.length_append, List.length_cons, List.length_nil, Bool.and_eq_true, Bool.or_eq_true, Bool.not_eq_true', Bool.not_eq_false', Bool.and_eq_false_imp, Bool.or_eq_false_iff, decide_eq_true_eq, decide_eq_false_iff_not] at f_e4
      refine ss_nil ?_
      show SS X _ [Sl.dat (D.scr (s)), Sl.dat (D.int (a)), Sl.dat (D.int (k)), Sl.dat (D.int ((mA__law_cell_at (s) (a)))), Sl.dat (D.int ((mA__law_cell_at (s) ((a + (1 : Int)))))), Sl.dat (D.int ((((cond (decide ((0 : Int) < ((mA__law_cell_at (s) (a)) % (3 : Int)))) (((mA__law_cell_at (s) (a)) % (1000000000000000000000000000000000000000000000000000000000 : Int)) + (1 : Int)) (1 : Int)) * (((((1 : Int) + (((mA__law_cell_at (s) ((a + (1 : Int)))) / (3 : Int)) % (66 : Int))) * k) + (((mA__law_cell_at (s) (a)) / (3 : Int)) % (67 : Int))) % (67 : Int))) + (cond (decide ((0 : Int) < ((mA__law_cell_at (s) ((a + (1 : Int)))) % (3 : Int)))) ((mA__law_cell_at (s) ((a + (1 : Int)))) % (1000000000000000000000000000000000000000000000000000000000 : Int)) (0 : Int))))), Sl.dat (D.int ((cond (decide ((0 : Int) < ((mA__law_cell_at (s) (a)) % (3 : Int)))) (((mA__law_cell_at (s) (a)) % (1000000000000000000000000000000000000000000000000000000000 : Int)) + (1 : Int)) (1 : Int)))), Sl.dat (D.int ((cond (decide ((0 : Int) < ((mA__law_cell_at (s) ((a + (1 : Int)))) % (3 : Int)))) ((mA__law_cell_at (s) ((a + (1 : Int)))) % (1000000000000000000000000000000000000000000000000000000000 : Int)) (0 : Int))))] _
      refine ss_ret (r := Sl.dat (D.int ((((cond (decide ((0 : Int) < ((mA__law_cell_at (s) (a)) % (3 : Int)))) (((mA__law_cell_at (s) (a)) % (1000000000000000000000000000000000000000000000000000000000 : Int)) + (1 : Int)) (1 : Int)) * (((((1 : Int) + (((mA__law_cell_at (s) ((a + (1 : Int)))) / (3 : Int)) % (66 : Int))) * k) + (((mA__law_cell_at (s) (a)) / (3 : Int)) % (67 : Int))) % (67 : Int))) + (cond (decide ((0 : Int) < ((mA__law_cell_at (s) ((a + (1 : Int)))) % (3 : Int)))) ((mA__law_cell_at (s) ((a + (1 : Int)))) % (1000000000000000000000000000000000000000000000000000000000 : Int)) (0 : Int)))))) (ee_var v5 rfl) ?_
      exact Eq.mp (congrArg post (by unfold numO; rw [e1]; show Sl.dat (D.int (mA__law_number s a k)) = _; unfold mA__law_number; rw [e4]; rfl)) hp
def r__law_ties : List D → (Sl → Prop) → Prop := fun ds post => ∃ (s : List Int) (a : Int) (m : Int) (w : Int), ds = [D.scr (s), D.int (a), D.int (m), D.int (w)] ∧ (5 ≤ a ∧ 1 ≤ w ∧ w ≤ 8 ∧ m = 14) ∧ post (Sl.own (Own.lst (((tiesO s a m w)).map eTie)))
theorem sc__law_ties : FnScope ["_law_script", "_law_start", "_law_most", "_law_many", "_law_ties_here", "_law_cells", "_law_k", "_law_cell", "_law_one", "_law_other"] ["_law_script", "_law_start", "_law_most", "_law_many"] (defScope (s__law_ties)) := ⟨rfl, rfl, rfl, by decide +kernel, rfl, by decide +kernel, by decide +kernel⟩
set_option maxHeartbeats 2000000 in
theorem body__law_ties (m_enumerate : mg "enumerate" = none) (F__law_own : Fn P w K mg base 2 "_law_own" 1 (r__law_own)) (F__law_cell_at : Fn P w K mg base 1 "_law_cell_at" 2 (r__law_cell_at)) (F__law_number : Fn P w K mg base 3 "_law_number" 3 (r__law_number)) : Body P w K mg base ["_law_script", "_law_start", "_law_most", "_law_many", "_law_ties_here", "_law_cells", "_law_k", "_law_cell", "_law_one", "_law_other"] 4 3 (s__law_ties) (r__law_ties) := by
  intro X A ds post hl hR
  obtain ⟨s, a, m, w, rfl, hpre, hp⟩ := hR
  obtain ⟨ha, hw0, hw1, hm⟩ := hpre
  have hcl : (cutO s a m).length ≤ 14 := by rw [hm]; exact cutO_len s ha
  have md : ∀ z : Int, 0 ≤ z % w ∧ z % w ≤ 900 := fun z => ⟨Int.emod_nonneg _ (by omega), by have := Int.emod_lt_of_pos z (show 0 < w by omega); omega⟩
  have cx := A.cx
  obtain ⟨rfl, rfl, rfl, rfl, rfl, _, _, _, _⟩ := id A
  have v0 : VarOk X 0 "_law_script" := A.var rfl (by first | exact Or.inl rfl | exact Or.inr (Or.inl rfl) | exact Or.inr (Or.inr rfl))
  have v1 : VarOk X 1 "_law_start" := A.var rfl (by first | exact Or.inl rfl | exact Or.inr (Or.inl rfl) | exact Or.inr (Or.inr rfl))
  have v2 : VarOk X 2 "_law_most" := A.var rfl (by first | exact Or.inl rfl | exact Or.inr (Or.inl rfl) | exact Or.inr (Or.inr rfl))
  have v3 : VarOk X 3 "_law_many" := A.var rfl (by first | exact Or.inl rfl | exact Or.inr (Or.inl rfl) | exact Or.inr (Or.inr rfl))
  have v4 : VarOk X 4 "_law_ties_here" := A.var rfl (by first | exact Or.inl rfl | exact Or.inr (Or.inl rfl) | exact Or.inr (Or.inr rfl))
  have v5 : VarOk X 5 "_law_cells" := A.var rfl (by first | exact Or.inl rfl | exact Or.inr (Or.inl rfl) | exact Or.inr (Or.inr rfl))
  have v6 : VarOk X 6 "_law_k" := A.var rfl (by first | exact Or.inl rfl | exact Or.inr (Or.inl rfl) | exact Or.inr (Or.inr rfl))
  have v7 : VarOk X 7 "_law_cell" := A.var rfl (by first | exact Or.inl rfl | exact Or.inr (Or.inl rfl) | exact Or.inr (Or.inr rfl))
  have v8 : VarOk X 8 "_law_one" := A.var rfl (by first | exact Or.inl rfl | exact Or.inr (Or.inl rfl) | exact Or.inr (Or.inr rfl))
  have v9 : VarOk X 9 "_law_other" := A.var rfl (by first | exact Or.inl rfl | exact Or.inr (Or.inl rfl) | exact Or.inr (Or.inr rfl))
  have l0 : LocOk X 0 "_law_script" := A.loc rfl (by first | exact Or.inl rfl | exact Or.inr rfl)
  have l1 : LocOk X 1 "_law_start" := A.loc rfl (by first | exact Or.inl rfl | exact Or.inr rfl)
  have l2 : LocOk X 2 "_law_most" := A.loc rfl (by first | exact Or.inl rfl | exact Or.inr rfl)
  have l3 : LocOk X 3 "_law_many" := A.loc rfl (by first | exact Or.inl rfl | exact Or.inr rfl)
  have l4 : LocOk X 4 "_law_ties_here" := A.loc rfl (by first | exact Or.inl rfl | exact Or.inr rfl)
  have l5 : LocOk X 5 "_law_cells" := A.loc rfl (by first | exact Or.inl rfl | exact Or.inr rfl)
  have l6 : LocOk X 6 "_law_k" := A.loc rfl (by first | exact Or.inl rfl | exact Or.inr rfl)
  have l7 : LocOk X 7 "_law_cell" := A.loc rfl (by first | exact Or.inl rfl | exact Or.inr rfl)
  have l8 : LocOk X 8 "_law_one" := A.loc rfl (by first | exact Or.inl rfl | exact Or.inr rfl)
  have l9 : LocOk X 9 "_law_other" := A.loc rfl (by first | exact Or.inl rfl | exact Or.inr rfl)
  have b_enumerate : Bi X "enumerate" := A.bi rfl m_enumerate
  show SS X _ [Sl.dat (D.scr (s)), Sl.dat (D.int (a)), Sl.dat (D.int (m)), Sl.dat (D.int (w)), Sl.any, Sl.any, Sl.any, Sl.any, Sl.any, Sl.any] _
  refine ss_asg cx.nd l4 (r := Sl.own (Own.lst (([]).map eTie))) (ee_lst ea_nil (by decide)) ?_
  show SS X _ [Sl.dat (D.scr (s)), Sl.dat (D.int (a)), Sl.dat (D.int (m)), Sl.dat (D.int (w)), Sl.own (Own.lst (([]).map eTie)), Sl.any, Sl.any, Sl.any, Sl.any, Sl.any] _
  refine ss_asg cx.nd l5 (r := Sl.own (Own.lst (((cut s (some a) (some (a + m)))).map D.int))) (ee_slLT (en := D.int) (el_scr (ee_var v0 rfl)) (eo_some (ee_var v1 rfl)) (eo_some (ee_add (ee_var v1 rfl) (ee_var v2 rfl)))) ?_
  show SS X _ [Sl.dat (D.scr (s)), Sl.dat (D.int (a)), Sl.dat (D.int (m)), Sl.dat (D.int (w)), Sl.own (Own.lst (([]).map eTie)), Sl.own (Own.lst (((cut s (some a) (some (a + m)))).map D.int)), Sl.any, Sl.any, Sl.any, Sl.any] _
  refine ss_ifm [Sl.dat (D.scr (s)), Sl.dat (D.int (a)), Sl.dat (D.int (m)), Sl.dat (D.int (w)), Sl.own (Own.lst (([]).map eTie)), Sl.own (Own.lst (((cutO s a m)).map D.int)), Sl.any, Sl.any, Sl.any, Sl.any] (et_val (ee_call F__law_own cx (by decide) (A.gl rfl) (ea_cons (ee_var v0 rfl) ea_nil) ⟨s, rfl, rfl⟩ rfl)) (fun e1 => ?_) (fun e1 => ?_) ?_
  · have f_e1 := e1; try simp only [srt_length, srtT_length, List.length_take, List.length_map, List.length_range, List.length_append, List.length_cons, List.length_nil, Bool.and_eq_true, Bool.or_eq_true, Bool.not_eq_true', Bool.not_eq_false', Bool.and_eq_false_imp, Bool.or_eq_false_iff, decide_eq_true_eq, decide_eq_false_iff_not] at f_e1
    refine ss_asg cx.nd l5 (r := Sl.own (Own.lst (((cut (cut s (some a) (some (a + m))) none (some ((((mA__law_cell_at (s) ((4 : Int))) / (512 : Int)) % (16 : Int)) % (m + (1 : Int)))))).map D.int))) (ee_slLT (en := D.int) (el_own v5 rfl) eo_none (eo_some (ee_mod (ee_mod (ee_div (ee_call F__law_cell_at cx (by decide) (A.gl rfl) (ea_cons (ee_var v0 rfl) (ea_cons ee_int ea_nil)) ⟨s, (4 : Int), rfl, (by first | assumption | omega | (refine ⟨?_, ?_⟩ <;> first | assumption | omega) | (refine ⟨?_, ?_, ?_⟩ <;> first | assumption | omega) | (refine ⟨?_, ?_, ?_, ?_⟩ <;> first | assumption | omega)), rfl⟩ rfl) ee_int ⟨(by first | assumption | omega | (first | exact Int.emod_nonneg _ (by omega) | exact Int.emod_lt_of_pos _ (by omega) | (rw [List.length_take]; omega))), (by first | assumption | omega | (first | exact Int.emod_nonneg _ (by omega) | exact Int.emod_lt_of_pos _ (by omega) | (rw [List.length_take]; omega)))⟩) ee_int (by first | assumption | omega | (first | exact Int.emod_nonneg _ (by omega) | exact Int.emod_lt_of_pos _ (by omega) | (rw [List.length_take]; omega)))) (ee_add (ee_var v2 rfl) ee_int) (by first | assumption | omega | (first | exact Int.emod_nonneg _ (by omega) | exact Int.emod_lt_of_pos _ (by omega) | (rw [List.length_take]; omega)))))) ?_
    show SS X _ [Sl.dat (D.scr (s)), Sl.dat (D.int (a)), Sl.dat (D.int (m)), Sl.dat (D.int (w)), Sl.own (Own.lst (([]).map eTie)), Sl.own (Own.lst (((cut (cut s (some a) (some (a + m))) none (some ((((mA__law_cell_at (s) ((4 : Int))) / (512 : Int)) % (16 : Int)) % (m + (1 : Int)))))).map D.int)), Sl.any, Sl.any, Sl.any, Sl.any] _
    exact ss_nil (Les.cons (.refl _) <| Les.cons (.refl _) <| Les.cons (.refl _) <| Les.cons (.refl _) <| Les.cons (.refl _) <| Les.cons (le_thenL e1) <| Les.cons (.refl _) <| Les.cons (.refl _) <| Les.cons (.refl _) <| Les.cons (.refl _) <| .nil)
  · have f_e1 := e1; try simp only [srt_length, srtT_length, List.length_take, List.length_map, List.length_range, List.length_append, List.length_cons, List.length_nil, Bool.and_eq_true, Bool.or_eq_true, Bool.not_eq_true', Bool.not_eq_false', Bool.and_eq_false_imp, Bool.or_eq_false_iff, decide_eq_true_eq, decide_eq_false_iff_not] at f_e1
    exact ss_nil (Les.cons (.refl _) <| Les.cons (.refl _) <| Les.cons (.refl _) <| Les.cons (.refl _) <| Les.cons (.refl _) <| Les.cons (le_elseL e1) <| Les.cons (.refl _) <| Les.cons (.refl _) <| Les.cons (.refl _) <| Les.cons (.refl _) <| .nil)
  refine SS.frz (n := 5) rfl ?_
  show SS X _ [Sl.dat (D.scr (s)), Sl.dat (D.int (a)), Sl.dat (D.int (m)), Sl.dat (D.int (w)), Sl.own (Own.lst (([]).map eTie)), Sl.dat (D.lst (((cutO s a m)).map D.int)), Sl.any, Sl.any, Sl.any, Sl.any] _
  refine ss_forE (en := D.int) (xs := (cutO s a m)) cx (ei_enum b_enumerate.g b_enumerate.m (ee_var v5 rfl)) (fun (zi : Nat) zs => zs = [Sl.dat (D.scr (s)), Sl.dat (D.int (a)), Sl.dat (D.int (m)), Sl.dat (D.int (w)), Sl.own (Own.lst ((((tiesO s a m w).take zi)).map eTie)), Sl.dat (D.lst (((cutO s a m)).map D.int)), Sl.any, Sl.any, Sl.any, Sl.any]) ?_ (fun zi zt s1 hx1 hW => ?_) (fun s1 hW => ?_)
  · rfl
  · subst hW
    refine ⟨_, _, (tt_tup cx.calm (tts_cons (tt_name l6 cx.nd) (tts_cons (tt_name l7 cx.nd) tts_nil))), ?_⟩
    have hi := (List.getElem?_eq_some_iff.mp hx1).1
    show SS X _ [Sl.dat (D.scr (s)), Sl.dat (D.int (a)), Sl.dat (D.int (m)), Sl.dat (D.int (w)), Sl.own (Own.lst ((((tiesO s a m w).take zi)).map eTie)), Sl.dat (D.lst (((cutO s a m)).map D.int)), Sl.dat (D.int ((zi : Int))), Sl.dat (D.int (zt)), Sl.any, Sl.any] _
    refine ss_asg cx.nd l8 (r := Sl.dat (D.int ((numO (s) ((2 : Int)) ((((zt * (48271 : Int)) % (10007 : Int)) % w)))))) (ee_call F__law_number cx (by decide) (A.gl rfl) (ea_cons (ee_var v0 rfl) (ea_cons ee_int (ea_cons (ee_mod (ee_mod (ee_mul (ee_var v7 rfl) ee_int (by first | exact Or.inl ⟨by omega, by omega⟩ | exact Or.inr ⟨by omega, by omega⟩)) ee_int (by first | assumption | omega | (first | exact Int.emod_nonneg _ (by omega) | exact Int.emod_lt_of_pos _ (by omega) | (rw [List.length_take]; omega)))) (ee_var v3 rfl) (by first | assumption | omega | (first | exact Int.emod_nonneg _ (by omega) | exact Int.emod_lt_of_pos _ (by omega) | (rw [List.length_take]; omega)))) ea_nil))) ⟨s, (2 : Int), (((zt * (48271 : Int)) % (10007 : Int)) % w), rfl, (by first | omega | exact ⟨by omega, md _⟩), rfl⟩ rfl) ?_
    show SS X _ [Sl.dat (D.scr (s)), Sl.dat (D.int (a)), Sl.dat (D.int (m)), Sl.dat (D.int (w)), Sl.own (Own.lst ((((tiesO s a m w).take zi)).map eTie)), Sl.dat (D.lst (((cutO s a m)).map D.int)), Sl.dat (D.int ((zi : Int))), Sl.dat (D.int (zt)), Sl.dat (D.int ((numO (s) ((2 : Int)) ((((zt * (48271 : Int)) % (10007 : Int)) % w))))), Sl.any] _
    refine ss_asg cx.nd l9 (r := Sl.dat (D.int ((numO (s) ((2 : Int)) ((((zt * (16807 : Int)) % (10009 : Int)) % w)))))) (ee_call F__law_number cx (by decide) (A.gl rfl) (ea_cons (ee_var v0 rfl) (ea_cons ee_int (ea_cons (ee_mod (ee_mod (ee_mul (ee_var v7 rfl) ee_int (by first | exact Or.inl ⟨by omega, by omega⟩ | exact Or.inr ⟨by omega, by omega⟩)) ee_int (by first | assumption | omega | (first | exact Int.emod_nonneg _ (by omega) | exact Int.emod_lt_of_pos _ (by omega) | (rw [List.length_take]; omega)))) (ee_var v3 rfl) (by first | assumption | omega | (first | exact Int.emod_nonneg _ (by omega) | exact Int.emod_lt_of_pos _ (by omega) | (rw [List.length_take]; omega)))) ea_nil))) ⟨s, (2 : Int), (((zt * (16807 : Int)) % (10009 : Int)) % w), rfl, (by first | omega | exact ⟨by omega, md _⟩), rfl⟩ rfl) ?_
    show SS X _ [Sl.dat (D.scr (s)), Sl.dat (D.int (a)), Sl.dat (D.int (m)), Sl.dat (D.int (w)), Sl.own (Own.lst ((((tiesO s a m w).take zi)).map eTie)), Sl.dat (D.lst (((cutO s a m)).map D.int)), Sl.dat (D.int ((zi : Int))), Sl.dat (D.int (zt)), Sl.dat (D.int ((numO (s) ((2 : Int)) ((((zt * (48271 : Int)) % (10007 : Int)) % w))))), Sl.dat (D.int ((numO (s) ((2 : Int)) ((((zt * (16807 : Int)) % (10009 : Int)) % w)))))] _
    refine ss_ifm [Sl.dat (D.scr (s)), Sl.dat (D.int (a)), Sl.dat (D.int (m)), Sl.dat (D.int (w)), Sl.own (Own.lst ((((tiesO s a m w).take zi)).map eTie)), Sl.dat (D.lst (((cutO s a m)).map D.int)), Sl.dat (D.int ((zi : Int))), Sl.dat (D.int (zt)), Sl.dat (D.int ((cond (m__law_own (s)) (numO (s) ((2 : Int)) ((zt % w))) (numO (s) ((2 : Int)) ((((zt * (48271 : Int)) % (10007 : Int)) % w)))))), Sl.dat (D.int ((cond (m__law_own (s)) (numO (s) ((2 : Int)) (((zt / w) % w))) (numO (s) ((2 : Int)) ((((zt * (16807 : Int)) % (10009 : Int)) % w))))))] (et_val (ee_call F__law_own cx (by decide) (A.gl rfl) (ea_cons (ee_var v0 rfl) ea_nil) ⟨s, rfl, rfl⟩ rfl)) (fun e2 => ?_) (fun e2 => ?_) ?_
    · have f_e2 := e2; try simp only [srt_length, srtT_length, List.length_take, List.length_map, List.length_range, List.length_append, List.length_cons, List.length_nil, Bool.and_eq_true, Bool.or_eq_true, Bool.not_eq_true', Bool.not_eq_false', Bool.and_eq_false_imp, Bool.or_eq_false_iff, decide_eq_true_eq, decide_eq_false_iff_not] at f_e2
      refine ss_asg cx.nd l8 (r := Sl.dat (D.int ((numO (s) ((2 : Int)) ((zt % w)))))) (ee_call F__law_number cx (by decide) (A.gl rfl) (ea_cons (ee_var v0 rfl) (ea_cons ee_int (ea_cons (ee_mod (ee_var v7 rfl) (ee_var v3 rfl) (by first | assumption | omega | (first | exact Int.emod_nonneg _ (by omega) | exact Int.emod_lt_of_pos _ (by omega) | (rw [List.length_take]; omega)))) ea_nil))) ⟨s, (2 : Int), (zt % w), rfl, (by first | omega | exact ⟨by omega, md _⟩), rfl⟩ rfl) ?_
      show SS X _ [Sl.dat (D.scr (s)), Sl.dat (D.int (a)), Sl.dat (D.int (m)), Sl.dat (D.int (w)), Sl.own (Own.lst ((((tiesO s a m w).take zi)).map eTie)), Sl.dat (D.lst (((cutO s a m)).map D.int)), Sl.dat (D.int ((zi : Int))), Sl.dat (D.int (zt)), Sl.dat (D.int ((numO (s) ((2 : Int)) ((zt % w))))), Sl.dat (D.int ((numO (s) ((2 : Int)) ((((zt * (16807 : Int)) % (10009 : Int)) % w)))))] _
      refine ss_asg cx.nd l9 (r := Sl.dat (D.int ((numO (s) ((2 : Int)) (((zt / w) % w)))))) (ee_call F__law_number cx (by decide) (A.gl rfl) (ea_cons (ee_var v0 rfl) (ea_cons ee_int (ea_cons (ee_mod (ee_div (ee_var v7 rfl) (ee_var v3 rfl) ⟨(by first | assumption | omega | (first | exact Int.emod_nonneg _ (by omega) | exact Int.emod_lt_of_pos _ (by omega) | (rw [List.length_take]; omega))), (by first | assumption | omega | (first | exact Int.emod_nonneg _ (by omega) | exact Int.emod_lt_of_pos _ (by omega) | (rw [List.length_take]; omega)))⟩) (ee_var v3 rfl) (by first | assumption | omega | (first | exact Int.emod_nonneg _ (by omega) | exact Int.emod_lt_of_pos _ (by omega) | (rw [List.length_take]; omega)))) ea_nil))) ⟨s, (2 : Int), ((zt / w) % w), rfl, (by first | omega | exact ⟨by omega, md _⟩), rfl⟩ rfl) ?_
      show SS X _ [Sl.dat (D.scr (s)), Sl.dat (D.int (a)), Sl.dat (D.int (m)), Sl.dat (D.int (w)), Sl.own (Own.lst ((((tiesO s a m w).take zi)).map eTie)), Sl.dat (D.lst (((cutO s a m)).map D.int)), Sl.dat (D.int ((zi : Int))), Sl.dat (D.int (zt)), Sl.dat (D.int ((numO (s) ((2 : Int)) ((zt % w))))), Sl.dat (D.int ((numO (s) ((2 : Int)) (((zt / w) % w)))))] _
      exact ss_nil (Les.cons (.refl _) <| Les.cons (.refl _) <| Les.cons (.refl _) <| Les.cons (.refl _) <| Les.cons (.refl _) <| Les.cons (.refl _) <| Les.cons (.refl _) <| Les.cons (.refl _) <| Les.cons (le_then e2) <| Les.cons (le_then e2) <| .nil)
    · have f_e2 := e2; try simp only [srt_length, srtT_length, List.length_take, List.length_map, List.length_range, List.length_append, List.length_cons, List.length_nil, Bool.and_eq_true, Bool.or_eq_true, Bool.not_eq_true', Bool.not_eq_false', Bool.and_eq_false_imp, Bool.or_eq_false_iff, decide_eq_true_eq, decide_eq_false_iff_not] at f_e2
      exact ss_nil (Les.cons (.refl _) <| Les.cons (.refl _) <| Les.cons (.refl _) <| Les.cons (.refl _) <| Les.cons (.refl _) <| Les.cons (.refl _) <| Les.cons (.refl _) <| Les.cons (.refl _) <| Les.cons (le_else e2) <| Les.cons (le_else e2) <| .nil)
    refine ss_appT (en := eTie) (xs := ((tiesO s a m w).take zi)) (t := ((numO (s) ((0 : Int)) ((zi : Int))), (cond (m__law_own (s)) (numO (s) ((2 : Int)) ((zt % w))) (numO (s) ((2 : Int)) ((((zt * (48271 : Int)) % (10007 : Int)) % w)))), (cond (m__law_own (s)) (numO (s) ((2 : Int)) (((zt / w) % w))) (numO (s) ((2 : Int)) ((((zt * (16807 : Int)) % (10009 : Int)) % w)))))) v4 rfl (EE.asTie (ee_tup (ea_cons (ee_call F__law_number cx (by decide) (A.gl rfl) (ea_cons (ee_var v0 rfl) (ea_cons ee_int (ea_cons (ee_var v6 rfl) ea_nil))) ⟨s, (0 : Int), (zi : Int), rfl, (by first | omega | exact ⟨by omega, md _⟩), rfl⟩ rfl) (ea_cons (ee_var v8 rfl) (ea_cons (ee_var v9 rfl) ea_nil))) (by simp))) (by first | assumption | omega | (first | exact Int.emod_nonneg _ (by omega) | exact Int.emod_lt_of_pos _ (by omega) | (rw [List.length_take]; omega))) ?_
    show SS X _ [Sl.dat (D.scr (s)), Sl.dat (D.int (a)), Sl.dat (D.int (m)), Sl.dat (D.int (w)), Sl.own (Own.lst (((((tiesO s a m w).take zi) ++ [((numO (s) ((0 : Int)) ((zi : Int))), (cond (m__law_own (s)) (numO (s) ((2 : Int)) ((zt % w))) (numO (s) ((2 : Int)) ((((zt * (48271 : Int)) % (10007 : Int)) % w)))), (cond (m__law_own (s)) (numO (s) ((2 : Int)) (((zt / w) % w))) (numO (s) ((2 : Int)) ((((zt * (16807 : Int)) % (10009 : Int)) % w)))))])).map eTie)), Sl.dat (D.lst (((cutO s a m)).map D.int)), Sl.dat (D.int ((zi : Int))), Sl.dat (D.int (zt)), Sl.dat (D.int ((cond (m__law_own (s)) (numO (s) ((2 : Int)) ((zt % w))) (numO (s) ((2 : Int)) ((((zt * (48271 : Int)) % (10007 : Int)) % w)))))), Sl.dat (D.int ((cond (m__law_own (s)) (numO (s) ((2 : Int)) (((zt / w) % w))) (numO (s) ((2 : Int)) ((((zt * (16807 : Int)) % (10009 : Int)) % w))))))] _
    refine ss_end (ss' := [Sl.dat (D.scr (s)), Sl.dat (D.int (a)), Sl.dat (D.int (m)), Sl.dat (D.int (w)), Sl.own (Own.lst ((((tiesO s a m w).take (zi + 1))).map eTie)), Sl.dat (D.lst (((cutO s a m)).map D.int)), Sl.any, Sl.any, Sl.any, Sl.any]) ?_ ?_
    · exact Les.cons (.refl _) <| Les.cons (.refl _) <| Les.cons (.refl _) <| Les.cons (.refl _) <| Les.cons (.of (by (rw [tiesO_take hx1]; rfl))) <| Les.cons (.refl _) <| Les.cons (.any _) <| Les.cons (.any _) <| Les.cons (.any _) <| Les.cons (.any _) <| .nil
    · exact rfl
  · subst hW
    rw [show (tiesO s a m w).take (cutO s a m).length = tiesO s a m w from tiesO_all s a m w]
    show SS X _ [Sl.dat (D.scr (s)), Sl.dat (D.int (a)), Sl.dat (D.int (m)), Sl.dat (D.int (w)), Sl.own (Own.lst (((tiesO s a m w)).map eTie)), Sl.dat (D.lst (((cutO s a m)).map D.int)), Sl.any, Sl.any, Sl.any, Sl.any] _
    refine ss_retO (o := Own.lst (((tiesO s a m w)).map eTie)) v4 rfl ?_
    exact hp
def r__law_poles : List D → (Sl → Prop) → Prop := fun ds post => ∃ (s : List Int) (w : Int), ds = [D.scr (s), D.int (w)] ∧ (1 ≤ w ∧ w ≤ 8) ∧ post (Sl.dat (ePair ((polesO s w))))
theorem sc__law_poles : FnScope ["_law_script", "_law_many", "_law_cell", "_law_one"] ["_law_script", "_law_many"] (defScope (s__law_poles)) := ⟨rfl, rfl, rfl, by decide +kernel, rfl, by decide +kernel, by decide +kernel⟩
set_option maxHeartbeats 2000000 in
theorem body__law_poles (F__law_cell_at : Fn P w K mg base 1 "_law_cell_at" 2 (r__law_cell_at)) (F__law_own : Fn P w K mg base 2 "_law_own" 1 (r__law_own)) (F__law_number : Fn P w K mg base 3 "_law_number" 3 (r__law_number)) : Body P w K mg base ["_law_script", "_law_many", "_law_cell", "_law_one"] 2 3 (s__law_poles) (r__law_poles) := by
  intro X A ds post hl hR
  obtain ⟨s, w, rfl, hpre, hp⟩ := hR
  obtain ⟨hw0, hw1⟩ := hpre
  have md : ∀ z : Int, 0 ≤ z % w ∧ z % w ≤ 900 := fun z => ⟨Int.emod_nonneg _ (by omega), by have := Int.emod_lt_of_pos z (show 0 < w by omega); omega⟩
  have cx := A.cx
  obtain ⟨rfl, rfl, rfl, rfl, rfl, _, _, _, _⟩ := id A
  have v0 : VarOk X 0 "_law_script" := A.var rfl (by first | exact Or.inl rfl | exact Or.inr (Or.inl rfl) | exact Or.inr (Or.inr rfl))
  have v1 : VarOk X 1 "_law_many" := A.var rfl (by first | exact Or.inl rfl | exact Or.inr (Or.inl rfl) | exact Or.inr (Or.inr rfl))
  have v2 : VarOk X 2 "_law_cell" := A.var rfl (by first | exact Or.inl rfl | exact Or.inr (Or.inl rfl) | exact Or.inr (Or.inr rfl))
  have v3 : VarOk X 3 "_law_one" := A.var rfl (by first | exact Or.inl rfl | exact Or.inr (Or.inl rfl) | exact Or.inr (Or.inr rfl))
  have l0 : LocOk X 0 "_law_script" := A.loc rfl (by first | exact Or.inl rfl | exact Or.inr rfl)
  have l1 : LocOk X 1 "_law_many" := A.loc rfl (by first | exact Or.inl rfl | exact Or.inr rfl)
  have l2 : LocOk X 2 "_law_cell" := A.loc rfl (by first | exact Or.inl rfl | exact Or.inr rfl)
  have l3 : LocOk X 3 "_law_one" := A.loc rfl (by first | exact Or.inl rfl | exact Or.inr rfl)
  show SS X _ [Sl.dat (D.scr (s)), Sl.dat (D.int (w)), Sl.any, Sl.any] _
  refine ss_asg cx.nd l2 (r := Sl.dat (D.int ((mA__law_cell_at (s) ((4 : Int)))))) (ee_call F__law_cell_at cx (by decide) (A.gl rfl) (ea_cons (ee_var v0 rfl) (ea_cons ee_int ea_nil)) ⟨s, (4 : Int), rfl, (by first | assumption | omega | (refine ⟨?_, ?_⟩ <;> first | assumption | omega) | (refine ⟨?_, ?_, ?_⟩ <;> first | assumption | omega) | (refine ⟨?_, ?_, ?_, ?_⟩ <;> first | assumption | omega)), rfl⟩ rfl) ?_
  show SS X _ [Sl.dat (D.scr (s)), Sl.dat (D.int (w)), Sl.dat (D.int ((mA__law_cell_at (s) ((4 : Int))))), Sl.any] _
  refine ss_if (et_val (ee_call F__law_own cx (by decide) (A.gl rfl) (ea_cons (ee_var v0 rfl) ea_nil) ⟨s, rfl, rfl⟩ rfl)) (fun e1 => ?_) (fun e1 => ?_)
  · have f_e1 := e1; try simp only [srt_length, srtT_length, List.length_take, List.length_map, List.length_range, List.length_append, List.length_cons, List.length_nil, Bool.and_eq_true, Bool.or_eq_true, Bool.not_eq_true', Bool.not_eq_false', Bool.and_eq_false_imp, Bool.or_eq_false_iff, decide_eq_true_eq, decide_eq_false_iff_not] at f_e1
    refine ss_ret (r := Sl.dat (ePair (((numO (s) ((2 : Int)) (((((mA__law_cell_at (s) ((4 : Int))) / (8 : Int)) % (8 : Int)) % w))), (numO (s) ((2 : Int)) (((((mA__law_cell_at (s) ((4 : Int))) / (64 : Int)) % (8 : Int)) % w))))))) (EE.asPair (ee_tup (ea_cons (ee_call F__law_number cx (by decide) (A.gl rfl) (ea_cons (ee_var v0 rfl) (ea_cons ee_int (ea_cons (ee_mod (ee_mod (ee_div (ee_var v2 rfl) ee_int ⟨(by first | assumption | omega | (first | exact Int.emod_nonneg _ (by omega) | exact Int.emod_lt_of_pos _ (by omega))), (by first | assumption | omega | (first | exact Int.emod_nonneg _ (by omega) | exact Int.emod_lt_of_pos _ (by omega)))⟩) ee_int (by first | assumption | omega | (first | exact Int.emod_nonneg _ (by omega) | exact Int.emod_lt_of_pos _ (by omega)))) (ee_var v1 rfl) (by first | assumption | omega | (first | exact Int.emod_nonneg _ (by omega) | exact Int.emod_lt_of_pos _ (by omega)))) ea_nil))) ⟨s, (2 : Int), ((((mA__law_cell_at (s) ((4 : Int))) / (8 : Int)) % (8 : Int)) % w), rfl, (by first | omega | exact ⟨by omega, md _⟩), rfl⟩ rfl) (ea_cons (ee_call F__law_number cx (by decide) (A.gl rfl) (ea_cons (ee_var v0 rfl) (ea_cons ee_int (ea_cons (ee_mod (ee_mod (ee_div (ee_var v2 rfl) ee_int ⟨(by first | assumption | omega | (first | exact Int.emod_nonneg _ (by omega) | exact Int.emod_lt_of_pos _ (by omega))), (by first | assumption | omega | (first | exact Int.emod_nonneg _ (by omega) | exact Int.emod_lt_of_pos _ (by omega)))⟩) ee_int (by first | assumption | omega | (first | exact Int.emod_nonneg _ (by omega) | exact Int.emod_lt_of_pos _ (by omega)))) (ee_var v1 rfl) (by first | assumption | omega | (first | exact Int.emod_nonneg _ (by omega) | exact Int.emod_lt_of_pos _ (by omega)))) ea_nil))) ⟨s, (2 : Int), ((((mA__law_cell_at (s) ((4 : Int))) / (64 : Int)) % (8 : Int)) % w), rfl, (by first | omega | exact ⟨by omega, md _⟩), rfl⟩ rfl) ea_nil)) (by simp))) ?_
    exact Eq.mp (congrArg post (by unfold polesO; rw [e1]; rfl)) hp
  · have f_e1 := e1; try simp only [srt_length, srtT_length, List.length_take, List.length_map, List.length_range, List.length_append, List.length_cons, List.length_nil, Bool.and_eq_true, Bool.or_eq_true, Bool.not_eq_true', Bool.not_eq_false', Bool.and_eq_false_imp, Bool.or_eq_false_iff, decide_eq_true_eq, decide_eq_false_iff_not] at f_e1
    refine ss_nil ?_
    show SS X _ [Sl.dat (D.scr (s)), Sl.dat (D.int (w)), Sl.dat (D.int ((mA__law_cell_at (s) ((4 : Int))))), Sl.any] _
    refine ss_asg cx.nd l3 (r := Sl.dat (D.int ((numO (s) ((2 : Int)) ((0 : Int)))))) (ee_call F__law_number cx (by decide) (A.gl rfl) (ea_cons (ee_var v0 rfl) (ea_cons ee_int (ea_cons ee_int ea_nil))) ⟨s, (2 : Int), (0 : Int), rfl, (by first | omega | exact ⟨by omega, md _⟩), rfl⟩ rfl) ?_
    show SS X _ [Sl.dat (D.scr (s)), Sl.dat (D.int (w)), Sl.dat (D.int ((mA__law_cell_at (s) ((4 : Int))))), Sl.dat (D.int ((numO (s) ((2 : Int)) ((0 : Int)))))] _
    refine ss_if (et_w (etw_or (et_c (ec_eqI (ee_var v1 rfl) ee_int) (by first | exact L2.nomark _ | rfl | with_unfolding_all rfl)) (fun h2 => (etw_or1 (et_c (ec_eqI (ee_mod (ee_div (ee_var v2 rfl) ee_int ⟨(by first | assumption | omega | (first | exact Int.emod_nonneg _ (by omega) | exact Int.emod_lt_of_pos _ (by omega))), (by first | assumption | omega | (first | exact Int.emod_nonneg _ (by omega) | exact Int.emod_lt_of_pos _ (by omega)))⟩) ee_int (by first | assumption | omega | (first | exact Int.emod_nonneg _ (by omega) | exact Int.emod_lt_of_pos _ (by omega)))) ee_int) (by first | exact L2.nomark _ | rfl | with_unfolding_all rfl)))))) (fun e3 => ?_) (fun e3 => ?_)
    · have f_e3 := e3; try simp only [srt_length, srtT_length, List.length_take, List.length_map, List.length_range, List.length_append, List.length_cons, List.length_nil, Bool.and_eq_true, Bool.or_eq_true, Bool.not_eq_true', Bool.not_eq_false', Bool.and_eq_false_imp, Bool.or_eq_false_iff, decide_eq_true_eq, decide_eq_false_iff_not] at f_e3
      refine ss_ret (r := Sl.dat (ePair (((numO (s) ((2 : Int)) ((0 : Int))), (numO (s) ((2 : Int)) ((0 : Int))))))) (EE.asPair (ee_tup (ea_cons (ee_var v3 rfl) (ea_cons (ee_var v3 rfl) ea_nil)) (by simp))) ?_
      exact Eq.mp (congrArg post (by unfold polesO; rw [e1, e3]; rfl)) hp
    · have f_e3 := e3; try simp only [srt_length, srtT_length, List.length_take, List.length_map, List.length_range, List.length_append, List.length_cons, List.length_nil, Bool.and_eq_true, Bool.or_eq_true, Bool.not_eq_true', Bool.not_eq_false', Bool.and_eq_false_imp, Bool.or_eq_false_iff, decide_eq_true_eq, decide_eq_false_iff_not] at f_e3
      refine ss_nil ?_
      show SS X _ [Sl.dat (D.scr (s)), Sl.dat (D.int (w)), Sl.dat (D.int ((mA__law_cell_at (s) ((4 : Int))))), Sl.dat (D.int ((numO (s) ((2 : Int)) ((0 : Int)))))] _
      refine ss_ret (r := Sl.dat (ePair (((numO (s) ((2 : Int)) ((0 : Int))), (numO (s) ((2 : Int)) ((1 : Int))))))) (EE.asPair (ee_tup (ea_cons (ee_var v3 rfl) (ea_cons (ee_call F__law_number cx (by decide) (A.gl rfl) (ea_cons (ee_var v0 rfl) (ea_cons ee_int (ea_cons ee_int ea_nil))) ⟨s, (2 : Int), (1 : Int), rfl, (by first | omega | exact ⟨by omega, md _⟩), rfl⟩ rfl) ea_nil)) (by simp))) ?_
      exact Eq.mp (congrArg post (by unfold polesO; rw [e1, e3]; rfl)) hp
def r__law_net : List D → (Sl → Prop) → Prop := fun ds post => ∃ (p : (Int × Int)) (ts : (List Tie)), ds = [ePair (p), D.lst ((ts).map eTie)] ∧ (ts.length ≤ 60 ∧ Pos3 ts) ∧ post (Sl.own (oNet ((netOf p ts))))
theorem sc__law_net : FnScope ["_law_poles_here", "_law_ties_here", "_law_rows", "_law_name", "_law_one", "_law_other"] ["_law_poles_here", "_law_ties_here"] (defScope (s__law_net)) := ⟨rfl, rfl, rfl, by decide +kernel, rfl, by decide +kernel, by decide +kernel⟩
set_option maxHeartbeats 2000000 in
theorem body__law_net (m_min : mg "min" = none) (m_max : mg "max" = none) (m_sorted : mg "sorted" = none) : Body P w K mg base ["_law_poles_here", "_law_ties_here", "_law_rows", "_law_name", "_law_one", "_law_other"] 2 0 (s__law_net) (r__law_net) := by
  intro X A ds post hl hR
  obtain ⟨p, ts, rfl, hpre, hp⟩ := hR
  obtain ⟨hlen, hpos⟩ := hpre
  have cx := A.cx
  obtain ⟨rfl, rfl, rfl, rfl, rfl, _, _, _, _⟩ := id A
  have v0 : VarOk X 0 "_law_poles_here" := A.var rfl (by first | exact Or.inl rfl | exact Or.inr (Or.inl rfl) | exact Or.inr (Or.inr rfl))
  have v1 : VarOk X 1 "_law_ties_here" := A.var rfl (by first | exact Or.inl rfl | exact Or.inr (Or.inl rfl) | exact Or.inr (Or.inr rfl))
  have v2 : VarOk X 2 "_law_rows" := A.var rfl (by first | exact Or.inl rfl | exact Or.inr (Or.inl rfl) | exact Or.inr (Or.inr rfl))
  have l0 : LocOk X 0 "_law_poles_here" := A.loc rfl (by first | exact Or.inl rfl | exact Or.inr rfl)
  have l1 : LocOk X 1 "_law_ties_here" := A.loc rfl (by first | exact Or.inl rfl | exact Or.inr rfl)
  have l2 : LocOk X 2 "_law_rows" := A.loc rfl (by first | exact Or.inl rfl | exact Or.inr rfl)
  have b_min : Bi X "min" := A.bi rfl m_min
  have b_max : Bi X "max" := A.bi rfl m_max
  have b_sorted : Bi X "sorted" := A.bi rfl m_sorted
  show SS X _ [Sl.dat (ePair (p)), Sl.dat (D.lst ((ts).map eTie)), Sl.any, Sl.any, Sl.any, Sl.any] _
  refine ss_asgLcT (n := 2) (en := eTie) (own := [("_law_name", 3), ("_law_one", 4), ("_law_other", 5)]) (xs := ts) eTie (fun (t1 : Tie) => true) (fun (t1 : Tie) => ((t1).1, (min (t1).2.1 (t1).2.2), (max (t1).2.1 (t1).2.2))) cx (A.nn rfl) (A.sw rfl) (eic_el (el_dat (ee_var v1 rfl))) (A.blk (by decide +kernel)) (by first | assumption | omega | (simp only [srt_length, srtT_length, List.length_take, List.length_map, List.length_range, List.length_append, List.length_cons, List.length_nil, Bool.and_eq_true, Bool.or_eq_true, Bool.not_eq_true', Bool.not_eq_false', Bool.and_eq_false_imp, Bool.or_eq_false_iff, decide_eq_true_eq, decide_eq_false_iff_not] at *; omega) | exact Int.emod_nonneg _ (by omega) | (simp only [srt_length, List.length_map, List.length_range, List.length_cons, List.length_nil]; rw [Int.toNat_of_nonneg (by omega)]; exact Int.emod_lt_of_pos _ (by omega)) | ((try simp only [srt_length, List.length_map, List.length_range, List.length_cons, List.length_nil]); generalize zq : b2z _ = zz; have zq2 := b2z_bd zq; omega)) (fun i1 t1 k2 => (by exact ⟨_, _, fun zs zH zC zcl zfp => (tt_tup cx.blk.calm (tts_cons (tt_name (A.bloc (i := 3) rfl (by first | exact Or.inl rfl | exact Or.inr ⟨rfl, rfl⟩)) cx.blk.nd) (tts_cons (tt_name (A.bloc (i := 4) rfl (by first | exact Or.inl rfl | exact Or.inr ⟨rfl, rfl⟩)) cx.blk.nd) (tts_cons (tt_name (A.bloc (i := 5) rfl (by first | exact Or.inl rfl | exact Or.inr ⟨rfl, rfl⟩)) cx.blk.nd) tts_nil)))), (by decide), fun zs zH zC zcl zfp => ep_nil, fun k3 zs zH zC zcl zfp => (EE.asTie (ee_tup (ea_cons (ee_var (A.bvar (i := 3) rfl (by first | exact Or.inl rfl | exact Or.inr (Or.inl rfl) | exact Or.inr (Or.inr rfl))) rfl) (ea_cons (EE.to (ee_min2 cx.blk (A.bbi rfl m_min) (ee_var (A.bvar (i := 4) rfl (by first | exact Or.inl rfl | exact Or.inr (Or.inl rfl) | exact Or.inr (Or.inr rfl))) rfl) (ee_var (A.bvar (i := 5) rfl (by first | exact Or.inl rfl | exact Or.inr (Or.inl rfl) | exact Or.inr (Or.inr rfl))) rfl)) (by rw [min_ite])) (ea_cons (EE.to (ee_max2 cx.blk (A.bbi rfl m_max) (ee_var (A.bvar (i := 4) rfl (by first | exact Or.inl rfl | exact Or.inr (Or.inl rfl) | exact Or.inr (Or.inr rfl))) rfl) (ee_var (A.bvar (i := 5) rfl (by first | exact Or.inl rfl | exact Or.inr (Or.inl rfl) | exact Or.inr (Or.inr rfl))) rfl)) (by rw [max_ite])) ea_nil))) (by simp)))⟩)) ?_ (sw_true (by rw [A.sc]; rfl) (A.sw rfl) rfl (by decide +kernel))
  rw [filter_tt]
  show SS X _ [Sl.dat (ePair (p)), Sl.dat (D.lst ((ts).map eTie)), Sl.own (Own.lst (((ts.map fun (t1 : Tie) => ((t1).1, (min (t1).2.1 (t1).2.2), (max (t1).2.1 (t1).2.2)))).map eTie)), Sl.any, Sl.any, Sl.any] _
  refine ss_ret (r := Sl.own (oNet ((((min (p).1 (p).2), (max (p).1 (p).2)), (srtT (ts.map fun (t1 : Tie) => ((t1).1, (min (t1).2.1 (t1).2.2), (max (t1).2.1 (t1).2.2))))) : Net))) (ee_tupO (ep_dat (EE.asPair (ee_tup (ea_cons (ee_minP cx b_min (ee_var v0 rfl)) (ea_cons (ee_maxP cx b_max (ee_var v0 rfl)) ea_nil)) (by simp))) (ep_own (ee_sortedT (ts := (ts.map fun (t1 : Tie) => ((t1).1, (min (t1).2.1 (t1).2.2), (max (t1).2.1 (t1).2.2)))) b_sorted (el_own v2 rfl) (by exact ⟨by rw [List.length_map]; omega, rowsN_pos hpos⟩)) ep_nil')) (by simp)) ?_
  exact hp
def r__law_nets : List D → (Sl → Prop) → Prop := fun ds post => ∃ (s : List Int), ds = [D.scr (s)] ∧ post (Sl.own (Own.lst (((netsO s)).map eNet)))
theorem sc__law_nets : FnScope ["_law_script", "_law_many", "_law_nets_here", "_law_start"] ["_law_script"] (defScope (s__law_nets)) := ⟨rfl, rfl, rfl, by decide +kernel, rfl, by decide +kernel, by decide +kernel⟩
set_option maxHeartbeats 2000000 in
theorem body__law_nets (m_len : mg "len" = none) (F__law_cell_at : Fn P w K mg base 1 "_law_cell_at" 2 (r__law_cell_at)) (F__law_net : Fn P w K mg base 1 "_law_net" 2 (r__law_net)) (F__law_poles : Fn P w K mg base 4 "_law_poles" 2 (r__law_poles)) (F__law_ties : Fn P w K mg base 4 "_law_ties" 4 (r__law_ties)) : Body P w K mg base ["_law_script", "_law_many", "_law_nets_here", "_law_start"] 1 4 (s__law_nets) (r__law_nets) := by
  intro X A ds post hl hR
  obtain ⟨s, rfl, hp⟩ := hR
  have hwb := wN_bd s
  have cx := A.cx
  obtain ⟨rfl, rfl, rfl, rfl, rfl, _, _, _, _⟩ := id A
  have v0 : VarOk X 0 "_law_script" := A.var rfl (by first | exact Or.inl rfl | exact Or.inr (Or.inl rfl) | exact Or.inr (Or.inr rfl))
  have v1 : VarOk X 1 "_law_many" := A.var rfl (by first | exact Or.inl rfl | exact Or.inr (Or.inl rfl) | exact Or.inr (Or.inr rfl))
  have v2 : VarOk X 2 "_law_nets_here" := A.var rfl (by first | exact Or.inl rfl | exact Or.inr (Or.inl rfl) | exact Or.inr (Or.inr rfl))
  have v3 : VarOk X 3 "_law_start" := A.var rfl (by first | exact Or.inl rfl | exact Or.inr (Or.inl rfl) | exact Or.inr (Or.inr rfl))
  have l0 : LocOk X 0 "_law_script" := A.loc rfl (by first | exact Or.inl rfl | exact Or.inr rfl)
  have l1 : LocOk X 1 "_law_many" := A.loc rfl (by first | exact Or.inl rfl | exact Or.inr rfl)
  have l2 : LocOk X 2 "_law_nets_here" := A.loc rfl (by first | exact Or.inl rfl | exact Or.inr rfl)
  have l3 : LocOk X 3 "_law_start" := A.loc rfl (by first | exact Or.inl rfl | exact Or.inr rfl)
  have b_len : Bi X "len" := A.bi rfl m_len
  show SS X _ [Sl.dat (D.scr (s)), Sl.any, Sl.any, Sl.any] _
  refine ss_asg cx.nd l1 (r := Sl.dat (D.int ((wN s)))) (ee_add ee_int (ee_mod (ee_call F__law_cell_at cx (by decide) (A.gl rfl) (ea_cons (ee_var v0 rfl) (ea_cons ee_int ea_nil)) ⟨s, (4 : Int), rfl, (by first | assumption | omega | (refine ⟨?_, ?_⟩ <;> first | assumption | omega) | (refine ⟨?_, ?_, ?_⟩ <;> first | assumption | omega) | (refine ⟨?_, ?_, ?_, ?_⟩ <;> first | assumption | omega)), rfl⟩ rfl) ee_int (by first | assumption | omega | (exact Nat.le_trans hnl (by decide))))) ?_
  show SS X _ [Sl.dat (D.scr (s)), Sl.dat (D.int ((wN s))), Sl.any, Sl.any] _
  refine ss_asg cx.nd l2 (r := Sl.own (Own.lst (([]).map eNet))) (ee_lst ea_nil (by decide)) ?_
  show SS X _ [Sl.dat (D.scr (s)), Sl.dat (D.int ((wN s))), Sl.own (Own.lst (([]).map eNet)), Sl.any] _
  refine ss_forT (en := D.int) (xs := [(5 : Int), (19 : Int), (33 : Int), (47 : Int)]) cx (ei_list (EE.frzL (ee_lst (ea_cons ee_int (ea_cons ee_int (ea_cons ee_int (ea_cons ee_int ea_nil)))) (by simp)))) (fun (zi : Nat) zs => zs = [Sl.dat (D.scr (s)), Sl.dat (D.int ((wN s))), Sl.own (Own.lst (((netsOTo s zi)).map eNet)), Sl.any]) ?_ (fun zi zt s1 hx1 hW => ?_) (fun s1 hW => ?_)
  · rfl
  · subst hW
    refine ⟨_, _, (tt_name l3 cx.nd), ?_⟩
    have hst := start5 hx1
    have hi := (List.getElem?_eq_some_iff.mp hx1).1
    have hnl := netsOTo_len s zi
    show SS X _ [Sl.dat (D.scr (s)), Sl.dat (D.int ((wN s))), Sl.own (Own.lst (((netsOTo s zi)).map eNet)), Sl.dat (D.int (zt))] _
    refine ss_if (et_w (etw_or (et_c (ec_eqI (ee_var v3 rfl) ee_int) (by first | exact L2.nomark _ | rfl | with_unfolding_all rfl)) (fun h1 => (etw_or1 (et_c (ec_lt (ee_var v3 rfl) (ee_lenT' (en := D.int) b_len (el_scr (ee_var v0 rfl)))) (by first | exact L2.nomark _ | rfl | with_unfolding_all rfl)))))) (fun e2 => ?_) (fun e2 => ?_)
    · have f_e2 := e2; try simp only [srt_length, srtT_length, List.length_take, List.length_map, List.length_range, List.length_append, List.length_cons, List.length_nil, Bool.and_eq_true, Bool.or_eq_true, Bool.not_eq_true', Bool.not_eq_false', Bool.and_eq_false_imp, Bool.or_eq_false_iff, decide_eq_true_eq, decide_eq_false_iff_not] at f_e2
      refine ss_appT (en := eNet) (xs := (netsOTo s zi)) (t := (netOf ((polesO (s) ((wN s)))) ((tiesO (s) (zt) ((14 : Int)) ((wN s)))))) v2 rfl (EE.frzN (n := (netOf ((polesO (s) ((wN s)))) ((tiesO (s) (zt) ((14 : Int)) ((wN s)))))) (ee_call F__law_net cx (by decide) (A.gl rfl) (ea_cons (ee_call F__law_poles cx (by decide) (A.gl rfl) (ea_cons (ee_var v0 rfl) (ea_cons (ee_var v1 rfl) ea_nil)) ⟨s, (wN s), rfl, (by exact hwb), rfl⟩ rfl) (ea_cons (EE.frzL (ee_call F__law_ties cx (by decide) (A.gl rfl) (ea_cons (ee_var v0 rfl) (ea_cons (ee_var v3 rfl) (ea_cons ee_int (ea_cons (ee_var v1 rfl) ea_nil)))) ⟨s, zt, (14 : Int), (wN s), rfl, (by exact ⟨hst, by omega, by omega, rfl⟩), rfl⟩ rfl)) ea_nil)) ⟨(polesO (s) ((wN s))), (tiesO (s) (zt) ((14 : Int)) ((wN s))), rfl, (by exact netpreO s hst hwb), rfl⟩ rfl)) (by first | assumption | omega | (exact Nat.le_trans hnl (by decide))) ?_
      show SS X _ [Sl.dat (D.scr (s)), Sl.dat (D.int ((wN s))), Sl.own (Own.lst ((((netsOTo s zi) ++ [(netOf ((polesO (s) ((wN s)))) ((tiesO (s) (zt) ((14 : Int)) ((wN s)))))])).map eNet)), Sl.dat (D.int (zt))] _
      refine ss_nil ?_
      show SS X _ [Sl.dat (D.scr (s)), Sl.dat (D.int ((wN s))), Sl.own (Own.lst ((((netsOTo s zi) ++ [(netOf ((polesO (s) ((wN s)))) ((tiesO (s) (zt) ((14 : Int)) ((wN s)))))])).map eNet)), Sl.dat (D.int (zt))] _
      refine ss_end (ss' := [Sl.dat (D.scr (s)), Sl.dat (D.int ((wN s))), Sl.own (Own.lst (((netsOTo s (zi + 1))).map eNet)), Sl.any]) ?_ ?_
      · exact Les.cons (.refl _) <| Les.cons (.refl _) <| Les.cons (.of (by first | (rw [netsO_yes hx1 (by assumption)]; rfl) | (rw [netsO_no hx1 (by assumption)]))) <| Les.cons (.any _) <| .nil
      · exact rfl
    · have f_e2 := e2; try simp only [srt_length, srtT_length, List.length_take, List.length_map, List.length_range, List.length_append, List.length_cons, List.length_nil, Bool.and_eq_true, Bool.or_eq_true, Bool.not_eq_true', Bool.not_eq_false', Bool.and_eq_false_imp, Bool.or_eq_false_iff, decide_eq_true_eq, decide_eq_false_iff_not] at f_e2
      refine ss_nil ?_
      show SS X _ [Sl.dat (D.scr (s)), Sl.dat (D.int ((wN s))), Sl.own (Own.lst (((netsOTo s zi)).map eNet)), Sl.dat (D.int (zt))] _
      refine ss_end (ss' := [Sl.dat (D.scr (s)), Sl.dat (D.int ((wN s))), Sl.own (Own.lst (((netsOTo s (zi + 1))).map eNet)), Sl.any]) ?_ ?_
      · exact Les.cons (.refl _) <| Les.cons (.refl _) <| Les.cons (.of (by first | (rw [netsO_yes hx1 (by assumption)]; rfl) | (rw [netsO_no hx1 (by assumption)]))) <| Les.cons (.any _) <| .nil
      · exact rfl
  · subst hW
    show SS X _ [Sl.dat (D.scr (s)), Sl.dat (D.int ((wN s))), Sl.own (Own.lst (((netsO s)).map eNet)), Sl.any] _
    refine ss_retO (o := Own.lst (((netsO s)).map eNet)) v2 rfl ?_
    exact hp
def r_line_of : List D → (Sl → Prop) → Prop := fun ds post => ∃ (w : Str) (ns : (List Int)), ds = [D.str (w), eTI (ns)] ∧ (w.length ≤ 60 ∧ ns.length ≤ 5 ∧ Fig ns ∧ 0 < ns.length) ∧ post (Sl.dat (D.str ((lineW w ns))))
theorem sc_line_of : FnScope ["word", "numbers", "number"] ["word", "numbers"] (defScope (s_line_of)) := ⟨rfl, rfl, rfl, by decide +kernel, rfl, by decide +kernel, by decide +kernel⟩
set_option maxHeartbeats 2000000 in
theorem body_line_of (m_str : mg "str" = none) : Body P w K mg base ["word", "numbers", "number"] 2 0 (s_line_of) (r_line_of) := by
  intro X A ds post hl hR
  obtain ⟨w, ns, rfl, hpre, hp⟩ := hR
  obtain ⟨hw, hl5, hf, hne⟩ := hpre
  have cx := A.cx
  obtain ⟨rfl, rfl, rfl, rfl, rfl, _, _, _, _⟩ := id A
  have v0 : VarOk X 0 "word" := A.var rfl (by first | exact Or.inl rfl | exact Or.inr (Or.inl rfl) | exact Or.inr (Or.inr rfl))
  have v1 : VarOk X 1 "numbers" := A.var rfl (by first | exact Or.inl rfl | exact Or.inr (Or.inl rfl) | exact Or.inr (Or.inr rfl))
  have l0 : LocOk X 0 "word" := A.loc rfl (by first | exact Or.inl rfl | exact Or.inr rfl)
  have l1 : LocOk X 1 "numbers" := A.loc rfl (by first | exact Or.inl rfl | exact Or.inr rfl)
  show SS X _ [Sl.dat (D.str (w)), Sl.dat (eTI (ns)), Sl.any] _
  refine ss_ret (r := Sl.dat (D.str (((w ++ (" " : Str)) ++ (PySem.Txt.join (" " : Str) (ns.map fun (t1 : Int) => (strZ t1))))))) (ee_adds (ee_adds (ee_var v0 rfl) ee_str (by first | assumption | omega | (first | exact wsp_len hw | exact wspj_len hw hf hl5))) (ee_join (z := (" " : Str)) (ys := (ns.map fun (t1 : Int) => (strZ t1))) ee_str (el_new (EE.to (ee_lcT (en := D.int) (own := [("number", 2)]) (xs := ns) D.str (fun (t1 : Int) => true) (fun (t1 : Int) => (strZ t1)) cx (EI.cc (ei_tup (ee_var v1 rfl))) (A.blk (by decide +kernel)) (by first | assumption | omega | (first | exact wsp_len hw | exact wspj_len hw hf hl5)) (fun i1 t1 k2 => (by have hx := hf _ (List.mem_of_getElem? k2); exact ⟨_, _, fun zs zH zC zcl zfp => (tt_name (A.bloc (i := 2) rfl (by first | exact Or.inl rfl | exact Or.inr ⟨rfl, rfl⟩)) cx.blk.nd), (by decide), fun zs zH zC zcl zfp => ep_nil, fun k3 zs zH zC zcl zfp => (ee_strI (A.bbi rfl m_str) (ee_var (A.bvar (i := 2) rfl (by first | exact Or.inl rfl | exact Or.inr (Or.inl rfl) | exact Or.inr (Or.inr rfl))) rfl) (by exact log_ok hx.1 hx.2))⟩))) (by rw [filter_tt]))) (by exact strs_sum hf hl5)) (by first | assumption | omega | (first | exact wsp_len hw | exact wspj_len hw hf hl5))) ?_
  exact Eq.mp (congrArg (fun z => post (Sl.dat (D.str z))) (line_eq2 hf hne).symm) hp
def r_shown : List D → (Sl → Prop) → Prop := fun ds post => ∃ (n : Net), ds = [eNet (n)] ∧ (n.2.length ≤ 14 ∧ FigN n) ∧ post (Sl.own (Own.lst (((rowsW n)).map D.str)))
theorem sc_shown : FnScope ["net", "rows", "tie"] ["net"] (defScope (s_shown)) := ⟨rfl, rfl, rfl, by decide +kernel, rfl, by decide +kernel, by decide +kernel⟩
set_option maxHeartbeats 2000000 in
theorem body_shown (F_line_of : Fn P w K mg base 1 "line_of" 2 (r_line_of)) : Body P w K mg base ["net", "rows", "tie"] 1 1 (s_shown) (r_shown) := by
  intro X A ds post hl hR
  obtain ⟨n, rfl, hpre, hp⟩ := hR
  obtain ⟨hn14, hf⟩ := hpre
  have cx := A.cx
  obtain ⟨rfl, rfl, rfl, rfl, rfl, _, _, _, _⟩ := id A
  have v0 : VarOk X 0 "net" := A.var rfl (by first | exact Or.inl rfl | exact Or.inr (Or.inl rfl) | exact Or.inr (Or.inr rfl))
  have v1 : VarOk X 1 "rows" := A.var rfl (by first | exact Or.inl rfl | exact Or.inr (Or.inl rfl) | exact Or.inr (Or.inr rfl))
  have v2 : VarOk X 2 "tie" := A.var rfl (by first | exact Or.inl rfl | exact Or.inr (Or.inl rfl) | exact Or.inr (Or.inr rfl))
  have l0 : LocOk X 0 "net" := A.loc rfl (by first | exact Or.inl rfl | exact Or.inr rfl)
  have l1 : LocOk X 1 "rows" := A.loc rfl (by first | exact Or.inl rfl | exact Or.inr rfl)
  have l2 : LocOk X 2 "tie" := A.loc rfl (by first | exact Or.inl rfl | exact Or.inr rfl)
  show SS X _ [Sl.dat (eNet (n)), Sl.any, Sl.any] _
  refine ss_asg cx.nd l1 (r := Sl.own (Own.lst (((rowsTo n 0)).map D.str))) (EE.to (r1 := Sl.own (Own.lst (([(lineW (("poles" : Str)) ([((n).1).1, ((n).1).2]))]).map D.str))) (ee_lst (ea_cons (ee_call F_line_of cx (by decide) (A.gl rfl) (ea_cons ee_str (ea_cons (ee_ixT (d := ePair ((n).1)) (ee_var v0 rfl) ee_int (fun _ _ => rfl) rfl) ea_nil)) ⟨("poles" : Str), [((n).1).1, ((n).1).2], rfl, (by first | exact ⟨polesLen, two5 _ _, hf.1, Nat.succ_pos _⟩ | exact ⟨tieLen, three5 _ _ _, hf.2 _ (List.mem_of_getElem? hx1), Nat.succ_pos _⟩), rfl⟩ rfl) ea_nil) (by simp)) (by rfl)) ?_
  show SS X _ [Sl.dat (eNet (n)), Sl.own (Own.lst (((rowsTo n 0)).map D.str)), Sl.any] _
  refine ss_forT (en := eTie) (xs := (n).2) cx (ei_list (ee_ixT (d := D.lst (((n).2).map eTie)) (ee_var v0 rfl) ee_int (fun _ _ => rfl) rfl)) (fun (zi : Nat) zs => zs = [Sl.dat (eNet (n)), Sl.own (Own.lst (((rowsTo n zi)).map D.str)), Sl.any]) ?_ (fun zi zt s1 hx1 hW => ?_) (fun s1 hW => ?_)
  · rfl
  · subst hW
    refine ⟨_, _, (tt_name l2 cx.nd), ?_⟩
    have hrl := rowsTo_len n zi
    have hi := (List.getElem?_eq_some_iff.mp hx1).1
    show SS X _ [Sl.dat (eNet (n)), Sl.own (Own.lst (((rowsTo n zi)).map D.str)), Sl.dat (eTie (zt))] _
    refine ss_appT (en := D.str) (xs := (rowsTo n zi)) (t := (lineW (("tie" : Str)) ([(zt).1, (zt).2.1, (zt).2.2]))) v1 rfl (ee_call F_line_of cx (by decide) (A.gl rfl) (ea_cons ee_str (ea_cons (ee_var v2 rfl) ea_nil)) ⟨("tie" : Str), [(zt).1, (zt).2.1, (zt).2.2], rfl, (by first | exact ⟨polesLen, two5 _ _, hf.1, Nat.succ_pos _⟩ | exact ⟨tieLen, three5 _ _ _, hf.2 _ (List.mem_of_getElem? hx1), Nat.succ_pos _⟩), rfl⟩ rfl) (by first | assumption | omega | (simp only [srt_length, srtT_length, List.length_take, List.length_map, List.length_range, List.length_append, List.length_cons, List.length_nil, Bool.and_eq_true, Bool.or_eq_true, Bool.not_eq_true', Bool.not_eq_false', Bool.and_eq_false_imp, Bool.or_eq_false_iff, decide_eq_true_eq, decide_eq_false_iff_not] at *; omega) | exact Int.emod_nonneg _ (by omega) | (simp only [srt_length, List.length_map, List.length_range, List.length_cons, List.length_nil]; rw [Int.toNat_of_nonneg (by omega)]; exact Int.emod_lt_of_pos _ (by omega)) | ((try simp only [srt_length, List.length_map, List.length_range, List.length_cons, List.length_nil]); generalize zq : b2z _ = zz; have zq2 := b2z_bd zq; omega)) ?_
    show SS X _ [Sl.dat (eNet (n)), Sl.own (Own.lst ((((rowsTo n zi) ++ [(lineW (("tie" : Str)) ([(zt).1, (zt).2.1, (zt).2.2]))])).map D.str)), Sl.dat (eTie (zt))] _
    refine ss_end (ss' := [Sl.dat (eNet (n)), Sl.own (Own.lst (((rowsTo n (zi + 1))).map D.str)), Sl.any]) ?_ ?_
    · exact Les.cons (.refl _) <| Les.cons (.of (by (rw [rowsTo_take hx1]))) <| Les.cons (.any _) <| .nil
    · exact rfl
  · subst hW
    rw [show rowsTo n n.2.length = rowsW n from by unfold rowsTo rowsW; rw [List.take_length]]
    show SS X _ [Sl.dat (eNet (n)), Sl.own (Own.lst (((rowsW n)).map D.str)), Sl.any] _
    refine ss_retO (o := Own.lst (((rowsW n)).map D.str)) v1 rfl ?_
    exact hp
def m__law_wholes (ns : (List Int)) (k : Int) : Bool :=
  (cond ((!true) || (!decide (((ns).length : Int) = k)))
    false
    (((ns.map fun (t3 : Int) => (true && (!false)))).all id))
def r__law_wholes : List D → (Sl → Prop) → Prop := fun ds post => ∃ (ns : (List Int)) (k : Int), ds = [eTI (ns), D.int (k)] ∧ (ns.length ≤ 100) ∧ post (Sl.dat (D.bl ((m__law_wholes ns k))))
theorem sc__law_wholes : FnScope ["_law_found", "_law_many", "_law_one"] ["_law_found", "_law_many"] (defScope (s__law_wholes)) := ⟨rfl, rfl, rfl, by decide +kernel, rfl, by decide +kernel, by decide +kernel⟩
set_option maxHeartbeats 2000000 in
theorem body__law_wholes (m_isinstance : mg "isinstance" = none) (m_tuple : mg "tuple" = none) (m_len : mg "len" = none) (m_int : mg "int" = none) (m_bool : mg "bool" = none) (m_all : mg "all" = none) : Body P w K mg base ["_law_found", "_law_many", "_law_one"] 2 0 (s__law_wholes) (r__law_wholes) := by
  intro X A ds post hl hR
  obtain ⟨ns, k, rfl, hpre, hp⟩ := hR
  have cx := A.cx
  obtain ⟨rfl, rfl, rfl, rfl, rfl, _, _, _, _⟩ := id A
  have v0 : VarOk X 0 "_law_found" := A.var rfl (by first | exact Or.inl rfl | exact Or.inr (Or.inl rfl) | exact Or.inr (Or.inr rfl))
  have v1 : VarOk X 1 "_law_many" := A.var rfl (by first | exact Or.inl rfl | exact Or.inr (Or.inl rfl) | exact Or.inr (Or.inr rfl))
  have l0 : LocOk X 0 "_law_found" := A.loc rfl (by first | exact Or.inl rfl | exact Or.inr rfl)
  have l1 : LocOk X 1 "_law_many" := A.loc rfl (by first | exact Or.inl rfl | exact Or.inr rfl)
  have b_isinstance : Bi X "isinstance" := A.bi rfl m_isinstance
  have b_tuple : Bi X "tuple" := A.bi rfl m_tuple
  have b_len : Bi X "len" := A.bi rfl m_len
  have b_all : Bi X "all" := A.bi rfl m_all
  show SS X _ [Sl.dat (eTI (ns)), Sl.dat (D.int (k)), Sl.any] _
  refine ss_if (et_w (etw_or (et_not (et_val (ee_isi (T := "tuple") (U := "tuple") (y := true) b_isinstance b_tuple PyProof.Rows.boot_tuple (ee_var v0 rfl) rfl (by decide +kernel)))) (fun h1 => (etw_or1 (et_c (ec_neI (EE.to (ee_lenT b_len (ee_var v0 rfl)) (by rw [List.length_map])) (ee_var v1 rfl)) (by first | exact L2.nomark _ | rfl | with_unfolding_all rfl)))))) (fun e2 => ?_) (fun e2 => ?_)
  · have f_e2 := e2; try simp only [srt_length, srtT_length, List.length_take, List.length_map, List.length_range, List.length_append, List.length_cons, List.length_nil, Bool.and_eq_true, Bool.or_eq_true, Bool.not_eq_true', Bool.not_eq_false', Bool.and_eq_false_imp, Bool.or_eq_false_iff, decide_eq_true_eq, decide_eq_false_iff_not] at f_e2
    refine ss_ret (r := Sl.dat (D.bl (false))) ee_bl ?_
    refine Eq.mp (congrArg post ?_) hp
    unfold m__law_wholes
    rw [e2]
    rfl
  · have f_e2 := e2; try simp only [srt_length, srtT_length, List.length_take, List.length_map, List.length_range, List.length_append, List.length_cons, List.length_nil, Bool.and_eq_true, Bool.or_eq_true, Bool.not_eq_true', Bool.not_eq_false', Bool.and_eq_false_imp, Bool.or_eq_false_iff, decide_eq_true_eq, decide_eq_false_iff_not] at f_e2
    refine ss_nil ?_
    show SS X _ [Sl.dat (eTI (ns)), Sl.dat (D.int (k)), Sl.any] _
    refine ss_ret (r := Sl.dat (D.bl ((((ns.map fun (t3 : Int) => (true && (!false)))).all id)))) (ee_all (bs := (ns.map fun (t3 : Int) => (true && (!false)))) cx b_all (el_new (EE.to (ee_lcT (en := D.int) (own := [("_law_one", 2)]) (xs := ns) D.bl (fun (t3 : Int) => true) (fun (t3 : Int) => (true && (!false))) cx (EI.cc (ei_tup (ee_var v0 rfl))) (A.blk (by decide +kernel)) (by first | assumption | omega | (simp only [srt_length, srtT_length, List.length_take, List.length_map, List.length_range, List.length_append, List.length_cons, List.length_nil, Bool.and_eq_true, Bool.or_eq_true, Bool.not_eq_true', Bool.not_eq_false', Bool.and_eq_false_imp, Bool.or_eq_false_iff, decide_eq_true_eq, decide_eq_false_iff_not] at *; omega) | exact Int.emod_nonneg _ (by omega) | (simp only [srt_length, List.length_map, List.length_range, List.length_cons, List.length_nil]; rw [Int.toNat_of_nonneg (by omega)]; exact Int.emod_lt_of_pos _ (by omega)) | ((try simp only [srt_length, List.length_map, List.length_range, List.length_cons, List.length_nil]); generalize zq : b2z _ = zz; have zq2 := b2z_bd zq; omega)) (fun i3 t3 k5 => (by exact ⟨_, _, fun zs zH zC zcl zfp => (tt_name (A.bloc (i := 2) rfl (by first | exact Or.inl rfl | exact Or.inr ⟨rfl, rfl⟩)) cx.blk.nd), (by decide), fun zs zH zC zcl zfp => ep_nil, fun k6 zs zH zC zcl zfp => (ee_and (ee_isi (T := "int") (U := "int") (y := true) (A.bbi rfl m_isinstance) (A.bbi rfl m_int) PyProof.Rows.boot_int (ee_var (A.bvar (i := 2) rfl (by first | exact Or.inl rfl | exact Or.inr (Or.inl rfl) | exact Or.inr (Or.inr rfl))) rfl) rfl (by decide +kernel)) (fun h4 => (ee_one (ee_not (ee_isi (T := "int") (U := "bool") (y := false) (A.bbi rfl m_isinstance) (A.bbi rfl m_bool) PyProof.Rows.boot_bool (ee_var (A.bvar (i := 2) rfl (by first | exact Or.inl rfl | exact Or.inr (Or.inl rfl) | exact Or.inr (Or.inr rfl))) rfl) rfl (by decide +kernel))))))⟩))) (by rw [filter_tt])))) ?_
    refine Eq.mp (congrArg post ?_) hp
    unfold m__law_wholes
    rw [e2]
    rfl
def m__law_same_net (n : Net) (m : Net) : Bool :=
  (cond ((!true) || ((!decide ((2 : Int) = (2 : Int))) || (!(m__law_wholes ([((n).1).1, ((n).1).2]) ((2 : Int))))))
    false
    (cond ((!true) || (!((((n).2.map fun (t4 : Tie) => (m__law_wholes ([(t4).1, (t4).2.1, (t4).2.2]) ((3 : Int))))).all id)))
    false
    (decide (n = m))))
def r__law_same_net : List D → (Sl → Prop) → Prop := fun ds post => ∃ (n : Net) (m : Net), ds = [eNet (n), eNet (m)] ∧ (n.2.length ≤ 100) ∧ post (Sl.dat (D.bl ((m__law_same_net n m))))
theorem sc__law_same_net : FnScope ["_law_found", "_law_due", "_law_tie"] ["_law_found", "_law_due"] (defScope (s__law_same_net)) := ⟨rfl, rfl, rfl, by decide +kernel, rfl, by decide +kernel, by decide +kernel⟩
set_option maxHeartbeats 2000000 in
theorem body__law_same_net (m_isinstance : mg "isinstance" = none) (m_tuple : mg "tuple" = none) (m_len : mg "len" = none) (m_list : mg "list" = none) (m_all : mg "all" = none) (F__law_wholes : Fn P w K mg base 1 "_law_wholes" 2 (r__law_wholes)) : Body P w K mg base ["_law_found", "_law_due", "_law_tie"] 2 1 (s__law_same_net) (r__law_same_net) := by
  intro X A ds post hl hR
  obtain ⟨n, m, rfl, hpre, hp⟩ := hR
  have cx := A.cx
  obtain ⟨rfl, rfl, rfl, rfl, rfl, _, _, _, _⟩ := id A
  have v0 : VarOk X 0 "_law_found" := A.var rfl (by first | exact Or.inl rfl | exact Or.inr (Or.inl rfl) | exact Or.inr (Or.inr rfl))
  have v1 : VarOk X 1 "_law_due" := A.var rfl (by first | exact Or.inl rfl | exact Or.inr (Or.inl rfl) | exact Or.inr (Or.inr rfl))
  have l0 : LocOk X 0 "_law_found" := A.loc rfl (by first | exact Or.inl rfl | exact Or.inr rfl)
  have l1 : LocOk X 1 "_law_due" := A.loc rfl (by first | exact Or.inl rfl | exact Or.inr rfl)
  have b_isinstance : Bi X "isinstance" := A.bi rfl m_isinstance
  have b_tuple : Bi X "tuple" := A.bi rfl m_tuple
  have b_len : Bi X "len" := A.bi rfl m_len
  have b_list : Bi X "list" := A.bi rfl m_list
  have b_all : Bi X "all" := A.bi rfl m_all
  show SS X _ [Sl.dat (eNet (n)), Sl.dat (eNet (m)), Sl.any] _
  refine ss_if (et_w (etw_or (et_not (et_val (ee_isi (T := "tuple") (U := "tuple") (y := true) b_isinstance b_tuple PyProof.Rows.boot_tuple (ee_var v0 rfl) rfl (by decide +kernel)))) (fun h2 => (etw_or (et_c (ec_neI (EE.to (r2 := Sl.dat (D.int (2 : Int))) (ee_lenT b_len (ee_var v0 rfl)) rfl) ee_int) (by first | exact L2.nomark _ | rfl | with_unfolding_all rfl)) (fun h1 => (etw_or1 (et_not (et_val (ee_call F__law_wholes cx (by decide) (A.gl rfl) (ea_cons (ee_ixT (d := ePair ((n).1)) (ee_var v0 rfl) ee_int (fun _ _ => rfl) rfl) (ea_cons ee_int ea_nil)) ⟨[((n).1).1, ((n).1).2], (2 : Int), rfl, (by (simp only [List.length_cons, List.length_nil]; omega)), rfl⟩ rfl))))))))) (fun e3 => ?_) (fun e3 => ?_)
  · have f_e3 := e3; try simp only [srt_length, srtT_length, List.length_take, List.length_map, List.length_range, List.length_append, List.length_cons, List.length_nil, Bool.and_eq_true, Bool.or_eq_true, Bool.not_eq_true', Bool.not_eq_false', Bool.and_eq_false_imp, Bool.or_eq_false_iff, decide_eq_true_eq, decide_eq_false_iff_not] at f_e3
    refine ss_ret (r := Sl.dat (D.bl (false))) ee_bl ?_
    refine Eq.mp (congrArg post ?_) hp
    unfold m__law_same_net
    rw [e3]
    rfl
  · have f_e3 := e3; try simp only [srt_length, srtT_length, List.length_take, List.length_map, List.length_range, List.length_append, List.length_cons, List.length_nil, Bool.and_eq_true, Bool.or_eq_true, Bool.not_eq_true', Bool.not_eq_false', Bool.and_eq_false_imp, Bool.or_eq_false_iff, decide_eq_true_eq, decide_eq_false_iff_not] at f_e3
    refine ss_nil ?_
    show SS X _ [Sl.dat (eNet (n)), Sl.dat (eNet (m)), Sl.any] _
    refine ss_if (et_w (etw_or (et_not (et_val (ee_isi (T := "list") (U := "list") (y := true) b_isinstance b_list PyProof.Rows.boot_list (ee_ixT (d := D.lst (((n).2).map eTie)) (ee_var v0 rfl) ee_int (fun _ _ => rfl) rfl) rfl (by decide +kernel)))) (fun h7 => (etw_or1 (et_not (et_val (ee_all (bs := ((n).2.map fun (t4 : Tie) => (m__law_wholes ([(t4).1, (t4).2.1, (t4).2.2]) ((3 : Int))))) cx b_all (el_new (EE.to (ee_lcT (en := eTie) (own := [("_law_tie", 2)]) (xs := (n).2) D.bl (fun (t4 : Tie) => true) (fun (t4 : Tie) => (m__law_wholes ([(t4).1, (t4).2.1, (t4).2.2]) ((3 : Int)))) cx (eic_el (el_dat (ee_ixT (d := D.lst (((n).2).map eTie)) (ee_var v0 rfl) ee_int (fun _ _ => rfl) rfl))) (A.blk (by decide +kernel)) (by first | assumption | omega | ((simp only [List.length_cons, List.length_nil]; omega))) (fun i4 t4 k5 => (by exact ⟨_, _, fun zs zH zC zcl zfp => (tt_name (A.bloc (i := 2) rfl (by first | exact Or.inl rfl | exact Or.inr ⟨rfl, rfl⟩)) cx.blk.nd), (by decide), fun zs zH zC zcl zfp => ep_nil, fun k6 zs zH zC zcl zfp => (ee_call F__law_wholes cx.blk (by decide) (A.bgl rfl) (ea_cons (ee_var (A.bvar (i := 2) rfl (by first | exact Or.inl rfl | exact Or.inr (Or.inl rfl) | exact Or.inr (Or.inr rfl))) rfl) (ea_cons ee_int ea_nil)) ⟨[(t4).1, (t4).2.1, (t4).2.2], (3 : Int), rfl, (by (simp only [List.length_cons, List.length_nil]; omega)), rfl⟩ rfl)⟩))) (by rw [filter_tt])))))))))) (fun e8 => ?_) (fun e8 => ?_)
    · have f_e8 := e8; try simp only [srt_length, srtT_length, List.length_take, List.length_map, List.length_range, List.length_append, List.length_cons, List.length_nil, Bool.and_eq_true, Bool.or_eq_true, Bool.not_eq_true', Bool.not_eq_false', Bool.and_eq_false_imp, Bool.or_eq_false_iff, decide_eq_true_eq, decide_eq_false_iff_not] at f_e8
      refine ss_ret (r := Sl.dat (D.bl (false))) ee_bl ?_
      refine Eq.mp (congrArg post ?_) hp
      unfold m__law_same_net
      rw [e3]
      rw [e8]
      rfl
    · have f_e8 := e8; try simp only [srt_length, srtT_length, List.length_take, List.length_map, List.length_range, List.length_append, List.length_cons, List.length_nil, Bool.and_eq_true, Bool.or_eq_true, Bool.not_eq_true', Bool.not_eq_false', Bool.and_eq_false_imp, Bool.or_eq_false_iff, decide_eq_true_eq, decide_eq_false_iff_not] at f_e8
      refine ss_nil ?_
      show SS X _ [Sl.dat (eNet (n)), Sl.dat (eNet (m)), Sl.any] _
      refine ss_ret (r := Sl.dat (D.bl ((decide (n = m))))) (ee_c (ec_eqP (EqP.pr (EqP.pr EqP.int EqP.int) (EqP.lst (EqP.tr EqP.int EqP.int EqP.int))) n m cx (ee_var v0 rfl) (ee_var v1 rfl)) (by first | exact L2.nomark _ | rfl | with_unfolding_all rfl)) ?_
      refine Eq.mp (congrArg post ?_) hp
      unfold m__law_same_net
      rw [e3]
      rw [e8]
      rfl
theorem wholes_ok {ns : List Int} {k : Int} (h : (ns.length : Int) = k) : m__law_wholes ns k = true := by
  unfold m__law_wholes
  simp [h]
theorem same_net (n m : Net) : m__law_same_net n m = decide (n = m) := by
  unfold m__law_same_net
  have h1 : ∀ a b : Int, m__law_wholes [a, b] (2 : Int) = true := fun a b => wholes_ok rfl
  have h2 : ∀ a b c : Int, m__law_wholes [a, b, c] (3 : Int) = true := fun a b c => wholes_ok rfl
  simp [h1, h2]
theorem line5 {u : Str} {ns : List Int} (h : Fig ns) : Txt.join SP ([u] ++ ns.map strZ) = lineW u ns := by
  rw [maps_w h]
  rfl
theorem js5 {u : Str} {ns : List Int} (h : Fig ns) (hw : u.length ≤ 60) (hl : ns.length ≤ 5) : (([u] ++ ns.map strZ).map (·.length)).sum + ([u] ++ ns.map strZ).length * SP.length ≤ 16777216 := by
  rw [maps_w h]
  exact ws_sum hw hl
theorem flL_at {ts : List Tie} {c : Int} {i : Nat} {t : Tie} (h : ts[i]? = some t) : flT c (t, i) ∈ flL ts c := by
  unfold flL
  refine List.mem_map.mpr ⟨(t, i), ?_, rfl⟩
  refine List.mem_of_getElem? (i := i) ?_
  rw [List.getElem?_zipIdx, h]
  simp
theorem rows_written (n : Net) (c : Int) : [lineW ("poles" : Str) [(plY n c).1, (plY n c).2]] ++ abG ((flL n.2 c).map tieW) c = rowsP (plY n c) (abG (flL n.2 c) c) := by
  rw [abG_map]
  rfl
def r__law_line : List D → (Sl → Prop) → Prop := fun ds post => ∃ (w : Str) (ns : (List Int)), ds = [D.str (w), eTI (ns)] ∧ (w.length ≤ 60 ∧ ns.length ≤ 5 ∧ Fig ns) ∧ post (Sl.dat (D.str ((lineW w ns))))
theorem sc__law_line : FnScope ["_law_word", "_law_numbers", "_law_number_here"] ["_law_word", "_law_numbers"] (defScope (s__law_line)) := ⟨rfl, rfl, rfl, by decide +kernel, rfl, by decide +kernel, by decide +kernel⟩
set_option maxHeartbeats 2000000 in
theorem body__law_line (m_str : mg "str" = none) : Body P w K mg base ["_law_word", "_law_numbers", "_law_number_here"] 2 0 (s__law_line) (r__law_line) := by
  intro X A ds post hl hR
  obtain ⟨w, ns, rfl, hpre, hp⟩ := hR
  obtain ⟨hw, hl5, hf⟩ := hpre
  have cx := A.cx
  obtain ⟨rfl, rfl, rfl, rfl, rfl, _, _, _, _⟩ := id A
  have v0 : VarOk X 0 "_law_word" := A.var rfl (by first | exact Or.inl rfl | exact Or.inr (Or.inl rfl) | exact Or.inr (Or.inr rfl))
  have v1 : VarOk X 1 "_law_numbers" := A.var rfl (by first | exact Or.inl rfl | exact Or.inr (Or.inl rfl) | exact Or.inr (Or.inr rfl))
  have l0 : LocOk X 0 "_law_word" := A.loc rfl (by first | exact Or.inl rfl | exact Or.inr rfl)
  have l1 : LocOk X 1 "_law_numbers" := A.loc rfl (by first | exact Or.inl rfl | exact Or.inr rfl)
  show SS X _ [Sl.dat (D.str (w)), Sl.dat (eTI (ns)), Sl.any] _
  refine ss_ret (r := Sl.dat (D.str ((PySem.Txt.join (" " : Str) ([w] ++ (ns.map fun (t4 : Int) => (strZ t4))))))) (ee_join (z := (" " : Str)) (ys := ([w] ++ (ns.map fun (t4 : Int) => (strZ t4)))) ee_str (el_new (ee_catT (en := D.str) (elt_new (ee_lst (ea_cons (ee_var v0 rfl) ea_nil) (by simp))) (elt_new (EE.to (ee_lcT (en := D.int) (own := [("_law_number_here", 2)]) (xs := ns) D.str (fun (t4 : Int) => true) (fun (t4 : Int) => (strZ t4)) cx (EI.cc (ei_tup (ee_var v1 rfl))) (A.blk (by decide +kernel)) (by first | assumption | omega | (simp only [srt_length, srtT_length, List.length_take, List.length_map, List.length_range, List.length_append, List.length_cons, List.length_nil, Bool.and_eq_true, Bool.or_eq_true, Bool.not_eq_true', Bool.not_eq_false', Bool.and_eq_false_imp, Bool.or_eq_false_iff, decide_eq_true_eq, decide_eq_false_iff_not] at *; omega) | exact Int.emod_nonneg _ (by omega) | (simp only [srt_length, List.length_map, List.length_range, List.length_cons, List.length_nil]; rw [Int.toNat_of_nonneg (by omega)]; exact Int.emod_lt_of_pos _ (by omega)) | ((try simp only [srt_length, List.length_map, List.length_range, List.length_cons, List.length_nil]); generalize zq : b2z _ = zz; have zq2 := b2z_bd zq; omega)) (fun i4 t4 k5 => (by have hx := hf _ (List.mem_of_getElem? k5); exact ⟨_, _, fun zs zH zC zcl zfp => (tt_name (A.bloc (i := 2) rfl (by first | exact Or.inl rfl | exact Or.inr ⟨rfl, rfl⟩)) cx.blk.nd), (by decide), fun zs zH zC zcl zfp => ep_nil, fun k6 zs zH zC zcl zfp => (ee_strI (A.bbi rfl m_str) (ee_var (A.bvar (i := 2) rfl (by first | exact Or.inl rfl | exact Or.inr (Or.inl rfl) | exact Or.inr (Or.inr rfl))) rfl) (by exact log_ok hx.1 hx.2))⟩))) (by rw [filter_tt]))) (by first | assumption | omega | (simp only [srt_length, srtT_length, List.length_take, List.length_map, List.length_range, List.length_append, List.length_cons, List.length_nil, Bool.and_eq_true, Bool.or_eq_true, Bool.not_eq_true', Bool.not_eq_false', Bool.and_eq_false_imp, Bool.or_eq_false_iff, decide_eq_true_eq, decide_eq_false_iff_not] at *; omega) | exact Int.emod_nonneg _ (by omega) | (simp only [srt_length, List.length_map, List.length_range, List.length_cons, List.length_nil]; rw [Int.toNat_of_nonneg (by omega)]; exact Int.emod_lt_of_pos _ (by omega)) | ((try simp only [srt_length, List.length_map, List.length_range, List.length_cons, List.length_nil]); generalize zq : b2z _ = zz; have zq2 := b2z_bd zq; omega)))) (by exact js5 hf hw hl5)) ?_
  exact Eq.mp (congrArg (fun z => post (Sl.dat (D.str z))) (line5 hf).symm) hp
def r__law_about : List D → (Sl → Prop) → Prop := fun ds post => ∃ (rs : (List Str)) (c : Int), ds = [D.lst ((rs).map D.str), D.int (c)] ∧ (rs.length ≤ 60) ∧ post (Sl.own (Own.lst (((abG rs c)).map D.str)))
theorem sc__law_about : FnScope ["_law_rows", "_law_cell", "_law_told", "_law_number_here", "_law_row", "_law_at"] ["_law_rows", "_law_cell"] (defScope (s__law_about)) := ⟨rfl, rfl, rfl, by decide +kernel, rfl, by decide +kernel, by decide +kernel⟩
set_option maxHeartbeats 2000000 in
theorem body__law_about (m_len : mg "len" = none) : Body P w K mg base ["_law_rows", "_law_cell", "_law_told", "_law_number_here", "_law_row", "_law_at"] 2 0 (s__law_about) (r__law_about) := by
  intro X A ds post hl hR
  obtain ⟨rs, c, rfl, hpre, hp⟩ := hR
  have cx := A.cx
  obtain ⟨rfl, rfl, rfl, rfl, rfl, _, _, _, _⟩ := id A
  have v0 : VarOk X 0 "_law_rows" := A.var rfl (by first | exact Or.inl rfl | exact Or.inr (Or.inl rfl) | exact Or.inr (Or.inr rfl))
  have v1 : VarOk X 1 "_law_cell" := A.var rfl (by first | exact Or.inl rfl | exact Or.inr (Or.inl rfl) | exact Or.inr (Or.inr rfl))
  have v2 : VarOk X 2 "_law_told" := A.var rfl (by first | exact Or.inl rfl | exact Or.inr (Or.inl rfl) | exact Or.inr (Or.inr rfl))
  have v3 : VarOk X 3 "_law_number_here" := A.var rfl (by first | exact Or.inl rfl | exact Or.inr (Or.inl rfl) | exact Or.inr (Or.inr rfl))
  have v4 : VarOk X 4 "_law_row" := A.var rfl (by first | exact Or.inl rfl | exact Or.inr (Or.inl rfl) | exact Or.inr (Or.inr rfl))
  have v5 : VarOk X 5 "_law_at" := A.var rfl (by first | exact Or.inl rfl | exact Or.inr (Or.inl rfl) | exact Or.inr (Or.inr rfl))
  have l0 : LocOk X 0 "_law_rows" := A.loc rfl (by first | exact Or.inl rfl | exact Or.inr rfl)
  have l1 : LocOk X 1 "_law_cell" := A.loc rfl (by first | exact Or.inl rfl | exact Or.inr rfl)
  have l2 : LocOk X 2 "_law_told" := A.loc rfl (by first | exact Or.inl rfl | exact Or.inr rfl)
  have l3 : LocOk X 3 "_law_number_here" := A.loc rfl (by first | exact Or.inl rfl | exact Or.inr rfl)
  have l4 : LocOk X 4 "_law_row" := A.loc rfl (by first | exact Or.inl rfl | exact Or.inr rfl)
  have l5 : LocOk X 5 "_law_at" := A.loc rfl (by first | exact Or.inl rfl | exact Or.inr rfl)
  have b_len : Bi X "len" := A.bi rfl m_len
  show SS X _ [Sl.dat (D.lst ((rs).map D.str)), Sl.dat (D.int (c)), Sl.any, Sl.any, Sl.any, Sl.any] _
  refine ss_asg cx.nd l2 (r := Sl.own (Own.lst (([]).map D.str))) (ee_lst ea_nil (by decide)) ?_
  show SS X _ [Sl.dat (D.lst ((rs).map D.str)), Sl.dat (D.int (c)), Sl.own (Own.lst (([]).map D.str)), Sl.any, Sl.any, Sl.any] _
  refine ss_asg cx.nd l3 (r := Sl.dat (D.int ((c % (2147483647 : Int))))) (ee_mod (ee_var v1 rfl) ee_int (by first | assumption | omega | (first | exact Int.emod_nonneg _ (by omega) | exact Int.emod_lt_of_pos _ (by omega) | (simp only [List.length_append, List.length_cons, List.length_nil]; have := cut_length (abS (rs.take zi) c).2 none (some (((abS (rs.take zi) c).1 * (48271 : Int) + (7919 : Int)) % (2147483647 : Int) / (64 : Int) % (((abS (rs.take zi) c).2.length : Int) + (1 : Int)))); have := cut_length (abS (rs.take zi) c).2 (some (((abS (rs.take zi) c).1 * (48271 : Int) + (7919 : Int)) % (2147483647 : Int) / (64 : Int) % (((abS (rs.take zi) c).2.length : Int) + (1 : Int)))) none; omega)))) ?_
  show SS X _ [Sl.dat (D.lst ((rs).map D.str)), Sl.dat (D.int (c)), Sl.own (Own.lst (([]).map D.str)), Sl.dat (D.int ((c % (2147483647 : Int)))), Sl.any, Sl.any] _
  refine ss_forT (en := D.str) (xs := rs) cx (ei_list (ee_var v0 rfl)) (fun (zi : Nat) zs => zs = [Sl.dat (D.lst ((rs).map D.str)), Sl.dat (D.int (c)), Sl.own (Own.lst ((((abS (rs.take zi) c).2)).map D.str)), Sl.dat (D.int (((abS (rs.take zi) c).1))), Sl.any, Sl.any]) ?_ (fun zi zt s1 hx1 hW => ?_) (fun s1 hW => ?_)
  · rfl
  · subst hW
    refine ⟨_, _, (tt_name l4 cx.nd), ?_⟩
    have hi := (List.getElem?_eq_some_iff.mp hx1).1
    have hml := abTo_len rs c zi (by omega)
    show SS X _ [Sl.dat (D.lst ((rs).map D.str)), Sl.dat (D.int (c)), Sl.own (Own.lst ((((abS (rs.take zi) c).2)).map D.str)), Sl.dat (D.int (((abS (rs.take zi) c).1))), Sl.dat (D.str (zt)), Sl.any] _
    refine ss_asg cx.nd l3 (r := Sl.dat (D.int ((((((abS (rs.take zi) c).1) * (48271 : Int)) + (7919 : Int)) % (2147483647 : Int))))) (ee_mod (ee_add (ee_mul (ee_var v3 rfl) ee_int (by first | exact Or.inl ⟨by omega, by omega⟩ | exact Or.inr ⟨by omega, by omega⟩)) ee_int) ee_int (by first | assumption | omega | (first | exact Int.emod_nonneg _ (by omega) | exact Int.emod_lt_of_pos _ (by omega) | (simp only [List.length_append, List.length_cons, List.length_nil]; have := cut_length (abS (rs.take zi) c).2 none (some (((abS (rs.take zi) c).1 * (48271 : Int) + (7919 : Int)) % (2147483647 : Int) / (64 : Int) % (((abS (rs.take zi) c).2.length : Int) + (1 : Int)))); have := cut_length (abS (rs.take zi) c).2 (some (((abS (rs.take zi) c).1 * (48271 : Int) + (7919 : Int)) % (2147483647 : Int) / (64 : Int) % (((abS (rs.take zi) c).2.length : Int) + (1 : Int)))) none; omega)))) ?_
    show SS X _ [Sl.dat (D.lst ((rs).map D.str)), Sl.dat (D.int (c)), Sl.own (Own.lst ((((abS (rs.take zi) c).2)).map D.str)), Sl.dat (D.int ((((((abS (rs.take zi) c).1) * (48271 : Int)) + (7919 : Int)) % (2147483647 : Int)))), Sl.dat (D.str (zt)), Sl.any] _
    refine ss_asg cx.nd l5 (r := Sl.dat (D.int ((((((((abS (rs.take zi) c).1) * (48271 : Int)) + (7919 : Int)) % (2147483647 : Int)) / (64 : Int)) % (((((abS (rs.take zi) c).2)).length : Int) + (1 : Int)))))) (ee_mod (ee_div (ee_var v3 rfl) ee_int ⟨(by first | assumption | omega | (first | exact Int.emod_nonneg _ (by omega) | exact Int.emod_lt_of_pos _ (by omega) | (simp only [List.length_append, List.length_cons, List.length_nil]; have := cut_length (abS (rs.take zi) c).2 none (some (((abS (rs.take zi) c).1 * (48271 : Int) + (7919 : Int)) % (2147483647 : Int) / (64 : Int) % (((abS (rs.take zi) c).2.length : Int) + (1 : Int)))); have := cut_length (abS (rs.take zi) c).2 (some (((abS (rs.take zi) c).1 * (48271 : Int) + (7919 : Int)) % (2147483647 : Int) / (64 : Int) % (((abS (rs.take zi) c).2.length : Int) + (1 : Int)))) none; omega))), (by first | assumption | omega | (first | exact Int.emod_nonneg _ (by omega) | exact Int.emod_lt_of_pos _ (by omega) | (simp only [List.length_append, List.length_cons, List.length_nil]; have := cut_length (abS (rs.take zi) c).2 none (some (((abS (rs.take zi) c).1 * (48271 : Int) + (7919 : Int)) % (2147483647 : Int) / (64 : Int) % (((abS (rs.take zi) c).2.length : Int) + (1 : Int)))); have := cut_length (abS (rs.take zi) c).2 (some (((abS (rs.take zi) c).1 * (48271 : Int) + (7919 : Int)) % (2147483647 : Int) / (64 : Int) % (((abS (rs.take zi) c).2.length : Int) + (1 : Int)))) none; omega)))⟩) (ee_add (ee_lenT' (en := D.str) b_len (el_own v2 rfl)) ee_int) (by first | assumption | omega | (first | exact Int.emod_nonneg _ (by omega) | exact Int.emod_lt_of_pos _ (by omega) | (simp only [List.length_append, List.length_cons, List.length_nil]; have := cut_length (abS (rs.take zi) c).2 none (some (((abS (rs.take zi) c).1 * (48271 : Int) + (7919 : Int)) % (2147483647 : Int) / (64 : Int) % (((abS (rs.take zi) c).2.length : Int) + (1 : Int)))); have := cut_length (abS (rs.take zi) c).2 (some (((abS (rs.take zi) c).1 * (48271 : Int) + (7919 : Int)) % (2147483647 : Int) / (64 : Int) % (((abS (rs.take zi) c).2.length : Int) + (1 : Int)))) none; omega)))) ?_
    show SS X _ [Sl.dat (D.lst ((rs).map D.str)), Sl.dat (D.int (c)), Sl.own (Own.lst ((((abS (rs.take zi) c).2)).map D.str)), Sl.dat (D.int ((((((abS (rs.take zi) c).1) * (48271 : Int)) + (7919 : Int)) % (2147483647 : Int)))), Sl.dat (D.str (zt)), Sl.dat (D.int ((((((((abS (rs.take zi) c).1) * (48271 : Int)) + (7919 : Int)) % (2147483647 : Int)) / (64 : Int)) % (((((abS (rs.take zi) c).2)).length : Int) + (1 : Int)))))] _
    refine ss_asg cx.nd l2 (r := Sl.own (Own.lst (((((cut ((abS (rs.take zi) c).2) none (some (((((((abS (rs.take zi) c).1) * (48271 : Int)) + (7919 : Int)) % (2147483647 : Int)) / (64 : Int)) % (((((abS (rs.take zi) c).2)).length : Int) + (1 : Int))))) ++ [zt]) ++ (cut ((abS (rs.take zi) c).2) (some (((((((abS (rs.take zi) c).1) * (48271 : Int)) + (7919 : Int)) % (2147483647 : Int)) / (64 : Int)) % (((((abS (rs.take zi) c).2)).length : Int) + (1 : Int)))) none))).map D.str))) (ee_catT (en := D.str) (elt_new (ee_catT (en := D.str) (elt_new (ee_slLT (en := D.str) (el_own v2 rfl) eo_none (eo_some (ee_var v5 rfl)))) (elt_new (ee_lst (ea_cons (ee_var v4 rfl) ea_nil) (by simp))) (by first | assumption | omega | (first | exact Int.emod_nonneg _ (by omega) | exact Int.emod_lt_of_pos _ (by omega) | (simp only [List.length_append, List.length_cons, List.length_nil]; have := cut_length (abS (rs.take zi) c).2 none (some (((abS (rs.take zi) c).1 * (48271 : Int) + (7919 : Int)) % (2147483647 : Int) / (64 : Int) % (((abS (rs.take zi) c).2.length : Int) + (1 : Int)))); have := cut_length (abS (rs.take zi) c).2 (some (((abS (rs.take zi) c).1 * (48271 : Int) + (7919 : Int)) % (2147483647 : Int) / (64 : Int) % (((abS (rs.take zi) c).2.length : Int) + (1 : Int)))) none; omega))))) (elt_new (ee_slLT (en := D.str) (el_own v2 rfl) (eo_some (ee_var v5 rfl)) eo_none)) (by first | assumption | omega | (first | exact Int.emod_nonneg _ (by omega) | exact Int.emod_lt_of_pos _ (by omega) | (simp only [List.length_append, List.length_cons, List.length_nil]; have := cut_length (abS (rs.take zi) c).2 none (some (((abS (rs.take zi) c).1 * (48271 : Int) + (7919 : Int)) % (2147483647 : Int) / (64 : Int) % (((abS (rs.take zi) c).2.length : Int) + (1 : Int)))); have := cut_length (abS (rs.take zi) c).2 (some (((abS (rs.take zi) c).1 * (48271 : Int) + (7919 : Int)) % (2147483647 : Int) / (64 : Int) % (((abS (rs.take zi) c).2.length : Int) + (1 : Int)))) none; omega)))) ?_
    show SS X _ [Sl.dat (D.lst ((rs).map D.str)), Sl.dat (D.int (c)), Sl.own (Own.lst (((((cut ((abS (rs.take zi) c).2) none (some (((((((abS (rs.take zi) c).1) * (48271 : Int)) + (7919 : Int)) % (2147483647 : Int)) / (64 : Int)) % (((((abS (rs.take zi) c).2)).length : Int) + (1 : Int))))) ++ [zt]) ++ (cut ((abS (rs.take zi) c).2) (some (((((((abS (rs.take zi) c).1) * (48271 : Int)) + (7919 : Int)) % (2147483647 : Int)) / (64 : Int)) % (((((abS (rs.take zi) c).2)).length : Int) + (1 : Int)))) none))).map D.str)), Sl.dat (D.int ((((((abS (rs.take zi) c).1) * (48271 : Int)) + (7919 : Int)) % (2147483647 : Int)))), Sl.dat (D.str (zt)), Sl.dat (D.int ((((((((abS (rs.take zi) c).1) * (48271 : Int)) + (7919 : Int)) % (2147483647 : Int)) / (64 : Int)) % (((((abS (rs.take zi) c).2)).length : Int) + (1 : Int)))))] _
    refine ss_end (ss' := [Sl.dat (D.lst ((rs).map D.str)), Sl.dat (D.int (c)), Sl.own (Own.lst ((((abS (rs.take (zi + 1)) c).2)).map D.str)), Sl.dat (D.int (((abS (rs.take (zi + 1)) c).1))), Sl.any, Sl.any]) ?_ ?_
    · exact Les.cons (.refl _) <| Les.cons (.refl _) <| Les.cons (.of (by (rw [abS_take hx1]; rfl))) <| Les.cons (.of (by (rw [abS_take hx1]; rfl))) <| Les.cons (.any _) <| Les.cons (.any _) <| .nil
    · exact rfl
  · subst hW
    rw [List.take_length]
    show SS X _ [Sl.dat (D.lst ((rs).map D.str)), Sl.dat (D.int (c)), Sl.own (Own.lst (((abG rs c)).map D.str)), Sl.dat (D.int (((abS rs c).1))), Sl.any, Sl.any] _
    refine ss_retO (o := Own.lst (((abG rs c)).map D.str)) v2 rfl ?_
    exact hp
def r__law_written : List D → (Sl → Prop) → Prop := fun ds post => ∃ (n : Net) (c : Int), ds = [eNet (n), D.int (c)] ∧ (NetF n) ∧ post (Sl.own (Own.lst (((rowsP (plY n c) (abG (flL n.2 c) c))).map D.str)))
theorem sc__law_written : FnScope ["_law_net_here", "_law_cell", "_law_poles_here", "_law_rows", "_law_k", "_law_tie"] ["_law_net_here", "_law_cell"] (defScope (s__law_written)) := ⟨rfl, rfl, rfl, by decide +kernel, rfl, by decide +kernel, by decide +kernel⟩
set_option maxHeartbeats 2000000 in
theorem body__law_written (m_enumerate : mg "enumerate" = none) (F__law_line : Fn P w K mg base 1 "_law_line" 2 (r__law_line)) (F__law_about : Fn P w K mg base 1 "_law_about" 2 (r__law_about)) : Body P w K mg base ["_law_net_here", "_law_cell", "_law_poles_here", "_law_rows", "_law_k", "_law_tie"] 2 1 (s__law_written) (r__law_written) := by
  intro X A ds post hl hR
  obtain ⟨n, c, rfl, hpre, hp⟩ := hR
  have hn14 := hpre.g.ok.len
  have hrd := rd05 hpre (plY_or n c) (mixed_written hpre c)
  have hfl := fun u (hu : u ∈ flL n.2 c) => (rd05 hpre (.inl rfl) (flL_mixed hpre c)).1.2 u hu
  have cx := A.cx
  obtain ⟨rfl, rfl, rfl, rfl, rfl, _, _, _, _⟩ := id A
  have v0 : VarOk X 0 "_law_net_here" := A.var rfl (by first | exact Or.inl rfl | exact Or.inr (Or.inl rfl) | exact Or.inr (Or.inr rfl))
  have v1 : VarOk X 1 "_law_cell" := A.var rfl (by first | exact Or.inl rfl | exact Or.inr (Or.inl rfl) | exact Or.inr (Or.inr rfl))
  have v2 : VarOk X 2 "_law_poles_here" := A.var rfl (by first | exact Or.inl rfl | exact Or.inr (Or.inl rfl) | exact Or.inr (Or.inr rfl))
  have v3 : VarOk X 3 "_law_rows" := A.var rfl (by first | exact Or.inl rfl | exact Or.inr (Or.inl rfl) | exact Or.inr (Or.inr rfl))
  have v4 : VarOk X 4 "_law_k" := A.var rfl (by first | exact Or.inl rfl | exact Or.inr (Or.inl rfl) | exact Or.inr (Or.inr rfl))
  have v5 : VarOk X 5 "_law_tie" := A.var rfl (by first | exact Or.inl rfl | exact Or.inr (Or.inl rfl) | exact Or.inr (Or.inr rfl))
  have l0 : LocOk X 0 "_law_net_here" := A.loc rfl (by first | exact Or.inl rfl | exact Or.inr rfl)
  have l1 : LocOk X 1 "_law_cell" := A.loc rfl (by first | exact Or.inl rfl | exact Or.inr rfl)
  have l2 : LocOk X 2 "_law_poles_here" := A.loc rfl (by first | exact Or.inl rfl | exact Or.inr rfl)
  have l3 : LocOk X 3 "_law_rows" := A.loc rfl (by first | exact Or.inl rfl | exact Or.inr rfl)
  have l4 : LocOk X 4 "_law_k" := A.loc rfl (by first | exact Or.inl rfl | exact Or.inr rfl)
  have l5 : LocOk X 5 "_law_tie" := A.loc rfl (by first | exact Or.inl rfl | exact Or.inr rfl)
  have b_enumerate : Bi X "enumerate" := A.bi rfl m_enumerate
  show SS X _ [Sl.dat (eNet (n)), Sl.dat (D.int (c)), Sl.any, Sl.any, Sl.any, Sl.any] _
  refine ss_asg cx.nd l2 (r := Sl.dat (ePair ((plY n c)))) (ee_ixLT (en := ePair) (t := (at0 (0, 0) [(n).1, (((n).1).2, ((n).1).1)] (c % (2 : Int)))) (el_new (ee_lst (ea_cons (ee_ixT (d := ePair ((n).1)) (ee_var v0 rfl) ee_int (fun _ _ => rfl) rfl) (ea_cons (EE.asPair (ee_tup (ea_cons (ee_ixT (d := D.int (((n).1).2)) (ee_ixT (d := ePair ((n).1)) (ee_var v0 rfl) ee_int (fun _ _ => rfl) rfl) ee_int (fun _ _ => rfl) rfl) (ea_cons (ee_ixT (d := D.int (((n).1).1)) (ee_ixT (d := ePair ((n).1)) (ee_var v0 rfl) ee_int (fun _ _ => rfl) rfl) ee_int (fun _ _ => rfl) rfl) ea_nil)) (by simp))) ea_nil)) (by simp))) (ee_mod (ee_var v1 rfl) ee_int (by first | assumption | omega | (first | exact Int.emod_nonneg _ (by omega) | exact Int.emod_lt_of_pos _ (by omega) | (rw [List.length_map, List.length_take, flL_len]; omega) | (rw [(abG_perm _ _).length_eq, List.length_map, flL_len]; simp only [List.length_cons, List.length_nil]; omega)))) (fun _ _ => rfl) (at0_ok (by first | assumption | omega | (first | exact Int.emod_nonneg _ (by omega) | exact Int.emod_lt_of_pos _ (by omega) | (rw [List.length_map, List.length_take, flL_len]; omega) | (rw [(abG_perm _ _).length_eq, List.length_map, flL_len]; simp only [List.length_cons, List.length_nil]; omega))) (by first | assumption | omega | (first | exact Int.emod_nonneg _ (by omega) | exact Int.emod_lt_of_pos _ (by omega) | (rw [List.length_map, List.length_take, flL_len]; omega) | (rw [(abG_perm _ _).length_eq, List.length_map, flL_len]; simp only [List.length_cons, List.length_nil]; omega))))) ?_
  show SS X _ [Sl.dat (eNet (n)), Sl.dat (D.int (c)), Sl.dat (ePair ((plY n c))), Sl.any, Sl.any, Sl.any] _
  refine ss_asg cx.nd l3 (r := Sl.own (Own.lst (([]).map D.str))) (ee_lst ea_nil (by decide)) ?_
  show SS X _ [Sl.dat (eNet (n)), Sl.dat (D.int (c)), Sl.dat (ePair ((plY n c))), Sl.own (Own.lst (([]).map D.str)), Sl.any, Sl.any] _
  refine ss_forE (en := eTie) (xs := (n).2) cx (ei_enum b_enumerate.g b_enumerate.m (ee_ixT (d := D.lst (((n).2).map eTie)) (ee_var v0 rfl) ee_int (fun _ _ => rfl) rfl)) (fun (zi : Nat) zs => zs = [Sl.dat (eNet (n)), Sl.dat (D.int (c)), Sl.dat (ePair ((plY n c))), Sl.own (Own.lst (((((flL n.2 c).take zi).map tieW)).map D.str)), Sl.any, Sl.any]) ?_ (fun zi zt s1 hx1 hW => ?_) (fun s1 hW => ?_)
  · rfl
  · subst hW
    refine ⟨_, _, (tt_tup cx.calm (tts_cons (tt_name l4 cx.nd) (tts_cons (tt_name l5 cx.nd) tts_nil))), ?_⟩
    have hi := (List.getElem?_eq_some_iff.mp hx1).1
    show SS X _ [Sl.dat (eNet (n)), Sl.dat (D.int (c)), Sl.dat (ePair ((plY n c))), Sl.own (Own.lst (((((flL n.2 c).take zi).map tieW)).map D.str)), Sl.dat (D.int ((zi : Int))), Sl.dat (eTie (zt))] _
    refine ss_appT (en := D.str) (xs := (((flL n.2 c).take zi).map tieW)) (t := (lineW (("tie" : Str)) ([((at0 (0, 0, 0) [zt, ((zt).1, (zt).2.2, (zt).2.1)] ((c / ((zi : Int) + (2 : Int))) % (2 : Int)))).1, ((at0 (0, 0, 0) [zt, ((zt).1, (zt).2.2, (zt).2.1)] ((c / ((zi : Int) + (2 : Int))) % (2 : Int)))).2.1, ((at0 (0, 0, 0) [zt, ((zt).1, (zt).2.2, (zt).2.1)] ((c / ((zi : Int) + (2 : Int))) % (2 : Int)))).2.2]))) v3 rfl (ee_call F__law_line cx (by decide) (A.gl rfl) (ea_cons ee_str (ea_cons (ee_ixLT (en := eTie) (t := (at0 (0, 0, 0) [zt, ((zt).1, (zt).2.2, (zt).2.1)] ((c / ((zi : Int) + (2 : Int))) % (2 : Int)))) (el_new (ee_lst (ea_cons (ee_var v5 rfl) (ea_cons (EE.asTie (ee_tup (ea_cons (ee_ixT (d := D.int ((zt).1)) (ee_var v5 rfl) ee_int (fun _ _ => rfl) rfl) (ea_cons (ee_ixT (d := D.int ((zt).2.2)) (ee_var v5 rfl) ee_int (fun _ _ => rfl) rfl) (ea_cons (ee_ixT (d := D.int ((zt).2.1)) (ee_var v5 rfl) ee_int (fun _ _ => rfl) rfl) ea_nil))) (by simp))) ea_nil)) (by simp))) (ee_mod (ee_div (ee_var v1 rfl) (ee_add (ee_var v4 rfl) ee_int) ⟨(by first | assumption | omega | (first | exact Int.emod_nonneg _ (by omega) | exact Int.emod_lt_of_pos _ (by omega) | (rw [List.length_map, List.length_take, flL_len]; omega) | (rw [(abG_perm _ _).length_eq, List.length_map, flL_len]; simp only [List.length_cons, List.length_nil]; omega))), (by first | assumption | omega | (first | exact Int.emod_nonneg _ (by omega) | exact Int.emod_lt_of_pos _ (by omega) | (rw [List.length_map, List.length_take, flL_len]; omega) | (rw [(abG_perm _ _).length_eq, List.length_map, flL_len]; simp only [List.length_cons, List.length_nil]; omega)))⟩) ee_int (by first | assumption | omega | (first | exact Int.emod_nonneg _ (by omega) | exact Int.emod_lt_of_pos _ (by omega) | (rw [List.length_map, List.length_take, flL_len]; omega) | (rw [(abG_perm _ _).length_eq, List.length_map, flL_len]; simp only [List.length_cons, List.length_nil]; omega)))) (fun _ _ => rfl) (at0_ok (by first | assumption | omega | (first | exact Int.emod_nonneg _ (by omega) | exact Int.emod_lt_of_pos _ (by omega) | (rw [List.length_map, List.length_take, flL_len]; omega) | (rw [(abG_perm _ _).length_eq, List.length_map, flL_len]; simp only [List.length_cons, List.length_nil]; omega))) (by first | assumption | omega | (first | exact Int.emod_nonneg _ (by omega) | exact Int.emod_lt_of_pos _ (by omega) | (rw [List.length_map, List.length_take, flL_len]; omega) | (rw [(abG_perm _ _).length_eq, List.length_map, flL_len]; simp only [List.length_cons, List.length_nil]; omega))))) ea_nil)) ⟨("tie" : Str), [((at0 (0, 0, 0) [zt, ((zt).1, (zt).2.2, (zt).2.1)] ((c / ((zi : Int) + (2 : Int))) % (2 : Int)))).1, ((at0 (0, 0, 0) [zt, ((zt).1, (zt).2.2, (zt).2.1)] ((c / ((zi : Int) + (2 : Int))) % (2 : Int)))).2.1, ((at0 (0, 0, 0) [zt, ((zt).1, (zt).2.2, (zt).2.1)] ((c / ((zi : Int) + (2 : Int))) % (2 : Int)))).2.2], rfl, (by first | exact ⟨polesLen, two5 _ _, hrd.1.1⟩ | exact ⟨tieLen, three5 _ _ _, hfl _ (flL_at hx1)⟩), rfl⟩ rfl) (by first | assumption | omega | (first | exact Int.emod_nonneg _ (by omega) | exact Int.emod_lt_of_pos _ (by omega) | (rw [List.length_map, List.length_take, flL_len]; omega) | (rw [(abG_perm _ _).length_eq, List.length_map, flL_len]; simp only [List.length_cons, List.length_nil]; omega))) ?_
    show SS X _ [Sl.dat (eNet (n)), Sl.dat (D.int (c)), Sl.dat (ePair ((plY n c))), Sl.own (Own.lst ((((((flL n.2 c).take zi).map tieW) ++ [(lineW (("tie" : Str)) ([((at0 (0, 0, 0) [zt, ((zt).1, (zt).2.2, (zt).2.1)] ((c / ((zi : Int) + (2 : Int))) % (2 : Int)))).1, ((at0 (0, 0, 0) [zt, ((zt).1, (zt).2.2, (zt).2.1)] ((c / ((zi : Int) + (2 : Int))) % (2 : Int)))).2.1, ((at0 (0, 0, 0) [zt, ((zt).1, (zt).2.2, (zt).2.1)] ((c / ((zi : Int) + (2 : Int))) % (2 : Int)))).2.2]))])).map D.str)), Sl.dat (D.int ((zi : Int))), Sl.dat (eTie (zt))] _
    refine ss_end (ss' := [Sl.dat (eNet (n)), Sl.dat (D.int (c)), Sl.dat (ePair ((plY n c))), Sl.own (Own.lst (((((flL n.2 c).take (zi + 1)).map tieW)).map D.str)), Sl.any, Sl.any]) ?_ ?_
    · exact Les.cons (.refl _) <| Les.cons (.refl _) <| Les.cons (.refl _) <| Les.cons (.of (by (rw [flL_take hx1, List.map_append (f := tieW)]; rfl))) <| Les.cons (.any _) <| Les.cons (.any _) <| .nil
    · exact rfl
  · subst hW
    rw [flL_all]
    show SS X _ [Sl.dat (eNet (n)), Sl.dat (D.int (c)), Sl.dat (ePair ((plY n c))), Sl.own (Own.lst ((((flL n.2 c).map tieW)).map D.str)), Sl.any, Sl.any] _
    refine SS.frz (n := 3) rfl ?_
    show SS X _ [Sl.dat (eNet (n)), Sl.dat (D.int (c)), Sl.dat (ePair ((plY n c))), Sl.dat (D.lst ((((flL n.2 c).map tieW)).map D.str)), Sl.any, Sl.any] _
    refine ss_ret (r := Sl.own (Own.lst ((([(lineW (("poles" : Str)) ([((plY n c)).1, ((plY n c)).2]))] ++ (abG (((flL n.2 c).map tieW)) (c)))).map D.str))) (ee_catT (en := D.str) (elt_new (ee_lst (ea_cons (ee_call F__law_line cx (by decide) (A.gl rfl) (ea_cons ee_str (ea_cons (ee_var v2 rfl) ea_nil)) ⟨("poles" : Str), [((plY n c)).1, ((plY n c)).2], rfl, (by first | exact ⟨polesLen, two5 _ _, hrd.1.1⟩ | exact ⟨tieLen, three5 _ _ _, hfl _ (flL_at hx1)⟩), rfl⟩ rfl) ea_nil) (by simp))) (elt_new (ee_call F__law_about cx (by decide) (A.gl rfl) (ea_cons (ee_var v3 rfl) (ea_cons (ee_var v1 rfl) ea_nil)) ⟨((flL n.2 c).map tieW), c, rfl, (by (rw [List.length_map, flL_len]; omega)), rfl⟩ rfl)) (by first | assumption | omega | (first | exact Int.emod_nonneg _ (by omega) | exact Int.emod_lt_of_pos _ (by omega) | (rw [List.length_map, List.length_take, flL_len]; omega) | (rw [(abG_perm _ _).length_eq, List.length_map, flL_len]; simp only [List.length_cons, List.length_nil]; omega)))) ?_
    exact Eq.mp (congrArg (fun z => post (Sl.own (Own.lst (List.map D.str z)))) (rows_written n c).symm) hp
theorem law05a {n : Net} : ((!true) || ((!((rowsW n).map fun (t1 : Str) => true).all id) || (!decide (n = n)))) = false := by simp
theorem law05b {n : Net} : ((!m__law_same_net n n) || (!decide (rowsW n = rowsW n))) = false := by rw [same_net]; simp
theorem law05c {n : Net} (F : NetF n) (c : Int) : ((!m__law_same_net (mkNet n.1 (abG n.2 c)) n) || (!m__law_same_net (mkNet (plY n c) (abG (flL n.2 c) c)) n)) = false := by
  rw [same_net, same_net, mk05 F (.inl rfl) (mixed_about F c), mk05 F (plY_or n c) (mixed_written F c)]; simp
theorem law05d {n : Net} (F : NetF n) : ((!m__law_same_net (mkNet n.1 n.2) n) || (!decide (rowsW n = rowsW n))) = false := by
  rw [same_net, mk05 F (.inl rfl) (mixed_self F)]; simp
def r_law : List D → (Sl → Prop) → Prop := fun ds post => ∃ (s : List Int), ds = [D.scr (s)] ∧ (s.length ≤ 63) ∧ post (Sl.dat (D.bl (true)))
theorem sc_law : FnScope ["_law_script", "_law_k", "_law_net_here", "_law_cell", "_law_handed", "_law_rows", "_law_kept", "_law_found", "_law_mixed", "_law_row"] ["_law_script"] (defScope (s_law)) := ⟨rfl, rfl, rfl, by decide +kernel, rfl, by decide +kernel, by decide +kernel⟩
set_option maxHeartbeats 2000000 in
theorem body_law (m_enumerate : mg "enumerate" = none) (m_list : mg "list" = none) (m_isinstance : mg "isinstance" = none) (m_str : mg "str" = none) (m_all : mg "all" = none) (F__law_nets : Fn P w K mg base 5 "_law_nets" 1 (r__law_nets)) (F__law_cell_at : Fn P w K mg base 1 "_law_cell_at" 2 (r__law_cell_at)) (F_shown : Fn P w K mg base 2 "shown" 1 (r_shown)) (F_read : Fv P w K mg base 4 "read" 1 (r_read)) (F__law_same_net : Fn P w K mg base 2 "_law_same_net" 2 (r__law_same_net)) (F__law_about : Fn P w K mg base 1 "_law_about" 2 (r__law_about)) (F__law_written : Fn P w K mg base 2 "_law_written" 2 (r__law_written)) : Body P w K mg base ["_law_script", "_law_k", "_law_net_here", "_law_cell", "_law_handed", "_law_rows", "_law_kept", "_law_found", "_law_mixed", "_law_row"] 1 5 (s_law) (r_law) := by
  intro X A ds post hl hR
  obtain ⟨s, rfl, hpre, hp⟩ := hR
  have hlen := hpre
  have cx := A.cx
  obtain ⟨rfl, rfl, rfl, rfl, rfl, _, _, _, _⟩ := id A
  have v0 : VarOk X 0 "_law_script" := A.var rfl (by first | exact Or.inl rfl | exact Or.inr (Or.inl rfl) | exact Or.inr (Or.inr rfl))
  have v1 : VarOk X 1 "_law_k" := A.var rfl (by first | exact Or.inl rfl | exact Or.inr (Or.inl rfl) | exact Or.inr (Or.inr rfl))
  have v2 : VarOk X 2 "_law_net_here" := A.var rfl (by first | exact Or.inl rfl | exact Or.inr (Or.inl rfl) | exact Or.inr (Or.inr rfl))
  have v3 : VarOk X 3 "_law_cell" := A.var rfl (by first | exact Or.inl rfl | exact Or.inr (Or.inl rfl) | exact Or.inr (Or.inr rfl))
  have v4 : VarOk X 4 "_law_handed" := A.var rfl (by first | exact Or.inl rfl | exact Or.inr (Or.inl rfl) | exact Or.inr (Or.inr rfl))
  have v5 : VarOk X 5 "_law_rows" := A.var rfl (by first | exact Or.inl rfl | exact Or.inr (Or.inl rfl) | exact Or.inr (Or.inr rfl))
  have v6 : VarOk X 6 "_law_kept" := A.var rfl (by first | exact Or.inl rfl | exact Or.inr (Or.inl rfl) | exact Or.inr (Or.inr rfl))
  have v7 : VarOk X 7 "_law_found" := A.var rfl (by first | exact Or.inl rfl | exact Or.inr (Or.inl rfl) | exact Or.inr (Or.inr rfl))
  have v8 : VarOk X 8 "_law_mixed" := A.var rfl (by first | exact Or.inl rfl | exact Or.inr (Or.inl rfl) | exact Or.inr (Or.inr rfl))
  have l0 : LocOk X 0 "_law_script" := A.loc rfl (by first | exact Or.inl rfl | exact Or.inr rfl)
  have l1 : LocOk X 1 "_law_k" := A.loc rfl (by first | exact Or.inl rfl | exact Or.inr rfl)
  have l2 : LocOk X 2 "_law_net_here" := A.loc rfl (by first | exact Or.inl rfl | exact Or.inr rfl)
  have l3 : LocOk X 3 "_law_cell" := A.loc rfl (by first | exact Or.inl rfl | exact Or.inr rfl)
  have l4 : LocOk X 4 "_law_handed" := A.loc rfl (by first | exact Or.inl rfl | exact Or.inr rfl)
  have l5 : LocOk X 5 "_law_rows" := A.loc rfl (by first | exact Or.inl rfl | exact Or.inr rfl)
  have l6 : LocOk X 6 "_law_kept" := A.loc rfl (by first | exact Or.inl rfl | exact Or.inr rfl)
  have l7 : LocOk X 7 "_law_found" := A.loc rfl (by first | exact Or.inl rfl | exact Or.inr rfl)
  have l8 : LocOk X 8 "_law_mixed" := A.loc rfl (by first | exact Or.inl rfl | exact Or.inr rfl)
  have b_enumerate : Bi X "enumerate" := A.bi rfl m_enumerate
  have b_list : Bi X "list" := A.bi rfl m_list
  have b_isinstance : Bi X "isinstance" := A.bi rfl m_isinstance
  have b_all : Bi X "all" := A.bi rfl m_all
  show SS X _ [Sl.dat (D.scr (s)), Sl.any, Sl.any, Sl.any, Sl.any, Sl.any, Sl.any, Sl.any, Sl.any, Sl.any] _
  refine ss_forE (en := eNet) (xs := (netsO (s))) cx (ei_enum b_enumerate.g b_enumerate.m (EE.frzL (ee_call F__law_nets cx (by decide) (A.gl rfl) (ea_cons (ee_var v0 rfl) ea_nil) ⟨s, rfl, rfl⟩ rfl))) (fun (zi : Nat) zs => zs = [Sl.dat (D.scr (s)), Sl.any, Sl.any, Sl.any, Sl.any, Sl.any, Sl.any, Sl.any, Sl.any, Sl.any]) ?_ (fun zi zt s1 hx1 hW => ?_) (fun s1 hW => ?_)
  · rfl
  · subst hW
    refine ⟨_, _, (tt_tup cx.calm (tts_cons (tt_name l1 cx.nd) (tts_cons (tt_name l2 cx.nd) tts_nil))), ?_⟩
    have F := netsO_f hx1
    have hg := netF_fig F
    have hN := F.g.ok
    have hn14 := hN.len
    have hrw := rowsW_len zt
    show SS X _ [Sl.dat (D.scr (s)), Sl.dat (D.int ((zi : Int))), Sl.dat (eNet (zt)), Sl.any, Sl.any, Sl.any, Sl.any, Sl.any, Sl.any, Sl.any] _
    refine ss_asg cx.nd l3 (r := Sl.dat (D.int ((mA__law_cell_at s ((5 : Int) + (zi : Int)))))) (ee_call F__law_cell_at cx (by decide) (A.gl rfl) (ea_cons (ee_var v0 rfl) (ea_cons (ee_add ee_int (ee_var v1 rfl)) ea_nil)) ⟨s, ((5 : Int) + (zi : Int)), rfl, (by first | assumption | omega | (refine ⟨?_, ?_⟩ <;> first | assumption | omega) | (refine ⟨?_, ?_, ?_⟩ <;> first | assumption | omega) | (refine ⟨?_, ?_, ?_, ?_⟩ <;> first | assumption | omega)), rfl⟩ rfl) ?_
    show SS X _ [Sl.dat (D.scr (s)), Sl.dat (D.int ((zi : Int))), Sl.dat (eNet (zt)), Sl.dat (D.int ((mA__law_cell_at s ((5 : Int) + (zi : Int))))), Sl.any, Sl.any, Sl.any, Sl.any, Sl.any, Sl.any] _
    refine ss_asg cx.nd l4 (r := Sl.own (oNet (zt))) (ee_tupO (ep_dat (ee_ixT (d := ePair ((zt).1)) (ee_var v2 rfl) ee_int (fun _ _ => rfl) rfl) (ep_own (ee_listL b_list (el_dat (ee_ixT (d := D.lst (((zt).2).map eTie)) (ee_var v2 rfl) ee_int (fun _ _ => rfl) rfl))) ep_nil')) (by simp)) ?_
    show SS X _ [Sl.dat (D.scr (s)), Sl.dat (D.int ((zi : Int))), Sl.dat (eNet (zt)), Sl.dat (D.int ((mA__law_cell_at s ((5 : Int) + (zi : Int))))), Sl.own (oNet (zt)), Sl.any, Sl.any, Sl.any, Sl.any, Sl.any] _
    refine SS.frz (n := 4) rfl ?_
    show SS X _ [Sl.dat (D.scr (s)), Sl.dat (D.int ((zi : Int))), Sl.dat (eNet (zt)), Sl.dat (D.int ((mA__law_cell_at s ((5 : Int) + (zi : Int))))), Sl.dat (eNet (zt)), Sl.any, Sl.any, Sl.any, Sl.any, Sl.any] _
    refine ss_asg cx.nd l5 (r := Sl.own (Own.lst (((rowsW (zt))).map D.str))) (ee_call F_shown cx (by decide) (A.gl rfl) (ea_cons (ee_var v4 rfl) ea_nil) ⟨zt, rfl, (by exact ⟨hn14, hg⟩), rfl⟩ rfl) ?_
    show SS X _ [Sl.dat (D.scr (s)), Sl.dat (D.int ((zi : Int))), Sl.dat (eNet (zt)), Sl.dat (D.int ((mA__law_cell_at s ((5 : Int) + (zi : Int))))), Sl.dat (eNet (zt)), Sl.own (Own.lst (((rowsW (zt))).map D.str)), Sl.any, Sl.any, Sl.any, Sl.any] _
    refine ss_if (ET.read (n := 5) rfl (et_w (etw_or (et_not (et_val (ee_isi (T := "list") (U := "list") (y := true) b_isinstance b_list PyProof.Rows.boot_list (ee_var v5 rfl) rfl (by decide +kernel)))) (fun h5 => (etw_or (et_not (et_val (ee_all (bs := ((rowsW (zt)).map fun (t1 : Str) => true)) cx b_all (el_new (EE.to (ee_lcT (en := D.str) (own := [("_law_row", 9)]) (xs := (rowsW (zt))) D.bl (fun (t1 : Str) => true) (fun (t1 : Str) => true) cx (eic_el (el_dat (ee_var v5 rfl))) (A.blk (by decide +kernel)) (by first | assumption | omega | (first | omega | (rw [List.length_map]; omega) | (rw [(abG_perm _ _).length_eq]; have := cut_length (rowsW zt) none (some (1 : Int)); have := cut_length (rowsW zt) (some (1 : Int)) none; omega) | (simp only [List.length_append, List.length_cons, List.length_nil]; omega))) (fun i1 t1 k2 => (by exact ⟨_, _, fun zs zH zC zcl zfp => (tt_name (A.bloc (i := 9) rfl (by first | exact Or.inl rfl | exact Or.inr ⟨rfl, rfl⟩)) cx.blk.nd), (by decide), fun zs zH zC zcl zfp => ep_nil, fun k3 zs zH zC zcl zfp => (ee_isi (T := "str") (U := "str") (y := true) (A.bbi rfl m_isinstance) (A.bbi rfl m_str) PyProof.Rows.boot_str (ee_var (A.bvar (i := 9) rfl (by first | exact Or.inl rfl | exact Or.inr (Or.inl rfl) | exact Or.inr (Or.inr rfl))) rfl) rfl (by decide +kernel))⟩))) (by rw [filter_tt])))))) (fun h4 => (etw_or1 (et_c (ec_neP (EqP.pr (EqP.pr EqP.int EqP.int) (EqP.lst (EqP.tr EqP.int EqP.int EqP.int))) zt zt cx (ee_var v4 rfl) (ee_var v2 rfl)) (by first | exact L2.nomark _ | rfl | with_unfolding_all rfl))))))))) (fun e6 => ?_) (fun e6 => ?_)
    · have f_e6 := e6; try simp only [srt_length, srtT_length, List.length_take, List.length_map, List.length_range, List.length_append, List.length_cons, List.length_nil, Bool.and_eq_true, Bool.or_eq_true, Bool.not_eq_true', Bool.not_eq_false', Bool.and_eq_false_imp, Bool.or_eq_false_iff, decide_eq_true_eq, decide_eq_false_iff_not] at f_e6
      refine ss_ret (r := Sl.dat (D.bl (false))) ee_bl ?_
      exact absurd (e6.symm.trans law05a) (by simp)
    · have f_e6 := e6; try simp only [srt_length, srtT_length, List.length_take, List.length_map, List.length_range, List.length_append, List.length_cons, List.length_nil, Bool.and_eq_true, Bool.or_eq_true, Bool.not_eq_true', Bool.not_eq_false', Bool.and_eq_false_imp, Bool.or_eq_false_iff, decide_eq_true_eq, decide_eq_false_iff_not] at f_e6
      refine ss_nil ?_
      show SS X _ [Sl.dat (D.scr (s)), Sl.dat (D.int ((zi : Int))), Sl.dat (eNet (zt)), Sl.dat (D.int ((mA__law_cell_at s ((5 : Int) + (zi : Int))))), Sl.dat (eNet (zt)), Sl.own (Own.lst (((rowsW (zt))).map D.str)), Sl.any, Sl.any, Sl.any, Sl.any] _
      refine ss_asg cx.nd l6 (r := Sl.own (Own.lst (((rowsW (zt))).map D.str))) (ee_listL b_list (el_own v5 rfl)) ?_
      show SS X _ [Sl.dat (D.scr (s)), Sl.dat (D.int ((zi : Int))), Sl.dat (eNet (zt)), Sl.dat (D.int ((mA__law_cell_at s ((5 : Int) + (zi : Int))))), Sl.dat (eNet (zt)), Sl.own (Own.lst (((rowsW (zt))).map D.str)), Sl.own (Own.lst (((rowsW (zt))).map D.str)), Sl.any, Sl.any, Sl.any] _
      refine ss_asg cx.nd l7 (r := Sl.own (oNet (zt))) (EE.to (r1 := Sl.own (oNet ((mkNet zt.1 zt.2)))) (ee_callV F_read cx (by decide) (A.gl rfl) (ear_vw (ev_own v5 rfl) ear_nil) ⟨zt.1, zt.2, rfl, (by first | exact rd05 F (.inl rfl) (mixed_self F) | exact rd05 F (.inl rfl) (mixed_about F _) | exact rd05 F (plY_or _ _) (mixed_written F _)), rfl⟩ rfl) (by rw [mk05 F (.inl rfl) (mixed_self F)])) ?_
      show SS X _ [Sl.dat (D.scr (s)), Sl.dat (D.int ((zi : Int))), Sl.dat (eNet (zt)), Sl.dat (D.int ((mA__law_cell_at s ((5 : Int) + (zi : Int))))), Sl.dat (eNet (zt)), Sl.own (Own.lst (((rowsW (zt))).map D.str)), Sl.own (Own.lst (((rowsW (zt))).map D.str)), Sl.own (oNet (zt)), Sl.any, Sl.any] _
      refine ss_if (ET.read (n := 7) rfl (ET.read (n := 5) rfl (ET.read (n := 6) rfl (et_w (etw_or (et_not (et_val (ee_call F__law_same_net cx (by decide) (A.gl rfl) (ea_cons (ee_var v7 rfl) (ea_cons (ee_var v2 rfl) ea_nil)) ⟨zt, zt, rfl, (by first | omega | (rw [mk05 F (.inl rfl) (mixed_self F)]; omega) | (rw [mk05 F (.inl rfl) (mixed_about F _)]; omega) | (rw [mk05 F (plY_or _ _) (mixed_written F _)]; omega)), rfl⟩ rfl))) (fun h7 => (etw_or1 (et_c (ec_neLS (xs := (rowsW (zt))) (ys := (rowsW (zt))) cx (ee_var v5 rfl) (ee_var v6 rfl) (by exact okS_rows zt) (by exact okS_rows zt)) (by first | exact L2.nomark _ | rfl | with_unfolding_all rfl))))))))) (fun e8 => ?_) (fun e8 => ?_)
      · have f_e8 := e8; try simp only [srt_length, srtT_length, List.length_take, List.length_map, List.length_range, List.length_append, List.length_cons, List.length_nil, Bool.and_eq_true, Bool.or_eq_true, Bool.not_eq_true', Bool.not_eq_false', Bool.and_eq_false_imp, Bool.or_eq_false_iff, decide_eq_true_eq, decide_eq_false_iff_not] at f_e8
        refine ss_ret (r := Sl.dat (D.bl (false))) ee_bl ?_
        exact absurd (e8.symm.trans law05b) (by simp)
      · have f_e8 := e8; try simp only [srt_length, srtT_length, List.length_take, List.length_map, List.length_range, List.length_append, List.length_cons, List.length_nil, Bool.and_eq_true, Bool.or_eq_true, Bool.not_eq_true', Bool.not_eq_false', Bool.and_eq_false_imp, Bool.or_eq_false_iff, decide_eq_true_eq, decide_eq_false_iff_not] at f_e8
        refine ss_nil ?_
        show SS X _ [Sl.dat (D.scr (s)), Sl.dat (D.int ((zi : Int))), Sl.dat (eNet (zt)), Sl.dat (D.int ((mA__law_cell_at s ((5 : Int) + (zi : Int))))), Sl.dat (eNet (zt)), Sl.own (Own.lst (((rowsW (zt))).map D.str)), Sl.own (Own.lst (((rowsW (zt))).map D.str)), Sl.own (oNet (zt)), Sl.any, Sl.any] _
        refine ss_appW (ds := (zt).2.map eTie) (ew_child (m := 1) (ew_name v7 rfl) rfl rfl rfl) rfl rfl (EE.asTie (ee_tup (ea_cons ee_int (ea_cons ee_int (ea_cons ee_int ea_nil))) (by simp))) (by first | assumption | omega | (first | omega | (rw [List.length_map]; omega) | (rw [(abG_perm _ _).length_eq]; have := cut_length (rowsW zt) none (some (1 : Int)); have := cut_length (rowsW zt) (some (1 : Int)) none; omega) | (simp only [List.length_append, List.length_cons, List.length_nil]; omega))) ?_
        rw [show ((zt).2.map eTie ++ [eTie (((0 : Int), (0 : Int), (0 : Int)))]) = ((zt).2 ++ [((0 : Int), (0 : Int), (0 : Int))]).map eTie from by rw [List.map_append]; rfl]
        show SS X _ [Sl.dat (D.scr (s)), Sl.dat (D.int ((zi : Int))), Sl.dat (eNet (zt)), Sl.dat (D.int ((mA__law_cell_at s ((5 : Int) + (zi : Int))))), Sl.dat (eNet (zt)), Sl.own (Own.lst (((rowsW (zt))).map D.str)), Sl.own (Own.lst (((rowsW (zt))).map D.str)), Sl.own (oNet ((((zt).1, (zt).2 ++ [((0 : Int), (0 : Int), (0 : Int))]) : Net))), Sl.any, Sl.any] _
        refine ss_asg cx.nd l8 (r := Sl.own (Own.lst (((rowsP zt.1 (abG zt.2 (mA__law_cell_at s ((5 : Int) + (zi : Int)))))).map D.str))) (EE.to (r1 := Sl.own (Own.lst ((((cut (rowsW (zt)) none (some (1 : Int))) ++ (abG ((cut (rowsW (zt)) (some (1 : Int)) none)) ((mA__law_cell_at s ((5 : Int) + (zi : Int))))))).map D.str))) (ee_catT (en := D.str) (elt_new (ee_slLT (en := D.str) (el_own v6 rfl) eo_none (eo_some ee_int))) (elt_new (ee_call F__law_about cx (by decide) (A.gl rfl) (ea_cons (EE.frzL (ee_slLT (en := D.str) (el_own v6 rfl) (eo_some ee_int) eo_none)) (ea_cons (ee_var v3 rfl) ea_nil)) ⟨(cut (rowsW (zt)) (some (1 : Int)) none), (mA__law_cell_at s ((5 : Int) + (zi : Int))), rfl, (by (have := cut_length (rowsW zt) (some (1 : Int)) none; omega)), rfl⟩ rfl)) (by first | assumption | omega | (first | omega | (rw [List.length_map]; omega) | (rw [(abG_perm _ _).length_eq]; have := cut_length (rowsW zt) none (some (1 : Int)); have := cut_length (rowsW zt) (some (1 : Int)) none; omega) | (simp only [List.length_append, List.length_cons, List.length_nil]; omega)))) (by rw [rows_mixed])) ?_
        show SS X _ [Sl.dat (D.scr (s)), Sl.dat (D.int ((zi : Int))), Sl.dat (eNet (zt)), Sl.dat (D.int ((mA__law_cell_at s ((5 : Int) + (zi : Int))))), Sl.dat (eNet (zt)), Sl.own (Own.lst (((rowsW (zt))).map D.str)), Sl.own (Own.lst (((rowsW (zt))).map D.str)), Sl.own (oNet ((((zt).1, (zt).2 ++ [((0 : Int), (0 : Int), (0 : Int))]) : Net))), Sl.own (Own.lst (((rowsP zt.1 (abG zt.2 (mA__law_cell_at s ((5 : Int) + (zi : Int)))))).map D.str)), Sl.any] _
        refine ss_if (et_w (etw_or (et_not (et_val (ee_call F__law_same_net cx (by decide) (A.gl rfl) (ea_cons (EE.frzN (n := (mkNet zt.1 (abG zt.2 (mA__law_cell_at s ((5 : Int) + (zi : Int)))))) (ee_callV F_read cx (by decide) (A.gl rfl) (ear_vw (ev_own v8 rfl) ear_nil) ⟨zt.1, (abG zt.2 (mA__law_cell_at s ((5 : Int) + (zi : Int)))), rfl, (by first | exact rd05 F (.inl rfl) (mixed_self F) | exact rd05 F (.inl rfl) (mixed_about F _) | exact rd05 F (plY_or _ _) (mixed_written F _)), rfl⟩ rfl)) (ea_cons (ee_var v2 rfl) ea_nil)) ⟨(mkNet zt.1 (abG zt.2 (mA__law_cell_at s ((5 : Int) + (zi : Int))))), zt, rfl, (by first | omega | (rw [mk05 F (.inl rfl) (mixed_self F)]; omega) | (rw [mk05 F (.inl rfl) (mixed_about F _)]; omega) | (rw [mk05 F (plY_or _ _) (mixed_written F _)]; omega)), rfl⟩ rfl))) (fun h9 => (etw_or1 (et_not (et_val (ee_call F__law_same_net cx (by decide) (A.gl rfl) (ea_cons (EE.frzN (n := (mkNet (plY zt (mA__law_cell_at s ((5 : Int) + (zi : Int)))) (abG (flL zt.2 (mA__law_cell_at s ((5 : Int) + (zi : Int)))) (mA__law_cell_at s ((5 : Int) + (zi : Int)))))) (ee_callV F_read cx (by decide) (A.gl rfl) (ear_vw (ev_new (ee_call F__law_written cx (by decide) (A.gl rfl) (ea_cons (ee_var v2 rfl) (ea_cons (ee_var v3 rfl) ea_nil)) ⟨zt, (mA__law_cell_at s ((5 : Int) + (zi : Int))), rfl, (by exact F), rfl⟩ rfl)) ear_nil) ⟨(plY zt (mA__law_cell_at s ((5 : Int) + (zi : Int)))), (abG (flL zt.2 (mA__law_cell_at s ((5 : Int) + (zi : Int)))) (mA__law_cell_at s ((5 : Int) + (zi : Int)))), rfl, (by first | exact rd05 F (.inl rfl) (mixed_self F) | exact rd05 F (.inl rfl) (mixed_about F _) | exact rd05 F (plY_or _ _) (mixed_written F _)), rfl⟩ rfl)) (ea_cons (ee_var v2 rfl) ea_nil)) ⟨(mkNet (plY zt (mA__law_cell_at s ((5 : Int) + (zi : Int)))) (abG (flL zt.2 (mA__law_cell_at s ((5 : Int) + (zi : Int)))) (mA__law_cell_at s ((5 : Int) + (zi : Int))))), zt, rfl, (by first | omega | (rw [mk05 F (.inl rfl) (mixed_self F)]; omega) | (rw [mk05 F (.inl rfl) (mixed_about F _)]; omega) | (rw [mk05 F (plY_or _ _) (mixed_written F _)]; omega)), rfl⟩ rfl))))))) (fun e10 => ?_) (fun e10 => ?_)
        · have f_e10 := e10; try simp only [srt_length, srtT_length, List.length_take, List.length_map, List.length_range, List.length_append, List.length_cons, List.length_nil, Bool.and_eq_true, Bool.or_eq_true, Bool.not_eq_true', Bool.not_eq_false', Bool.and_eq_false_imp, Bool.or_eq_false_iff, decide_eq_true_eq, decide_eq_false_iff_not] at f_e10
          refine ss_ret (r := Sl.dat (D.bl (false))) ee_bl ?_
          exact absurd (e10.symm.trans (law05c F _)) (by simp)
        · have f_e10 := e10; try simp only [srt_length, srtT_length, List.length_take, List.length_map, List.length_range, List.length_append, List.length_cons, List.length_nil, Bool.and_eq_true, Bool.or_eq_true, Bool.not_eq_true', Bool.not_eq_false', Bool.and_eq_false_imp, Bool.or_eq_false_iff, decide_eq_true_eq, decide_eq_false_iff_not] at f_e10
          refine ss_nil ?_
          show SS X _ [Sl.dat (D.scr (s)), Sl.dat (D.int ((zi : Int))), Sl.dat (eNet (zt)), Sl.dat (D.int ((mA__law_cell_at s ((5 : Int) + (zi : Int))))), Sl.dat (eNet (zt)), Sl.own (Own.lst (((rowsW (zt))).map D.str)), Sl.own (Own.lst (((rowsW (zt))).map D.str)), Sl.own (oNet ((((zt).1, (zt).2 ++ [((0 : Int), (0 : Int), (0 : Int))]) : Net))), Sl.own (Own.lst (((rowsP zt.1 (abG zt.2 (mA__law_cell_at s ((5 : Int) + (zi : Int)))))).map D.str)), Sl.any] _
          refine ss_appT (en := D.str) (xs := (rowsW (zt))) (t := ("tie" : Str)) v5 rfl ee_str (by first | assumption | omega | (first | omega | (rw [List.length_map]; omega) | (rw [(abG_perm _ _).length_eq]; have := cut_length (rowsW zt) none (some (1 : Int)); have := cut_length (rowsW zt) (some (1 : Int)) none; omega) | (simp only [List.length_append, List.length_cons, List.length_nil]; omega))) ?_
          show SS X _ [Sl.dat (D.scr (s)), Sl.dat (D.int ((zi : Int))), Sl.dat (eNet (zt)), Sl.dat (D.int ((mA__law_cell_at s ((5 : Int) + (zi : Int))))), Sl.dat (eNet (zt)), Sl.own (Own.lst ((((rowsW (zt)) ++ [("tie" : Str)])).map D.str)), Sl.own (Own.lst (((rowsW (zt))).map D.str)), Sl.own (oNet ((((zt).1, (zt).2 ++ [((0 : Int), (0 : Int), (0 : Int))]) : Net))), Sl.own (Own.lst (((rowsP zt.1 (abG zt.2 (mA__law_cell_at s ((5 : Int) + (zi : Int)))))).map D.str)), Sl.any] _
          refine ss_if (ET.read (n := 6) rfl (et_w (etw_or (et_not (et_val (ee_call F__law_same_net cx (by decide) (A.gl rfl) (ea_cons (EE.frzN (n := (mkNet zt.1 zt.2)) (ee_callV F_read cx (by decide) (A.gl rfl) (ear_vw (ev_dat (o := Own.lst (List.map D.str ((rowsW (zt))))) (ee_var v6 rfl) lies_ref) ear_nil) ⟨zt.1, zt.2, rfl, (by first | exact rd05 F (.inl rfl) (mixed_self F) | exact rd05 F (.inl rfl) (mixed_about F _) | exact rd05 F (plY_or _ _) (mixed_written F _)), rfl⟩ rfl)) (ea_cons (ee_var v2 rfl) ea_nil)) ⟨(mkNet zt.1 zt.2), zt, rfl, (by first | omega | (rw [mk05 F (.inl rfl) (mixed_self F)]; omega) | (rw [mk05 F (.inl rfl) (mixed_about F _)]; omega) | (rw [mk05 F (plY_or _ _) (mixed_written F _)]; omega)), rfl⟩ rfl))) (fun h11 => (etw_or1 (et_c (ec_neLS (xs := (rowsW (zt))) (ys := (rowsW (zt))) cx (EE.frzL (ee_call F_shown cx (by decide) (A.gl rfl) (ea_cons (ee_var v4 rfl) ea_nil) ⟨zt, rfl, (by exact ⟨hn14, hg⟩), rfl⟩ rfl)) (ee_var v6 rfl) (by exact okS_rows zt) (by exact okS_rows zt)) (by first | exact L2.nomark _ | rfl | with_unfolding_all rfl))))))) (fun e12 => ?_) (fun e12 => ?_)
          · have f_e12 := e12; try simp only [srt_length, srtT_length, List.length_take, List.length_map, List.length_range, List.length_append, List.length_cons, List.length_nil, Bool.and_eq_true, Bool.or_eq_true, Bool.not_eq_true', Bool.not_eq_false', Bool.and_eq_false_imp, Bool.or_eq_false_iff, decide_eq_true_eq, decide_eq_false_iff_not] at f_e12
            refine ss_ret (r := Sl.dat (D.bl (false))) ee_bl ?_
            exact absurd (e12.symm.trans (law05d F)) (by simp)
          · have f_e12 := e12; try simp only [srt_length, srtT_length, List.length_take, List.length_map, List.length_range, List.length_append, List.length_cons, List.length_nil, Bool.and_eq_true, Bool.or_eq_true, Bool.not_eq_true', Bool.not_eq_false', Bool.and_eq_false_imp, Bool.or_eq_false_iff, decide_eq_true_eq, decide_eq_false_iff_not] at f_e12
            refine ss_nil ?_
            show SS X _ [Sl.dat (D.scr (s)), Sl.dat (D.int ((zi : Int))), Sl.dat (eNet (zt)), Sl.dat (D.int ((mA__law_cell_at s ((5 : Int) + (zi : Int))))), Sl.dat (eNet (zt)), Sl.own (Own.lst ((((rowsW (zt)) ++ [("tie" : Str)])).map D.str)), Sl.own (Own.lst (((rowsW (zt))).map D.str)), Sl.own (oNet ((((zt).1, (zt).2 ++ [((0 : Int), (0 : Int), (0 : Int))]) : Net))), Sl.own (Own.lst (((rowsP zt.1 (abG zt.2 (mA__law_cell_at s ((5 : Int) + (zi : Int)))))).map D.str)), Sl.any] _
            refine ss_end (ss' := [Sl.dat (D.scr (s)), Sl.any, Sl.any, Sl.any, Sl.any, Sl.any, Sl.any, Sl.any, Sl.any, Sl.any]) ?_ ?_
            · exact Les.cons (.refl _) <| Les.cons (.any _) <| Les.cons (.any _) <| Les.cons (.any _) <| Les.cons (.any _) <| Les.cons (.any _) <| Les.cons (.any _) <| Les.cons (.any _) <| Les.cons (.any _) <| Les.cons (.refl _) <| .nil
            · exact rfl
  · subst hW
    show SS X _ [Sl.dat (D.scr (s)), Sl.any, Sl.any, Sl.any, Sl.any, Sl.any, Sl.any, Sl.any, Sl.any, Sl.any] _
    refine ss_ret (r := Sl.dat (D.bl (true))) ee_bl ?_
    exact hp
end
end Toy
namespace Toy
open PySem L2 Lk
/-- what is asked of the law -/
def spLaw (K : PySem.W.Frag) : Sp := fun vs H Q _ => ∃ (a : Addr) (ns : List Int), vs = [.ref a] ∧ SqL K H a (ns.map V.int) ∧ ns.length ≤ 63 ∧ ∀ H', Q (.bl true) H'
set_option maxHeartbeats 8000000 in
theorem all_mk {l : PySem.W.OpenLaw} {w : World} {K : PySem.W.Frag} {h : Heap} {mg : Str → Option Value} {fa f1 f2 f3 f4 f5 f6 f7 f8 f9 f10 f11 f12 f13 f14 f15 f16 f17 f18 f19 f20 f21 f22 f23 f24    : Addr} (X : K.In h) (G : h.Ns mainGlobals mg) (hfa : mg "law" = some (.ref fa))
    {od1 an1 od2 an2 od3 an3 od4 an4 od5 an5 od6 an6 od7 an7 od8 an8 od9 an9 od10 an10 od11 an11 od12 an12 od13 an13 od14 an14 od15 an15 od16 an16 od17 an17 od18 an18 od19 an19 od20 an20 od21 an21 od22 an22 od23 an23 od24 an24 : Option Addr} {sl1 sl2 sl3 sl4 sl5 sl6 sl7 sl8 sl9 sl10 sl11 sl12 sl13 sl14 sl15 sl16 sl17 sl18 sl19 sl20 sl21 sl22 sl23 sl24 : Array (Option Value)} {oc1 kV1 dc1 pm1 cd1 ct1 oc2 kV2 dc2 pm2 cd2 ct2 oc3 kV3 dc3 pm3 cd3 ct3 oc4 kV4 dc4 pm4 cd4 ct4 oc5 kV5 dc5 pm5 cd5 ct5 oc6 kV6 dc6 pm6 cd6 ct6 oc7 kV7 dc7 pm7 cd7 ct7 oc8 kV8 dc8 pm8 cd8 ct8 oc9 kV9 dc9 pm9 cd9 ct9 oc10 kV10 dc10 pm10 cd10 ct10 oc11 kV11 dc11 pm11 cd11 ct11 oc12 kV12 dc12 pm12 cd12 ct12 oc13 kV13 dc13 pm13 cd13 ct13 oc14 kV14 dc14 pm14 cd14 ct14 oc15 kV15 dc15 pm15 cd15 ct15 oc16 kV16 dc16 pm16 cd16 ct16 oc17 kV17 dc17 pm17 cd17 ct17 oc18 kV18 dc18 pm18 cd18 ct18 oc19 kV19 dc19 pm19 cd19 ct19 oc20 kV20 dc20 pm20 cd20 ct20 oc21 kV21 dc21 pm21 cd21 ct21 oc22 kV22 dc22 pm22 cd22 ct22 oc23 kV23 dc23 pm23 cd23 ct23 oc24 kV24 dc24 pm24 cd24 ct24 : Value} {tk_MOST_TIES tk_MOST_PLACES : Tok}
    (a1 : PySem.W.nsIn K mainGlobals "is_number" = some (some (.ref f1)))
    (l1 : K.lookup f1 = some ⟨oc1, od1, .func (PySem.W.fnOf "is_number" "is_number" (defArgs (s_is_number)) (defBody (s_is_number)) (defScope (s_is_number)) .none kV1 dc1 pm1 an1 cd1 ct1), sl1⟩) (c1 : PySem.W.codeIn K cd1 "is_number" = true) (k1 : PySem.W.keepIn K (.ref f1) = true)
    (a2 : PySem.W.nsIn K mainGlobals "pair_of" = some (some (.ref f2)))
    (l2 : K.lookup f2 = some ⟨oc2, od2, .func (PySem.W.fnOf "pair_of" "pair_of" (defArgs (s_pair_of)) (defBody (s_pair_of)) (defScope (s_pair_of)) .none kV2 dc2 pm2 an2 cd2 ct2), sl2⟩) (c2 : PySem.W.codeIn K cd2 "pair_of" = true) (k2 : PySem.W.keepIn K (.ref f2) = true)
    (a3 : PySem.W.nsIn K mainGlobals "made" = some (some (.ref f3)))
    (l3 : K.lookup f3 = some ⟨oc3, od3, .func (PySem.W.fnOf "made" "made" (defArgs (s_made)) (defBody (s_made)) (defScope (s_made)) .none kV3 dc3 pm3 an3 cd3 ct3), sl3⟩) (c3 : PySem.W.codeIn K cd3 "made" = true) (k3 : PySem.W.keepIn K (.ref f3) = true)
    (a4 : PySem.W.nsIn K mainGlobals "places_of" = some (some (.ref f4)))
    (l4 : K.lookup f4 = some ⟨oc4, od4, .func (PySem.W.fnOf "places_of" "places_of" (defArgs (s_places_of)) (defBody (s_places_of)) (defScope (s_places_of)) .none kV4 dc4 pm4 an4 cd4 ct4), sl4⟩) (c4 : PySem.W.codeIn K cd4 "places_of" = true) (k4 : PySem.W.keepIn K (.ref f4) = true)
    (a5 : PySem.W.nsIn K mainGlobals "look_over" = some (some (.ref f5)))
    (l5 : K.lookup f5 = some ⟨oc5, od5, .func (PySem.W.fnOf "look_over" "look_over" (defArgs (s_look_over)) (defBody (s_look_over)) (defScope (s_look_over)) .none kV5 dc5 pm5 an5 cd5 ct5), sl5⟩) (c5 : PySem.W.codeIn K cd5 "look_over" = true) (k5 : PySem.W.keepIn K (.ref f5) = true)
    (a6 : PySem.W.nsIn K mainGlobals "net_of" = some (some (.ref f6)))
    (l6 : K.lookup f6 = some ⟨oc6, od6, .func (PySem.W.fnOf "net_of" "net_of" (defArgs (s_net_of)) (defBody (s_net_of)) (defScope (s_net_of)) .none kV6 dc6 pm6 an6 cd6 ct6), sl6⟩) (c6 : PySem.W.codeIn K cd6 "net_of" = true) (k6 : PySem.W.keepIn K (.ref f6) = true)
    (a7 : PySem.W.nsIn K mainGlobals "number_written" = some (some (.ref f7)))
    (l7 : K.lookup f7 = some ⟨oc7, od7, .func (PySem.W.fnOf "number_written" "number_written" (defArgs (s_number_written)) (defBody (s_number_written)) (defScope (s_number_written)) .none kV7 dc7 pm7 an7 cd7 ct7), sl7⟩) (c7 : PySem.W.codeIn K cd7 "number_written" = true) (k7 : PySem.W.keepIn K (.ref f7) = true)
    (a8 : PySem.W.nsIn K mainGlobals "numbers_written" = some (some (.ref f8)))
    (l8 : K.lookup f8 = some ⟨oc8, od8, .func (PySem.W.fnOf "numbers_written" "numbers_written" (defArgs (s_numbers_written)) (defBody (s_numbers_written)) (defScope (s_numbers_written)) .none kV8 dc8 pm8 an8 cd8 ct8), sl8⟩) (c8 : PySem.W.codeIn K cd8 "numbers_written" = true) (k8 : PySem.W.keepIn K (.ref f8) = true)
    (a9 : PySem.W.nsIn K mainGlobals "read" = some (some (.ref f9)))
    (l9 : K.lookup f9 = some ⟨oc9, od9, .func (PySem.W.fnOf "read" "read" (defArgs (s_read)) (defBody (s_read)) (defScope (s_read)) .none kV9 dc9 pm9 an9 cd9 ct9), sl9⟩) (c9 : PySem.W.codeIn K cd9 "read" = true) (k9 : PySem.W.keepIn K (.ref f9) = true)
    (a10 : PySem.W.nsIn K mainGlobals "_law_cell_at" = some (some (.ref f10)))
    (l10 : K.lookup f10 = some ⟨oc10, od10, .func (PySem.W.fnOf "_law_cell_at" "_law_cell_at" (defArgs (s__law_cell_at)) (defBody (s__law_cell_at)) (defScope (s__law_cell_at)) .none kV10 dc10 pm10 an10 cd10 ct10), sl10⟩) (c10 : PySem.W.codeIn K cd10 "_law_cell_at" = true) (k10 : PySem.W.keepIn K (.ref f10) = true)
    (a11 : PySem.W.nsIn K mainGlobals "_law_own" = some (some (.ref f11)))
    (l11 : K.lookup f11 = some ⟨oc11, od11, .func (PySem.W.fnOf "_law_own" "_law_own" (defArgs (s__law_own)) (defBody (s__law_own)) (defScope (s__law_own)) .none kV11 dc11 pm11 an11 cd11 ct11), sl11⟩) (c11 : PySem.W.codeIn K cd11 "_law_own" = true) (k11 : PySem.W.keepIn K (.ref f11) = true)
    (a12 : PySem.W.nsIn K mainGlobals "_law_number" = some (some (.ref f12)))
    (l12 : K.lookup f12 = some ⟨oc12, od12, .func (PySem.W.fnOf "_law_number" "_law_number" (defArgs (s__law_number)) (defBody (s__law_number)) (defScope (s__law_number)) .none kV12 dc12 pm12 an12 cd12 ct12), sl12⟩) (c12 : PySem.W.codeIn K cd12 "_law_number" = true) (k12 : PySem.W.keepIn K (.ref f12) = true)
    (a13 : PySem.W.nsIn K mainGlobals "_law_ties" = some (some (.ref f13)))
    (l13 : K.lookup f13 = some ⟨oc13, od13, .func (PySem.W.fnOf "_law_ties" "_law_ties" (defArgs (s__law_ties)) (defBody (s__law_ties)) (defScope (s__law_ties)) .none kV13 dc13 pm13 an13 cd13 ct13), sl13⟩) (c13 : PySem.W.codeIn K cd13 "_law_ties" = true) (k13 : PySem.W.keepIn K (.ref f13) = true)
    (a14 : PySem.W.nsIn K mainGlobals "_law_poles" = some (some (.ref f14)))
    (l14 : K.lookup f14 = some ⟨oc14, od14, .func (PySem.W.fnOf "_law_poles" "_law_poles" (defArgs (s__law_poles)) (defBody (s__law_poles)) (defScope (s__law_poles)) .none kV14 dc14 pm14 an14 cd14 ct14), sl14⟩) (c14 : PySem.W.codeIn K cd14 "_law_poles" = true) (k14 : PySem.W.keepIn K (.ref f14) = true)
    (a15 : PySem.W.nsIn K mainGlobals "_law_net" = some (some (.ref f15)))
    (l15 : K.lookup f15 = some ⟨oc15, od15, .func (PySem.W.fnOf "_law_net" "_law_net" (defArgs (s__law_net)) (defBody (s__law_net)) (defScope (s__law_net)) .none kV15 dc15 pm15 an15 cd15 ct15), sl15⟩) (c15 : PySem.W.codeIn K cd15 "_law_net" = true) (k15 : PySem.W.keepIn K (.ref f15) = true)
    (a16 : PySem.W.nsIn K mainGlobals "_law_nets" = some (some (.ref f16)))
    (l16 : K.lookup f16 = some ⟨oc16, od16, .func (PySem.W.fnOf "_law_nets" "_law_nets" (defArgs (s__law_nets)) (defBody (s__law_nets)) (defScope (s__law_nets)) .none kV16 dc16 pm16 an16 cd16 ct16), sl16⟩) (c16 : PySem.W.codeIn K cd16 "_law_nets" = true) (k16 : PySem.W.keepIn K (.ref f16) = true)
    (a17 : PySem.W.nsIn K mainGlobals "line_of" = some (some (.ref f17)))
    (l17 : K.lookup f17 = some ⟨oc17, od17, .func (PySem.W.fnOf "line_of" "line_of" (defArgs (s_line_of)) (defBody (s_line_of)) (defScope (s_line_of)) .none kV17 dc17 pm17 an17 cd17 ct17), sl17⟩) (c17 : PySem.W.codeIn K cd17 "line_of" = true) (k17 : PySem.W.keepIn K (.ref f17) = true)
    (a18 : PySem.W.nsIn K mainGlobals "shown" = some (some (.ref f18)))
    (l18 : K.lookup f18 = some ⟨oc18, od18, .func (PySem.W.fnOf "shown" "shown" (defArgs (s_shown)) (defBody (s_shown)) (defScope (s_shown)) .none kV18 dc18 pm18 an18 cd18 ct18), sl18⟩) (c18 : PySem.W.codeIn K cd18 "shown" = true) (k18 : PySem.W.keepIn K (.ref f18) = true)
    (a19 : PySem.W.nsIn K mainGlobals "_law_wholes" = some (some (.ref f19)))
    (l19 : K.lookup f19 = some ⟨oc19, od19, .func (PySem.W.fnOf "_law_wholes" "_law_wholes" (defArgs (s__law_wholes)) (defBody (s__law_wholes)) (defScope (s__law_wholes)) .none kV19 dc19 pm19 an19 cd19 ct19), sl19⟩) (c19 : PySem.W.codeIn K cd19 "_law_wholes" = true) (k19 : PySem.W.keepIn K (.ref f19) = true)
    (a20 : PySem.W.nsIn K mainGlobals "_law_same_net" = some (some (.ref f20)))
    (l20 : K.lookup f20 = some ⟨oc20, od20, .func (PySem.W.fnOf "_law_same_net" "_law_same_net" (defArgs (s__law_same_net)) (defBody (s__law_same_net)) (defScope (s__law_same_net)) .none kV20 dc20 pm20 an20 cd20 ct20), sl20⟩) (c20 : PySem.W.codeIn K cd20 "_law_same_net" = true) (k20 : PySem.W.keepIn K (.ref f20) = true)
    (a21 : PySem.W.nsIn K mainGlobals "_law_line" = some (some (.ref f21)))
    (l21 : K.lookup f21 = some ⟨oc21, od21, .func (PySem.W.fnOf "_law_line" "_law_line" (defArgs (s__law_line)) (defBody (s__law_line)) (defScope (s__law_line)) .none kV21 dc21 pm21 an21 cd21 ct21), sl21⟩) (c21 : PySem.W.codeIn K cd21 "_law_line" = true) (k21 : PySem.W.keepIn K (.ref f21) = true)
    (a22 : PySem.W.nsIn K mainGlobals "_law_about" = some (some (.ref f22)))
    (l22 : K.lookup f22 = some ⟨oc22, od22, .func (PySem.W.fnOf "_law_about" "_law_about" (defArgs (s__law_about)) (defBody (s__law_about)) (defScope (s__law_about)) .none kV22 dc22 pm22 an22 cd22 ct22), sl22⟩) (c22 : PySem.W.codeIn K cd22 "_law_about" = true) (k22 : PySem.W.keepIn K (.ref f22) = true)
    (a23 : PySem.W.nsIn K mainGlobals "_law_written" = some (some (.ref f23)))
    (l23 : K.lookup f23 = some ⟨oc23, od23, .func (PySem.W.fnOf "_law_written" "_law_written" (defArgs (s__law_written)) (defBody (s__law_written)) (defScope (s__law_written)) .none kV23 dc23 pm23 an23 cd23 ct23), sl23⟩) (c23 : PySem.W.codeIn K cd23 "_law_written" = true) (k23 : PySem.W.keepIn K (.ref f23) = true)
    (a24 : PySem.W.nsIn K mainGlobals "law" = some (some (.ref f24)))
    (l24 : K.lookup f24 = some ⟨oc24, od24, .func (PySem.W.fnOf "law" "law" (defArgs (s_law)) (defBody (s_law)) (defScope (s_law)) .none kV24 dc24 pm24 an24 cd24 ct24), sl24⟩) (c24 : PySem.W.codeIn K cd24 "law" = true) (k24 : PySem.W.keepIn K (.ref f24) = true)
    (z_sorted : PySem.W.nsIn K mainGlobals "sorted" = some none)
    (z_list : PySem.W.nsIn K mainGlobals "list" = some none)
    (z_len : PySem.W.nsIn K mainGlobals "len" = some none)
    (z_int : PySem.W.nsIn K mainGlobals "int" = some none)
    (z_tuple : PySem.W.nsIn K mainGlobals "tuple" = some none)
    (z_enumerate : PySem.W.nsIn K mainGlobals "enumerate" = some none)
    (z_range : PySem.W.nsIn K mainGlobals "range" = some none)
    (z_min : PySem.W.nsIn K mainGlobals "min" = some none)
    (z_max : PySem.W.nsIn K mainGlobals "max" = some none)
    (z_str : PySem.W.nsIn K mainGlobals "str" = some none)
    (z_isinstance : PySem.W.nsIn K mainGlobals "isinstance" = some none)
    (z_bool : PySem.W.nsIn K mainGlobals "bool" = some none)
    (z_all : PySem.W.nsIn K mainGlobals "all" = some none)
    (q_MOST_TIES : PySem.W.nsIn K mainGlobals "MOST_TIES" = some (some (.int (14 : Int) tk_MOST_TIES)))
    (q_MOST_PLACES : PySem.W.nsIn K mainGlobals "MOST_PLACES" = some (some (.int (8 : Int) tk_MOST_PLACES))) :
    ∃ fd : FuncData, (∀ (s : Shared) (v : Value), BindsTo s fd ⟨[v], []⟩ [("_law_script", v)]) ∧ ∀ base : Heap, K.In base → base.Ns mainGlobals mg → FnOk l.prog w K mg base CX0 6 fa fd ["_law_script"] (spLaw K) := by
  have e := hfa.symm.trans (PySem.W.mg_of X G a24)
  cases e
  have F1 := fun_mk (st := s_is_number) l1 c1 k1
  have b1 := F1.binds (ps := ["number"]) fun _ _ _ _ _ _ us hl => match us, hl with | [_], _ => rfl
  have F2 := fun_mk (st := s_pair_of) l2 c2 k2
  have b2 := F2.binds (ps := ["one", "other"]) fun _ _ _ _ _ _ us hl => match us, hl with | [_, _], _ => rfl
  have F3 := fun_mk (st := s_made) l3 c3 k3
  have b3 := F3.binds (ps := ["poles", "ties"]) fun _ _ _ _ _ _ us hl => match us, hl with | [_, _], _ => rfl
  have F4 := fun_mk (st := s_places_of) l4 c4 k4
  have b4 := F4.binds (ps := ["net"]) fun _ _ _ _ _ _ us hl => match us, hl with | [_], _ => rfl
  have F5 := fun_mk (st := s_look_over) l5 c5 k5
  have b5 := F5.binds (ps := ["poles", "ties"]) fun _ _ _ _ _ _ us hl => match us, hl with | [_, _], _ => rfl
  have F6 := fun_mk (st := s_net_of) l6 c6 k6
  have b6 := F6.binds (ps := ["poles", "ties"]) fun _ _ _ _ _ _ us hl => match us, hl with | [_, _], _ => rfl
  have F7 := fun_mk (st := s_number_written) l7 c7 k7
  have b7 := F7.binds (ps := ["word"]) fun _ _ _ _ _ _ us hl => match us, hl with | [_], _ => rfl
  have F8 := fun_mk (st := s_numbers_written) l8 c8 k8
  have b8 := F8.binds (ps := ["text", "word", "many"]) fun _ _ _ _ _ _ us hl => match us, hl with | [_, _, _], _ => rfl
  have F9 := fun_mk (st := s_read) l9 c9 k9
  have b9 := F9.binds (ps := ["rows"]) fun _ _ _ _ _ _ us hl => match us, hl with | [_], _ => rfl
  have F10 := fun_mk (st := s__law_cell_at) l10 c10 k10
  have b10 := F10.binds (ps := ["_law_script", "_law_k"]) fun _ _ _ _ _ _ us hl => match us, hl with | [_, _], _ => rfl
  have F11 := fun_mk (st := s__law_own) l11 c11 k11
  have b11 := F11.binds (ps := ["_law_script"]) fun _ _ _ _ _ _ us hl => match us, hl with | [_], _ => rfl
  have F12 := fun_mk (st := s__law_number) l12 c12 k12
  have b12 := F12.binds (ps := ["_law_script", "_law_seat", "_law_k"]) fun _ _ _ _ _ _ us hl => match us, hl with | [_, _, _], _ => rfl
  have F13 := fun_mk (st := s__law_ties) l13 c13 k13
  have b13 := F13.binds (ps := ["_law_script", "_law_start", "_law_most", "_law_many"]) fun _ _ _ _ _ _ us hl => match us, hl with | [_, _, _, _], _ => rfl
  have F14 := fun_mk (st := s__law_poles) l14 c14 k14
  have b14 := F14.binds (ps := ["_law_script", "_law_many"]) fun _ _ _ _ _ _ us hl => match us, hl with | [_, _], _ => rfl
  have F15 := fun_mk (st := s__law_net) l15 c15 k15
  have b15 := F15.binds (ps := ["_law_poles_here", "_law_ties_here"]) fun _ _ _ _ _ _ us hl => match us, hl with | [_, _], _ => rfl
  have F16 := fun_mk (st := s__law_nets) l16 c16 k16
  have b16 := F16.binds (ps := ["_law_script"]) fun _ _ _ _ _ _ us hl => match us, hl with | [_], _ => rfl
  have F17 := fun_mk (st := s_line_of) l17 c17 k17
  have b17 := F17.binds (ps := ["word", "numbers"]) fun _ _ _ _ _ _ us hl => match us, hl with | [_, _], _ => rfl
  have F18 := fun_mk (st := s_shown) l18 c18 k18
  have b18 := F18.binds (ps := ["net"]) fun _ _ _ _ _ _ us hl => match us, hl with | [_], _ => rfl
  have F19 := fun_mk (st := s__law_wholes) l19 c19 k19
  have b19 := F19.binds (ps := ["_law_found", "_law_many"]) fun _ _ _ _ _ _ us hl => match us, hl with | [_, _], _ => rfl
  have F20 := fun_mk (st := s__law_same_net) l20 c20 k20
  have b20 := F20.binds (ps := ["_law_found", "_law_due"]) fun _ _ _ _ _ _ us hl => match us, hl with | [_, _], _ => rfl
  have F21 := fun_mk (st := s__law_line) l21 c21 k21
  have b21 := F21.binds (ps := ["_law_word", "_law_numbers"]) fun _ _ _ _ _ _ us hl => match us, hl with | [_, _], _ => rfl
  have F22 := fun_mk (st := s__law_about) l22 c22 k22
  have b22 := F22.binds (ps := ["_law_rows", "_law_cell"]) fun _ _ _ _ _ _ us hl => match us, hl with | [_, _], _ => rfl
  have F23 := fun_mk (st := s__law_written) l23 c23 k23
  have b23 := F23.binds (ps := ["_law_net_here", "_law_cell"]) fun _ _ _ _ _ _ us hl => match us, hl with | [_, _], _ => rfl
  have F24 := fun_mk (st := s_law) l24 c24 k24
  have b24 := F24.binds (ps := ["_law_script"]) fun _ _ _ _ _ _ us hl => match us, hl with | [_], _ => rfl
  refine ⟨PySem.W.fnOf "law" "law" (defArgs (s_law)) (defBody (s_law)) (defScope (s_law)) .none kV24 dc24 pm24 an24 cd24 ct24, fun s v => .of_eq rfl, fun base _ _ => ?_⟩
  have G1 := fn_of' F1 sc_is_number (PySem.W.mg_of X G a1) b1 rfl (by decide) (body_is_number (P := l.prog) (w := w) (K := K) (mg := mg) (base := base) )
  have G2 := fn_of' F2 sc_pair_of (PySem.W.mg_of X G a2) b2 rfl (by decide) (body_pair_of (P := l.prog) (w := w) (K := K) (mg := mg) (base := base) )
  have G3 := fn_of' F3 sc_made (PySem.W.mg_of X G a3) b3 rfl (by decide) (body_made (P := l.prog) (w := w) (K := K) (mg := mg) (base := base) (PySem.W.mg_none_of X G z_sorted) G2)
  have G4 := fnv_of F4 sc_places_of (PySem.W.mg_of X G a4) b4 rfl (by decide) (body_places_of (P := l.prog) (w := w) (K := K) (mg := mg) (base := base) (PySem.W.mg_none_of X G z_sorted))
  have G5 := fn_of' F5 sc_look_over (PySem.W.mg_of X G a5) b5 rfl (by decide) (body_look_over (P := l.prog) (w := w) (K := K) (mg := mg) (base := base) (lv := 1) (l1 := 1) (by decide) (PySem.W.mg_none_of X G z_list) G1)
  have G6 := fn_of' F6 sc_net_of (PySem.W.mg_of X G a6) b6 rfl (by decide) (body_net_of (P := l.prog) (w := w) (K := K) (mg := mg) (base := base) (lv := 2) (l1 := 2) (l2 := 2) (l3 := 1) (by decide) (by decide) (by decide) (PySem.W.mg_none_of X G z_len) ⟨_, PySem.W.mg_of X G q_MOST_TIES⟩ ⟨_, PySem.W.mg_of X G q_MOST_PLACES⟩ G5 G3 G4)
  have G7 := fn_of' F7 sc_number_written (PySem.W.mg_of X G a7) b7 rfl (by decide) (body_number_written (P := l.prog) (w := w) (K := K) (mg := mg) (base := base) (PySem.W.mg_none_of X G z_len) (PySem.W.mg_none_of X G z_int))
  have G8 := fn_of' F8 sc_numbers_written (PySem.W.mg_of X G a8) b8 rfl (by decide) (body_numbers_written (P := l.prog) (w := w) (K := K) (mg := mg) (base := base) (lv := 1) (l1 := 1) (by decide) (PySem.W.mg_none_of X G z_len) (PySem.W.mg_none_of X G z_tuple) G7)
  have G9 := fnv_of F9 sc_read (PySem.W.mg_of X G a9) b9 rfl (by decide) (body_read (P := l.prog) (w := w) (K := K) (mg := mg) (base := base) (lv := 3) (l1 := 2) (l2 := 3) (by decide) (by decide) (PySem.W.mg_none_of X G z_len) (PySem.W.mg_none_of X G z_enumerate) G8 G6)
  have G10 := fn_of' F10 sc__law_cell_at (PySem.W.mg_of X G a10) b10 rfl (by decide) (body__law_cell_at (P := l.prog) (w := w) (K := K) (mg := mg) (base := base) (PySem.W.mg_none_of X G z_len))
  have G11 := fn_of' F11 sc__law_own (PySem.W.mg_of X G a11) b11 rfl (by decide) (body__law_own (P := l.prog) (w := w) (K := K) (mg := mg) (base := base) G10)
  have G12 := fn_of' F12 sc__law_number (PySem.W.mg_of X G a12) b12 rfl (by decide) (body__law_number (P := l.prog) (w := w) (K := K) (mg := mg) (base := base) (PySem.W.mg_none_of X G z_range) G10 G11)
  have G13 := fn_of' F13 sc__law_ties (PySem.W.mg_of X G a13) b13 rfl (by decide) (body__law_ties (P := l.prog) (w := w) (K := K) (mg := mg) (base := base) (PySem.W.mg_none_of X G z_enumerate) G11 G10 G12)
  have G14 := fn_of' F14 sc__law_poles (PySem.W.mg_of X G a14) b14 rfl (by decide) (body__law_poles (P := l.prog) (w := w) (K := K) (mg := mg) (base := base) G10 G11 G12)
  have G15 := fn_of' F15 sc__law_net (PySem.W.mg_of X G a15) b15 rfl (by decide) (body__law_net (P := l.prog) (w := w) (K := K) (mg := mg) (base := base) (PySem.W.mg_none_of X G z_min) (PySem.W.mg_none_of X G z_max) (PySem.W.mg_none_of X G z_sorted))
  have G16 := fn_of' F16 sc__law_nets (PySem.W.mg_of X G a16) b16 rfl (by decide) (body__law_nets (P := l.prog) (w := w) (K := K) (mg := mg) (base := base) (PySem.W.mg_none_of X G z_len) G10 G15 G14 G13)
  have G17 := fn_of' F17 sc_line_of (PySem.W.mg_of X G a17) b17 rfl (by decide) (body_line_of (P := l.prog) (w := w) (K := K) (mg := mg) (base := base) (PySem.W.mg_none_of X G z_str))
  have G18 := fn_of' F18 sc_shown (PySem.W.mg_of X G a18) b18 rfl (by decide) (body_shown (P := l.prog) (w := w) (K := K) (mg := mg) (base := base) G17)
  have G19 := fn_of' F19 sc__law_wholes (PySem.W.mg_of X G a19) b19 rfl (by decide) (body__law_wholes (P := l.prog) (w := w) (K := K) (mg := mg) (base := base) (PySem.W.mg_none_of X G z_isinstance) (PySem.W.mg_none_of X G z_tuple) (PySem.W.mg_none_of X G z_len) (PySem.W.mg_none_of X G z_int) (PySem.W.mg_none_of X G z_bool) (PySem.W.mg_none_of X G z_all))
  have G20 := fn_of' F20 sc__law_same_net (PySem.W.mg_of X G a20) b20 rfl (by decide) (body__law_same_net (P := l.prog) (w := w) (K := K) (mg := mg) (base := base) (PySem.W.mg_none_of X G z_isinstance) (PySem.W.mg_none_of X G z_tuple) (PySem.W.mg_none_of X G z_len) (PySem.W.mg_none_of X G z_list) (PySem.W.mg_none_of X G z_all) G19)
  have G21 := fn_of' F21 sc__law_line (PySem.W.mg_of X G a21) b21 rfl (by decide) (body__law_line (P := l.prog) (w := w) (K := K) (mg := mg) (base := base) (PySem.W.mg_none_of X G z_str))
  have G22 := fn_of' F22 sc__law_about (PySem.W.mg_of X G a22) b22 rfl (by decide) (body__law_about (P := l.prog) (w := w) (K := K) (mg := mg) (base := base) (PySem.W.mg_none_of X G z_len))
  have G23 := fn_of' F23 sc__law_written (PySem.W.mg_of X G a23) b23 rfl (by decide) (body__law_written (P := l.prog) (w := w) (K := K) (mg := mg) (base := base) (PySem.W.mg_none_of X G z_enumerate) G21 G22)
  refine (fnok_of F24 sc_law rfl (by decide) (body_law (P := l.prog) (w := w) (K := K) (mg := mg) (base := base) (PySem.W.mg_none_of X G z_enumerate) (PySem.W.mg_none_of X G z_list) (PySem.W.mg_none_of X G z_isinstance) (PySem.W.mg_none_of X G z_str) (PySem.W.mg_none_of X G z_all) G16 G10 G18 G9 G20 G22 G23)).imp fun vs H Q E q => ?_
  obtain ⟨a, ns, rfl, hS, hl, c⟩ := q
  refine ⟨rfl, H, [.scr ns], fun r => r = .dat (.bl true), .refl H, .cons (.scr hS) .nil, ⟨ns, rfl, hl, rfl⟩, fun r G' H' v e t z => ?_⟩
  subst e
  cases Rep.bl_inv z
  exact c H'
end Toy
open PySem PySem.W PyProof.Rows
set_option maxRecDepth 100000 in
set_option maxHeartbeats 0 in
theorem PySem.Challenge.cw_linkorcut_k05_whole_read_again_holds : PySem.Challenge.rw_linkorcut_k05_whole_read_again.Holds := by
  w_on; o_law; k_head; (case hw => w_witness2)
  k_fill
  refine L2.walk_of (l := PySem.Challenge.rw_linkorcut_k05_whole_read_again) (n := 63) (k := 6) (x := "_law_script") (CX := fun _ => L2.CX0) (sp := fun w => Toy.spLaw _) rfl (by decide) rfl ⟨rfl, by decide, by decide⟩ (fun w h Y => PySem.W.kIn_of Y) ?F (fun _ _ a ns hl _ hS => ⟨a, ns, rfl, hS, hl, fun _ => rfl⟩) (fun _ _ _ _ _ z => z)
  case F =>
    intro w mg fa h KX G hmg
    refine' Toy.all_mk KX G hmg ?a1 ?l1 ?c1 ?k1 ?a2 ?l2 ?c2 ?k2 ?a3 ?l3 ?c3 ?k3 ?a4 ?l4 ?c4 ?k4 ?a5 ?l5 ?c5 ?k5 ?a6 ?l6 ?c6 ?k6 ?a7 ?l7 ?c7 ?k7 ?a8 ?l8 ?c8 ?k8 ?a9 ?l9 ?c9 ?k9 ?a10 ?l10 ?c10 ?k10 ?a11 ?l11 ?c11 ?k11 ?a12 ?l12 ?c12 ?k12 ?a13 ?l13 ?c13 ?k13 ?a14 ?l14 ?c14 ?k14 ?a15 ?l15 ?c15 ?k15 ?a16 ?l16 ?c16 ?k16 ?a17 ?l17 ?c17 ?k17 ?a18 ?l18 ?c18 ?k18 ?a19 ?l19 ?c19 ?k19 ?a20 ?l20 ?c20 ?k20 ?a21 ?l21 ?c21 ?k21 ?a22 ?l22 ?c22 ?k22 ?a23 ?l23 ?c23 ?k23 ?a24 ?l24 ?c24 ?k24 ?z_sorted ?z_list ?z_len ?z_int ?z_tuple ?z_enumerate ?z_range ?z_min ?z_max ?z_str ?z_isinstance ?z_bool ?z_all ?q_MOST_TIES ?q_MOST_PLACES
    (case a1 => k_is)
    (case l1 => k_is)
    (case c1 => k_is)
    (case k1 => k_is)
    (case a2 => k_is)
    (case l2 => k_is)
    (case c2 => k_is)
    (case k2 => k_is)
    (case a3 => k_is)
    (case l3 => k_is)
    (case c3 => k_is)
    (case k3 => k_is)
    (case a4 => k_is)
    (case l4 => k_is)
    (case c4 => k_is)
    (case k4 => k_is)
    (case a5 => k_is)
    (case l5 => k_is)
    (case c5 => k_is)
    (case k5 => k_is)
    (case a6 => k_is)
    (case l6 => k_is)
    (case c6 => k_is)
    (case k6 => k_is)
    (case a7 => k_is)
    (case l7 => k_is)
    (case c7 => k_is)
    (case k7 => k_is)
    (case a8 => k_is)
    (case l8 => k_is)
    (case c8 => k_is)
    (case k8 => k_is)
    (case a9 => k_is)
    (case l9 => k_is)
    (case c9 => k_is)
    (case k9 => k_is)
    (case a10 => k_is)
    (case l10 => k_is)
    (case c10 => k_is)
    (case k10 => k_is)
    (case a11 => k_is)
    (case l11 => k_is)
    (case c11 => k_is)
    (case k11 => k_is)
    (case a12 => k_is)
    (case l12 => k_is)
    (case c12 => k_is)
    (case k12 => k_is)
    (case a13 => k_is)
    (case l13 => k_is)
    (case c13 => k_is)
    (case k13 => k_is)
    (case a14 => k_is)
    (case l14 => k_is)
    (case c14 => k_is)
    (case k14 => k_is)
    (case a15 => k_is)
    (case l15 => k_is)
    (case c15 => k_is)
    (case k15 => k_is)
    (case a16 => k_is)
    (case l16 => k_is)
    (case c16 => k_is)
    (case k16 => k_is)
    (case a17 => k_is)
    (case l17 => k_is)
    (case c17 => k_is)
    (case k17 => k_is)
    (case a18 => k_is)
    (case l18 => k_is)
    (case c18 => k_is)
    (case k18 => k_is)
    (case a19 => k_is)
    (case l19 => k_is)
    (case c19 => k_is)
    (case k19 => k_is)
    (case a20 => k_is)
    (case l20 => k_is)
    (case c20 => k_is)
    (case k20 => k_is)
    (case a21 => k_is)
    (case l21 => k_is)
    (case c21 => k_is)
    (case k21 => k_is)
    (case a22 => k_is)
    (case l22 => k_is)
    (case c22 => k_is)
    (case k22 => k_is)
    (case a23 => k_is)
    (case l23 => k_is)
    (case c23 => k_is)
    (case k23 => k_is)
    (case a24 => k_is)
    (case l24 => k_is)
    (case c24 => k_is)
    (case k24 => k_is)
    (case z_sorted => k_is)
    (case z_list => k_is)
    (case z_len => k_is)
    (case z_int => k_is)
    (case z_tuple => k_is)
    (case z_enumerate => k_is)
    (case z_range => k_is)
    (case z_min => k_is)
    (case z_max => k_is)
    (case z_str => k_is)
    (case z_isinstance => k_is)
    (case z_bool => k_is)
    (case z_all => k_is)
    (case q_MOST_TIES => k_is)
    (case q_MOST_PLACES => k_is)
