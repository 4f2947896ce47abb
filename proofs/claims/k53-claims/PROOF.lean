import PyProof.Rows.All
import Wide.All
import OpenK.AllK
import Wide.FinOn
import HandS.ForMost
import HandS.ForExc
import HandS.IsInst
import HandS.Style
import HandS.Conv
import KE.DataEq
import KE.DataCmp
import HandS.TupAny
import PyProof.StrOps2
import HandS.SortInts
import PyProof.Rows.SortShellAny
import HandS.SortRule
import HandS.More
import HandS.Replace
import HandS.Words
import HandS.Zip
import KE.GoesEnum
import HandS.RevRange
import HandS.NoneIn
import HandS.SetKeys
import HandS.ReplaceDef
import HandS.ReplaceLit
import PyProof.Rows.StrStrike
import PySem.Challenge.RW_booksowed_k53_things_and_claims
set_option Elab.async false
set_option linter.all false
set_option maxRecDepth 100000
namespace PW
open PySem L2
abbrev LSt := L2.St
abbrev Fg := PySem.W.Frag

/-! ### data -/
/-- a key of a dict -/
inductive Kd where
  | i (z : Int) | s (t : List Nat)
  deriving DecidableEq
inductive D where
  | non | bl (b : Bool) | int (i : Int) | str (s : List Nat) | tup (ds : List D) | lst (ds : List D) | dct (ks : List Kd) (ds : List D) | scr (ns : List Int) | flz (ds : List D)
abbrev tx (s : List Nat) : Str := ⟨s.toArray⟩

/-- not a mutable node at its top -/
def D.leafy : D → Bool
  | .lst _ => false
  | .dct _ _ => false
  | _ => true
/-- no dict at its top -/
def D.nd : D → Bool
  | .dct _ _ => false
  | _ => true
theorem D.leafy_nd {d : D} (h : d.leafy = true) : d.nd = true := by cases d <;> first | rfl | cases h
theorem D.leafs_nd {ds : List D} (h : ds.all D.leafy = true) : ds.all D.nd = true := by
  rw [List.all_eq_true] at h ⊢
  exact fun d z => D.leafy_nd (h d z)
def Kd.d : Kd → D
  | .i z => .int z
  | .s t => .str t
def Kd.k : Kd → Key
  | .i z => .inl z
  | .s t => .inr (tx t)
/-- what a dict holds -/
def dkv (ks : List Kd) (xs : List V) : List (Key × V) := (ks.map Kd.k).zip xs

def Ext (F H : Hp) : Prop := ∀ a o, F a = some o → H a = some o
theorem Ext.refl (H : Hp) : Ext H H := fun _ _ h => h
theorem Ext.trans {A B C : Hp} (h : Ext A B) (g : Ext B C) : Ext A C := fun a o e => g a o (h a o e)
theorem Ext.new {H : Hp} {p : Addr} {o : HO} (h : H p = none) : Ext H (upd H p o) := fun a u e => by
  rw [upd_ne (ne_of_none e h)]; exact e
theorem Ext.rd {F H : Hp} {a : Addr} {u : HO} (e : Ext F H) (h : Rd F a u) : Rd H a u := by
  rcases h with h | ⟨o, h⟩
  · exact .inl (e _ _ h)
  · exact .inr ⟨o, e _ _ h⟩
theorem Ext.sqL {K : Fg} {F H : Hp} {a : Addr} {xs : List V} (e : Ext F H) (h : SqL K F a xs) : SqL K H a xs := by
  rcases h with h | h
  · exact .inl (e.rd h)
  · exact .inr h
theorem Ext.sqT {K : Fg} {F H : Hp} {a : Addr} {xs : List V} (e : Ext F H) (h : SqT K F a xs) : SqT K H a xs := by
  rcases h with h | h
  · exact .inl (e.rd h)
  · exact .inr h

mutual
inductive Rep (K : Fg) (F : Hp) : D → V → Prop
  | non : Rep K F .non .non
  | bl (b : Bool) : Rep K F (.bl b) (.bl b)
  | int (i : Int) : Rep K F (.int i) (.int i)
  | str (s : List Nat) : Rep K F (.str s) (.str (tx s))
  | tup {a : Addr} {xs : List V} {ds : List D} : SqT K F a xs → RepL K F ds xs → Rep K F (.tup ds) (.ref a)
  | lst {a : Addr} {xs : List V} {ds : List D} : Rd F a (.lst xs) → RepL K F ds xs → Rep K F (.lst ds) (.ref a)
  | scr {a : Addr} (ns : List Int) : SqL K F a (ns.map V.int) → Rep K F (.scr ns) (.ref a)
  | flz {a : Addr} {xs : List V} {ds : List D} : Rd F a (.lst xs) → RepL K F ds xs → Rep K F (.flz ds) (.ref a)
  | dct {a : Addr} {ks : List Kd} {xs : List V} {ds : List D} : Rd F a (.dK (dkv ks xs)) → ks.Nodup ∧ ks.length = ds.length → RepL K F ds xs → Rep K F (.dct ks ds) (.ref a)
inductive RepL (K : Fg) (F : Hp) : List D → List V → Prop
  | nil : RepL K F [] []
  | cons {d : D} {v : V} {ds : List D} {xs : List V} {n : d.nd = true} : Rep K F d v → RepL K F ds xs → RepL K F (d :: ds) (v :: xs)
end

mutual
theorem Rep.mono {K : Fg} {F H : Hp} (e : Ext F H) : ∀ {d : D} {v : V}, Rep K F d v → Rep K H d v
  | _, _, .non => .non
  | _, _, .bl b => .bl b
  | _, _, .int i => .int i
  | _, _, .str s => .str s
  | _, _, .tup h r => .tup (e.sqT h) (RepL.mono e r)
  | _, _, .lst h r => .lst (e.rd h) (RepL.mono e r)
  | _, _, .scr ns h => .scr ns (e.sqL h)
  | _, _, .flz h r => .flz (e.rd h) (RepL.mono e r)
  | _, _, .dct h n r => .dct (e.rd h) n (RepL.mono e r)
theorem RepL.mono {K : Fg} {F H : Hp} (e : Ext F H) : ∀ {ds : List D} {xs : List V}, RepL K F ds xs → RepL K H ds xs
  | _, _, .nil => .nil
  | _, _, .cons (n := n) h r => .cons (n := n) (Rep.mono e h) (RepL.mono e r)
end
theorem RepL.length {K : Fg} {F : Hp} : ∀ {ds : List D} {xs : List V}, RepL K F ds xs → ds.length = xs.length
  | _, _, .nil => rfl
  | _, _, .cons _ r => by rw [List.length_cons, List.length_cons, r.length]
theorem RepL.get {K : Fg} {F : Hp} : ∀ {ds : List D} {xs : List V} {i : Nat} {d : D}, RepL K F ds xs → ds[i]? = some d → ∃ v, xs[i]? = some v ∧ Rep K F d v
  | _, _, _, _, .nil, e => by simp at e
  | _, _, 0, _, .cons h _, e => by simp at e; subst e; exact ⟨_, rfl, h⟩
  | _, _, i + 1, _, .cons _ r, e => by
    obtain ⟨v, h1, h2⟩ := RepL.get (i := i) r (by simpa using e)
    exact ⟨v, by simpa using h1, h2⟩
theorem RepL.append {K : Fg} {F : Hp} : ∀ {ds es : List D} {xs ys : List V}, RepL K F ds xs → RepL K F es ys → RepL K F (ds ++ es) (xs ++ ys)
  | _, _, _, _, .nil, s => s
  | _, _, _, _, .cons (n := n) h r, s => .cons (n := n) h (RepL.append r s)
theorem RepL.take {K : Fg} {F : Hp} : ∀ {ds : List D} {xs : List V} (n : Nat), RepL K F ds xs → RepL K F (ds.take n) (xs.take n)
  | _, _, 0, _ => .nil
  | _, _, _ + 1, .nil => .nil
  | _, _, n + 1, .cons (n := nn) h r => .cons (n := nn) h (RepL.take n r)
theorem RepL.drop {K : Fg} {F : Hp} : ∀ {ds : List D} {xs : List V} (n : Nat), RepL K F ds xs → RepL K F (ds.drop n) (xs.drop n)
  | _, _, 0, r => r
  | _, _, _ + 1, .nil => .nil
  | _, _, n + 1, .cons _ r => RepL.drop n r

theorem RepL.nd {K : Fg} {F : Hp} : ∀ {ds : List D} {xs : List V}, RepL K F ds xs → ds.all D.nd = true
  | _, _, .nil => rfl
  | _, _, .cons (n := n) _ r => by rw [List.all_cons, n, r.nd]; rfl
theorem all_get {p : D → Bool} {ds : List D} {i : Nat} {d : D} (h : ds.all p = true) (e : ds[i]? = some d) : p d = true := List.all_eq_true.mp h d (List.mem_of_getElem? e)
/-! an owned tree: its lists are at fp, its leaves are frozen -/
mutual
inductive Own (K : Fg) (F H : Hp) : D → V → List Addr → Prop
  | leaf {d : D} {v : V} : d.leafy = true → Rep K F d v → Own K F H d v []
  | lst {a : Addr} {xs : List V} {ds : List D} {fp : List Addr} : H a = some (.lst xs) → OwnL K F H ds xs fp → Own K F H (.lst ds) (.ref a) (a :: fp)
  | dct {a : Addr} {ks : List Kd} {xs : List V} {ds : List D} {fp : List Addr} : H a = some (.dK (dkv ks xs)) → ks.Nodup ∧ ks.length = ds.length → OwnL K F H ds xs fp → Own K F H (.dct ks ds) (.ref a) (a :: fp)
inductive OwnL (K : Fg) (F H : Hp) : List D → List V → List Addr → Prop
  | nil : OwnL K F H [] [] []
  | cons {d : D} {v : V} {ds : List D} {xs : List V} {fp fq : List Addr} {n : d.nd = true} : Own K F H d v fp → OwnL K F H ds xs fq → OwnL K F H (d :: ds) (v :: xs) (fp ++ fq)
end

mutual
theorem Own.mono {K : Fg} {F F' H H' : Hp} (e : Ext F F') : ∀ {d : D} {v : V} {fp : List Addr}, Own K F H d v fp → (∀ a ∈ fp, H' a = H a) → Own K F' H' d v fp
  | _, _, _, .leaf l r, _ => .leaf l (r.mono e)
  | _, _, _, .lst h r, k => .lst ((k _ List.mem_cons_self).trans h) (OwnL.mono e r fun a z => k a (List.mem_cons_of_mem _ z))
  | _, _, _, .dct h n r, k => .dct ((k _ List.mem_cons_self).trans h) n (OwnL.mono e r fun a z => k a (List.mem_cons_of_mem _ z))
theorem OwnL.mono {K : Fg} {F F' H H' : Hp} (e : Ext F F') : ∀ {ds : List D} {xs : List V} {fp : List Addr}, OwnL K F H ds xs fp → (∀ a ∈ fp, H' a = H a) → OwnL K F' H' ds xs fp
  | _, _, _, .nil, _ => .nil
  | _, _, _, .cons (n := n) h r, k => .cons (n := n) (Own.mono e h fun a z => k a (List.mem_append_left _ z)) (OwnL.mono e r fun a z => k a (List.mem_append_right _ z))
end
mutual
theorem Own.there {K : Fg} {F H : Hp} : ∀ {d : D} {v : V} {fp : List Addr}, Own K F H d v fp → ∀ a ∈ fp, ∃ o, H a = some o
  | _, _, _, .leaf _ _, _, z => nomatch z
  | _, _, _, .lst h r, a, z => by
    rcases List.mem_cons.mp z with e | z
    · subst e; exact ⟨_, h⟩
    · exact OwnL.there r a z
  | _, _, _, .dct h _ r, a, z => by
    rcases List.mem_cons.mp z with e | z
    · subst e; exact ⟨_, h⟩
    · exact OwnL.there r a z
theorem OwnL.there {K : Fg} {F H : Hp} : ∀ {ds : List D} {xs : List V} {fp : List Addr}, OwnL K F H ds xs fp → ∀ a ∈ fp, ∃ o, H a = some o
  | _, _, _, .nil, _, z => nomatch z
  | _, _, _, .cons h r, a, z => (List.mem_append.mp z).elim (fun q => Own.there h a q) fun q => OwnL.there r a q
end
theorem Own.ext {K : Fg} {F F' H H' : Hp} (e : Ext F F') (k : Ext H H') {d : D} {v : V} {fp : List Addr} (o : Own K F H d v fp) : Own K F' H' d v fp :=
  o.mono e fun a z => let ⟨_, h⟩ := o.there a z; (k _ _ h).trans h.symm
mutual
/-- what is owned, frozen -/
theorem Own.freeze {K : Fg} {F G H : Hp} (e : Ext F G) : ∀ {d : D} {v : V} {fp : List Addr}, Own K F H d v fp → (∀ a ∈ fp, G a = H a) → Rep K G d v
  | _, _, _, .leaf l r, _ => r.mono e
  | _, _, _, .lst h r, k => .lst (.inl ((k _ List.mem_cons_self).trans h)) (OwnL.freeze e r fun a z => k a (List.mem_cons_of_mem _ z))
  | _, _, _, .dct h n r, k => .dct (.inl ((k _ List.mem_cons_self).trans h)) n (OwnL.freeze e r fun a z => k a (List.mem_cons_of_mem _ z))
theorem OwnL.freeze {K : Fg} {F G H : Hp} (e : Ext F G) : ∀ {ds : List D} {xs : List V} {fp : List Addr}, OwnL K F H ds xs fp → (∀ a ∈ fp, G a = H a) → RepL K G ds xs
  | _, _, _, .nil, _ => .nil
  | _, _, _, .cons (n := n) h r, k => .cons (n := n) (Own.freeze e h fun a z => k a (List.mem_append_left _ z)) (OwnL.freeze e r fun a z => k a (List.mem_append_right _ z))
end
theorem Own.leaf_inv {K : Fg} {F H : Hp} {d : D} {v : V} {fp : List Addr} (o : Own K F H d v fp) (l : d.leafy = true) : Rep K F d v ∧ fp = [] := by
  cases o with
  | leaf _ r => exact ⟨r, rfl⟩
  | lst _ _ => cases l
  | dct _ _ _ => cases l
theorem Own.lst_inv {K : Fg} {F H : Hp} {ds : List D} {v : V} {fp : List Addr} (o : Own K F H (.lst ds) v fp) : ∃ a xs fq, v = .ref a ∧ H a = some (.lst xs) ∧ OwnL K F H ds xs fq ∧ fp = a :: fq := by
  cases o with
  | leaf l _ => cases l
  | lst h r => exact ⟨_, _, _, rfl, h, r, rfl⟩
theorem Own.dct_inv {K : Fg} {F H : Hp} {ks : List Kd} {ds : List D} {v : V} {fp : List Addr} (o : Own K F H (.dct ks ds) v fp) : ∃ a xs fq, v = .ref a ∧ H a = some (.dK (dkv ks xs)) ∧ (ks.Nodup ∧ ks.length = ds.length) ∧ OwnL K F H ds xs fq ∧ fp = a :: fq := by
  cases o with
  | leaf l _ => cases l
  | dct h n r => exact ⟨_, _, _, rfl, h, n, r, rfl⟩
theorem OwnL.length {K : Fg} {F H : Hp} : ∀ {ds : List D} {xs : List V} {fp : List Addr}, OwnL K F H ds xs fp → ds.length = xs.length
  | _, _, _, .nil => rfl
  | _, _, _, .cons _ r => by rw [List.length_cons, List.length_cons, r.length]
theorem OwnL.get {K : Fg} {F H : Hp} : ∀ {ds : List D} {xs : List V} {fp : List Addr} {i : Nat} {d : D}, OwnL K F H ds xs fp → ds[i]? = some d → ∃ v fq, xs[i]? = some v ∧ Own K F H d v fq ∧ fq ⊆ fp
  | _, _, _, _, _, .nil, e => by simp at e
  | _, _, _, 0, _, .cons h _, e => by simp at e; subst e; exact ⟨_, _, rfl, h, fun _ z => List.mem_append_left _ z⟩
  | _, _, _, i + 1, _, .cons _ r, e => by
    obtain ⟨v, fq, h1, h2, h3⟩ := OwnL.get (i := i) r (by simpa using e)
    exact ⟨v, fq, by simpa using h1, h2, fun _ z => List.mem_append_right _ (h3 z)⟩
theorem OwnL.nd {K : Fg} {F H : Hp} : ∀ {ds : List D} {xs : List V} {fp : List Addr}, OwnL K F H ds xs fp → ds.all D.nd = true
  | _, _, _, .nil => rfl
  | _, _, _, .cons (n := n) _ r => by rw [List.all_cons, n, r.nd]; rfl
theorem OwnL.leaves {K : Fg} {F H : Hp} : ∀ {ds : List D} {xs : List V} {fp : List Addr}, OwnL K F H ds xs fp → ds.all D.leafy = true → RepL K F ds xs ∧ fp = []
  | _, _, _, .nil, _ => ⟨.nil, rfl⟩
  | _, _, _, .cons h r, l => by
    rw [List.all_cons, Bool.and_eq_true] at l
    obtain ⟨h1, e1⟩ := h.leaf_inv l.1
    obtain ⟨h2, e2⟩ := r.leaves l.2
    exact ⟨.cons (n := D.leafy_nd l.1) h1 h2, by rw [e1, e2]; rfl⟩
theorem RepL.own {K : Fg} {F H : Hp} : ∀ {ds : List D} {xs : List V}, RepL K F ds xs → ds.all D.leafy = true → OwnL K F H ds xs []
  | _, _, .nil, _ => .nil
  | _, _, .cons h r, l => by
    rw [List.all_cons, Bool.and_eq_true] at l
    exact OwnL.cons (fp := []) (fq := []) (n := D.leafy_nd l.1) (.leaf l.1 h) (r.own l.2)
theorem OwnL.append {K : Fg} {F H : Hp} : ∀ {ds es : List D} {xs ys : List V} {fp fq : List Addr}, OwnL K F H ds xs fp → OwnL K F H es ys fq → OwnL K F H (ds ++ es) (xs ++ ys) (fp ++ fq)
  | _, _, _, _, _, _, .nil, s => s
  | _, _, _, _, _, _, .cons (n := n) h r, s => by
    rw [List.append_assoc]
    exact .cons (n := n) h (OwnL.append r s)

/-- readable: frozen, or owned by somebody -/
def View (K : Fg) (F H : Hp) (d : D) (v : V) : Prop := Rep K F d v ∨ ∃ fp, Own K F H d v fp
def ViewL (K : Fg) (F H : Hp) (ds : List D) (xs : List V) : Prop := RepL K F ds xs ∨ ∃ fp, OwnL K F H ds xs fp
theorem View.rep {K : Fg} {F H : Hp} {d : D} {v : V} (s : Ext F H) (h : View K F H d v) : Rep K H d v := by
  rcases h with h | ⟨fp, h⟩
  · exact h.mono s
  · exact h.freeze s fun _ _ => rfl
theorem ViewL.rep {K : Fg} {F H : Hp} {ds : List D} {xs : List V} (s : Ext F H) (h : ViewL K F H ds xs) : RepL K H ds xs := by
  rcases h with h | ⟨fp, h⟩
  · exact h.mono s
  · exact h.freeze s fun _ _ => rfl
theorem View.leaf {K : Fg} {F H : Hp} {d : D} {v : V} (h : View K F H d v) (l : d.leafy = true) : Rep K F d v := by
  rcases h with h | ⟨fp, h⟩
  · exact h
  · exact (h.leaf_inv l).1
theorem View.lst {K : Fg} {F H : Hp} {ds : List D} {v : V} (s : Ext F H) (h : View K F H (.lst ds) v) : ∃ a xs, v = .ref a ∧ Rd H a (.lst xs) ∧ ViewL K F H ds xs := by
  rcases h with h | ⟨fp, h⟩
  · cases h with
    | lst q r => exact ⟨_, _, rfl, s.rd q, .inl r⟩
  · obtain ⟨a, xs, fq, rfl, q, r, _⟩ := h.lst_inv
    exact ⟨a, xs, rfl, .inl q, .inr ⟨_, r⟩⟩
theorem View.dct {K : Fg} {F H : Hp} {ks : List Kd} {ds : List D} {v : V} (s : Ext F H) (h : View K F H (.dct ks ds) v) : ∃ a xs, v = .ref a ∧ Rd H a (.dK (dkv ks xs)) ∧ (ks.Nodup ∧ ks.length = ds.length) ∧ ViewL K F H ds xs := by
  rcases h with h | ⟨fp, h⟩
  · cases h with
    | dct q n r => exact ⟨_, _, rfl, s.rd q, n, .inl r⟩
  · obtain ⟨a, xs, fq, rfl, q, n, r, _⟩ := h.dct_inv
    exact ⟨a, xs, rfl, .inl q, n, .inr ⟨_, r⟩⟩
theorem View.tup {K : Fg} {F H : Hp} {ds : List D} {v : V} (s : Ext F H) (h : View K F H (.tup ds) v) : ∃ a xs, v = .ref a ∧ SqT K H a xs ∧ RepL K F ds xs := by
  have h := h.leaf rfl
  cases h with
  | tup q r => exact ⟨_, _, rfl, s.sqT q, r⟩
theorem ViewL.nd {K : Fg} {F H : Hp} {ds : List D} {xs : List V} (h : ViewL K F H ds xs) : ds.all D.nd = true := by
  rcases h with h | ⟨fp, h⟩
  · exact h.nd
  · exact h.nd
theorem ViewL.length {K : Fg} {F H : Hp} {ds : List D} {xs : List V} (h : ViewL K F H ds xs) : ds.length = xs.length := by
  rcases h with h | ⟨fp, h⟩
  · exact h.length
  · exact h.length
theorem ViewL.get {K : Fg} {F H : Hp} {ds : List D} {xs : List V} {i : Nat} {d : D} (h : ViewL K F H ds xs) (e : ds[i]? = some d) : ∃ v, xs[i]? = some v ∧ View K F H d v := by
  rcases h with h | ⟨fp, h⟩
  · obtain ⟨v, e, r⟩ := h.get e; exact ⟨v, e, .inl r⟩
  · obtain ⟨v, fq, e, r, _⟩ := h.get e; exact ⟨v, e, .inr ⟨_, r⟩⟩
theorem ViewL.leaves {K : Fg} {F H : Hp} {ds : List D} {xs : List V} (h : ViewL K F H ds xs) (l : ds.all D.leafy = true) : RepL K F ds xs := by
  rcases h with h | ⟨fp, h⟩
  · exact h
  · exact (h.leaves l).1
theorem View.int {K : Fg} {F H : Hp} {i : Int} {v : V} (h : View K F H (.int i) v) : v = .int i := by
  have h := h.leaf rfl
  cases h; rfl
theorem View.str {K : Fg} {F H : Hp} {s : List Nat} {v : V} (h : View K F H (.str s) v) : v = .str (tx s) := by
  have h := h.leaf rfl
  cases h; rfl
theorem View.bl {K : Fg} {F H : Hp} {b : Bool} {v : V} (h : View K F H (.bl b) v) : v = .bl b := by
  have h := h.leaf rfl
  cases h; rfl
theorem View.non {K : Fg} {F H : Hp} {v : V} (h : View K F H .non v) : v = .non := by
  have h := h.leaf rfl
  cases h; rfl
theorem View.scr {K : Fg} {F H : Hp} {ns : List Int} {v : V} (s : Ext F H) (h : View K F H (.scr ns) v) : ∃ a, v = .ref a ∧ SqL K H a (ns.map V.int) := by
  have h := h.leaf rfl
  cases h with
  | scr _ q => exact ⟨_, rfl, s.sqL q⟩
theorem View.flz {K : Fg} {F H : Hp} {ds : List D} {v : V} (s : Ext F H) (h : View K F H (.flz ds) v) : ∃ a xs, v = .ref a ∧ Rd H a (.lst xs) ∧ RepL K F ds xs := by
  have h := h.leaf rfl
  cases h with
  | flz q r => exact ⟨_, _, rfl, s.rd q, r⟩
theorem View.ext {K : Fg} {F F' H H' : Hp} (e : Ext F F') (k : Ext H H') {d : D} {v : V} (h : View K F H d v) : View K F' H' d v := by
  rcases h with h | ⟨fp, h⟩
  · exact .inl (h.mono e)
  · exact .inr ⟨fp, h.ext e k⟩
end PW

namespace PW
open PySem PySem.Spec PyProof.Rows HT PySem.AutoSeq1
/-! ### a tuple turned round, a list extended by a tuple -/
section
variable {prog : Program} {w : World} {A : Around} {E : Value → Shared → Prop} {s : Shared}
theorem adjust_rev (n : Nat) : Builtin.Slice.sliceAdjust none none (-1) (n : Int) = ((n : Int) - 1, -1) := by
  unfold Builtin.Slice.sliceAdjust
  simp
theorem places_rev (n : Nat) : Builtin.Slice.slicePlaces ((n : Int) - 1) (-1) (-1) = n := by
  unfold Builtin.Slice.slicePlaces
  simp
  try omega
theorem applied_rev {sl : Addr} {u : Tok} {n : Nat} {Q : Int × Int × Nat → Shared → Prop} (hs : s.heap.IsSliceOf sl .none .none (.int (-1) u))
    (h : Q ((n : Int) - 1, -1, n) s) : wpAny (model prog w) A (Builtin.Slice.sliceApplied (.ref sl) (pure (n : Int))) Q E s := by
  obtain ⟨os, hos, hcs, hds⟩ := id hs
  unfold Builtin.Slice.sliceApplied Builtin.Slice.sliceFields
  refine wpAny_bind (wpAny_bind (wpAny_field hos hds (x := .none) rfl (wpAny_bind (wpAny_field hos hds (x := .none) rfl (wpAny_bind (wpAny_field hos hds (x := .int (-1) u) rfl (wpAny_pure ?_)))))))
  refine wpAny_bind (slicePart_int ?_)
  show wpAny _ _ (if ((-1 : Int) == 0) = true then _ else _) _ _ s
  rw [if_neg (by decide)]
  refine wpAny_bind (slicePart_none (wpAny_bind (slicePart_none (wpAny_bind (wpAny_pure ?_)))))
  show wpAny _ _ (match Builtin.Slice.sliceAdjust none none (-1) (n : Int) with | (lo, hi) => pure (lo, (-1 : Int), Builtin.Slice.slicePlaces lo hi (-1))) _ _ s
  rw [adjust_rev n]
  show wpAny _ _ (pure ((n : Int) - 1, (-1 : Int), Builtin.Slice.slicePlaces ((n : Int) - 1) (-1) (-1))) _ _ s
  rw [places_rev]
  exact wpAny_pure h
theorem fm_map {α β : Type} {f : α → Option β} {g : α → β} : ∀ l : List α, (∀ x ∈ l, f x = some (g x)) → l.filterMap f = l.map g
  | [], _ => rfl
  | a :: l, h => by
    rw [List.filterMap_cons, h a (by simp), fm_map l fun x hx => h x (List.mem_cons_of_mem _ hx)]; rfl
theorem pick_rev (xs : Array Value) : ((List.range xs.size).filterMap fun (m : Nat) => xs[(((xs.size : Int) - 1) + (m : Int) * (-1)).toNat]?).toArray = xs.toList.reverse.toArray := by
  congr 1
  apply List.ext_getElem?
  intro j
  by_cases hj : j < xs.size
  · have e : ∀ m, m < xs.size → xs[(((xs.size : Int) - 1) + (m : Int) * (-1)).toNat]? = some (xs.toList.reverse.getD m .none) := fun m hm => by
      have e1 : (((xs.size : Int) - 1) + (m : Int) * (-1)).toNat = xs.size - 1 - m := by omega
      rw [e1, List.getD_eq_getElem?_getD, List.getElem?_reverse (by simpa using hm)]
      have e2 : xs.toList.length - 1 - m < xs.toList.length := by rw [Array.length_toList]; omega
      rw [← Array.getElem?_toList, Array.length_toList, List.getElem?_eq_getElem (by rw [Array.length_toList]; omega)]; rfl
    have e3 : (List.range xs.size).filterMap (fun (m : Nat) => xs[(((xs.size : Int) - 1) + (m : Int) * (-1)).toNat]?) = (List.range xs.size).map fun m => xs.toList.reverse.getD m .none := by
      exact fm_map _ fun m hm => e m (List.mem_range.mp hm)
    rw [e3, List.getElem?_map, List.getElem?_range hj]
    show some (xs.toList.reverse.getD j Value.none) = _
    rw [List.getD_eq_getElem?_getD, List.getElem?_eq_getElem (by simpa using hj)]; rfl
  · have h1 : ((List.range xs.size).filterMap fun (m : Nat) => xs[(((xs.size : Int) - 1) + (m : Int) * (-1)).toNat]?).length ≤ xs.size := by
      have := List.length_filterMap_le (fun (m : Nat) => xs[(((xs.size : Int) - 1) + (m : Int) * (-1)).toNat]?) (List.range xs.size)
      rwa [List.length_range] at this
    rw [List.getElem?_eq_none (by omega), List.getElem?_eq_none (by simp; omega)]
theorem getItem_tuple_rev {t sl : Addr} {items : Array Value} {u : Tok} {Q : Value → Shared → Prop} (ht : IsTup s.heap t items) (hs : s.heap.IsSliceOf sl .none .none (.int (-1) u))
    (h : Q (.ref s.heap.objs.size) { s with heap := s.heap.push { cls := .type "tuple", data := .seq items.toList.reverse.toArray } })
    (hsz : items.size ≤ sizeLine) : wpAny (model prog w) A (getItem (.ref t) (.ref sl)) Q E s := by
  have htake : sizeOk (.seq items.toList.reverse.toArray) := by
    show items.toList.reverse.toArray.size ≤ sizeLine
    rw [List.size_toArray, List.length_reverse, Array.length_toList]
    omega
  obtain ⟨os, hos, hcs, hds⟩ := id hs
  have hTs : s.TypeIs (.ref sl) "slice" := ⟨os, hos, hcs⟩
  unfold getItem
  try with_reducible refine wpAny_holding ?_
  first | refine wpAny_bind (wpAny_pure ?_) | skip
  refine wpAny_bind (wpAny_sequenceKey ht.typeIs (by decide) ?_)
  refine wpAny_bind (wpAny_callSpecial?_slot (name := Str.ofString "__getitem__") ht.typeIs PyProof.Rows.slot_tuple_getitem
    (wpAny_call_entry PyProof.Rows.slot_tuple_getitem ht.typeIs entry_tuple_getitem ?_ (args_tuple_getitem _ _)))
  show wpAny _ _ (Builtin.Tuple.tupleItemsOf (.ref t) >>= _) _ _ s
  refine wpAny_bind (tupleItemsOf_ ht ?_)
  refine wpAny_bind (wpAny_typeOf hTs ?_)
  rw [if_pos (by decide)]
  refine wpAny_bind (applied_rev (n := items.size) hs ?_)
  have hno : ¬ ((((items.size : Int) - 1) == 0 && (-1 : Int) == 1 && items.size == items.size) = true) := by
    intro q
    rw [Bool.and_eq_true, Bool.and_eq_true] at q
    exact absurd q.1.2 (by decide)
  show wpAny _ _ (if (((items.size : Int) - 1) == 0 && (-1 : Int) == 1 && items.size == items.size) = true then _ else _) _ _ s
  rw [if_neg hno, pick_rev]
  first
    | exact wpAny_bind (m := Builtin.Tuple.tupleExact _) (wpAny_newObj_type (wpAny_pure ⟨_, rfl, wpAny_pure h⟩) htake)
    | exact wpAny_bind (m := Builtin.Tuple.tupleExact _) (wpAny_newObj_type (wpAny_bind (wpAny_pure (wpAny_pure ⟨_, rfl, wpAny_pure h⟩))) htake)
    | exact wpAny_bind (wpAny_bind (m := Builtin.Tuple.tupleExact _) (wpAny_newObj_type (wpAny_pure (wpAny_pure ⟨_, rfl, wpAny_pure h⟩)) htake))
    | exact wpAny_bind (wpAny_bind (m := Builtin.Tuple.tupleExact _) (wpAny_newObj_type (wpAny_pure ⟨_, rfl, wpAny_pure h⟩) htake))
end
open L2
/-- xs[::-1], xs a tuple or a list -/
def tRev2 (K : PySem.W.Frag) (te : TE) : TE := fun σ H Q => te σ H fun x H1 => (∃ a xs, x = .ref a ∧ SqL K H1 a xs ∧ ∀ p, H1 p = none → Q (.ref p) (upd H1 p (.lst xs.reverse))) ∨ (∃ a xs, x = .ref a ∧ SqT K H1 a xs ∧ ∀ p, H1 p = none → Q (.ref p) (upd H1 p (.tup xs.reverse)))
theorem pe_rev2 {X : Cx} {e : Expr} {te : TE} {k : Nat} {p1 p2 p3 pos : Pos} (he : PE X e te) : PE X (.Subscript e (.Slice none none (some (.UnaryOp .USub (.Constant (.int 1) k p1) p2)) p3) pos) (tRev2 X.K te) := by
  refine ⟨fun pins s σ H Q I h => ?_⟩
  refine Subscript_ (thn (he.run pins s σ H _ I h) fun v s1 ⟨x, H1, I1, r1, q1⟩ => ?_)
  have hst : PO X (some (.UnaryOp .USub (.Constant (.int 1) k p1) p2)) (tPart (tUn (rU fun i => .int (-i)) (tC (.int 1)))) := po_some (pe_un un_neg pe_int)
  refine wpAny_Slice (thn (po_none.run pins s1 σ H1 (fun o H2 => o = none ∧ H2 = H1) I1 ⟨rfl, rfl⟩) fun vl s2 ⟨l, H2, I2, pl, el, e2⟩ => ?_)
  subst el e2
  refine thn (po_none.run pins s2 σ H2 (fun o H3 => o = none ∧ H3 = H2) I2 ⟨rfl, rfl⟩) fun vu s3 ⟨u, H3, I3, pu, eu, e3⟩ => ?_
  subst eu e3
  refine thn (hst.run pins s3 σ H3 (fun o H4 => o = some (-1) ∧ H4 = H3) I3 ⟨1, rfl, -1, rfl, rfl, rfl⟩) fun vs s4 ⟨o, H4, I4, ps, eo, e4⟩ => ?_
  subst eo e4
  have I5 : Inv X pins σ H4 { s4 with heap := s4.heap.push { cls := .type "slice", data := .fields #[vl, vu, vs] } } := I4.kept (t' := s4.toks) fun b ob q => Heap.get?_push_of_some _ q
  rcases q1 with ⟨a, xs, ex, hx, q⟩ | ⟨a, xs, ex, hx, q⟩
  · subst ex
    cases r1
    obtain ⟨its, r, ht, hz⟩ := I5.list hx
    have hlen := r.length
    show wpAny (model X.prog X.w) X.A (subscriptTail e (.Slice none none (some (.UnaryOp .USub (.Constant (.int 1) k p1) p2)) p3) (.ref a) (.ref s4.heap.objs.size)) (EP X pins σ Q) X.xe { s4 with heap := s4.heap.push { cls := .type "slice", data := .fields #[vl, vu, vs] } }
    refine tail_any (ops := [.ref a, .ref s4.heap.objs.size]) ht.isList.typeIs (PySem.slot_list_getitem.lookup) ?_ (by with_unfolding_all rfl)
    refine wpAny_getItem_list_slice ht.isList (Heap.IsSliceOf.new _ vl vu vs) pl pu ps (by decide) ?_ (by rw [List.size_toArray]; omega)
    rw [PySem.W.krv_pick]
    refine ⟨.ref _, _, I5.laid (t' := s4.toks) (o := .lst xs.reverse) (fun b ob q => Heap.get?_push_of_some _ q) (Nat.le_refl _) ?_, rfl, q _ (I5.hok.fresh (Nat.le_refl _))⟩
    exact ⟨by rw [List.length_reverse]; exact hz, _, 0, r.reverse, Heap.get?_push_size _ rfl⟩
  · subst ex
    cases r1
    cases pl
    cases pu
    cases ps
    obtain ⟨its, r, ht, hz⟩ := I5.tuple hx
    have hlen := r.length
    show wpAny (model X.prog X.w) X.A (subscriptTail e (.Slice none none (some (.UnaryOp .USub (.Constant (.int 1) k p1) p2)) p3) (.ref a) (.ref s4.heap.objs.size)) (EP X pins σ Q) X.xe { s4 with heap := s4.heap.push { cls := .type "slice", data := .fields #[.none, .none, _] } }
    refine tail_any (ops := [.ref a, .ref s4.heap.objs.size]) ht.typeIs (PyProof.Rows.slot_tuple_getitem.lookup) ?_ (by with_unfolding_all rfl)
    refine getItem_tuple_rev ht (Heap.IsSliceOf.new _ .none .none _) ?_ (by rw [List.size_toArray]; omega)
    refine ⟨.ref _, _, I5.laid (t' := s4.toks) (o := .tup xs.reverse) (fun b ob q => Heap.get?_push_of_some _ q) (Nat.le_refl _) ?_, rfl, q _ (I5.hok.fresh (Nat.le_refl _))⟩
    exact ⟨by rw [List.length_reverse]; exact hz, _, r.reverse, IsTup.new _ _⟩
theorem ext_tuple (l : Addr) (items : Array Value) (n : Nat) (b : Addr) (items2 : Array Value) (n2 : Nat) (dd : Option Addr) (sl : Array (Option Value)) (hs0 : ¬(!items.isEmpty && Builtin.List.listTooLong (items.size + items2.size)) = true) (hs1 : items.size ≤ sizeLine) (hs2 : items.size + items2.size ≤ sizeLine + 1) :
    Meets (Builtin.«list.extend» ⟨[.ref l, .ref b], []⟩) (fun _ R s => s.heap.get? l = some { cls := .type "list", dict := none, data := .seq items n, slots := #[] } ∧ s.heap.get? b = some { cls := .type "tuple", dict := dd, data := .seq items2 n2, slots := sl } ∧ R (.ok (.ret Value.none)) { s with heap := s.heap.update l (Obj.mapSeq fun x => x ++ items2), toks := s.toks }) :=
  .of_wp fun prog w A R s h => by
    obtain ⟨hp, g, d, tk, os⟩ := s; obtain ⟨hl, hb, h⟩ := h; have f1 := idx_int; have f2 := AutoSeq1.sub_tuple_tuple; have f3 := AutoSeq1.sub_list_list; have f4 := AutoSeq1.sub_tuple_list; have f5 := AutoSeq1.sub_list_tuple;
    have hz' : (items ++ items2).size ≤ sizeLine + 1 := by rw [Array.size_append]; exact hs2
    wp_walk using (wpAny_updateSeq hl rfl (hz := hs1) (_hz' := hz')), wpAny_loadPart' hl, wpAny_loadPart' hb; exact ⟨_, rfl, h⟩
def rExt3 (K : PySem.W.Frag) : V → List V → Hp → VK → Prop := fun x vs H Q => ∃ l b xs zs, x = .ref l ∧ vs = [.ref b] ∧ H l = some (.lst xs) ∧ (H b = some (.lst zs) ∨ SqT K H b zs) ∧ xs.length + zs.length ≤ sizeLine ∧ Q .non (upd H l (.lst (xs ++ zs)))
theorem mt_extend3 {X : Cx} : MtM X "list.extend" (rExt3 X.K) := by
  intro pins s σ H x vs v us Q I rx rv h
  obtain ⟨l, b, xs, zs, rfl, rfl, hH, hB, hz, q⟩ := h
  rcases hB with hB | hB
  · exact mt_extend pins s σ H _ _ v us Q I rx rv ⟨l, b, xs, zs, rfl, rfl, hH, hB, hz, q⟩
  · cases rx
    obtain ⟨u, rfl, ru⟩ := rv.one
    cases ru
    obtain ⟨z, its, n, r, hl, e⟩ := I.lstM hH
    obtain ⟨its2, r2, ht, hz2⟩ := I.tuple hB
    obtain ⟨⟨cls2, dd2, data2, sl2⟩, ho2, hc2, n2, hd2⟩ := id ht
    simp only at hc2 hd2
    subst hc2 hd2
    have hl2 := r2.length
    have hsz : its.toArray.size + its2.toArray.size ≤ sizeLine := by rw [List.size_toArray, List.size_toArray]; omega
    have hlong : ¬ (!its.toArray.isEmpty && Builtin.List.listTooLong (its.toArray.size + its2.toArray.size)) = true := by
      rw [notLongL hsz, Bool.and_false]
      exact Bool.false_ne_true
    refine call_meets PySem.F.slot_list_extend ⟨_, e, rfl⟩ PySem.F.entry_list_extend (PySem.F.args_list_extend_2 _ _)
      (ext_tuple l its.toArray n b its2.toArray n2 dd2 sl2 hlong (by rw [List.size_toArray]; omega) (by omega)) ⟨e, ho2, ?_⟩
    refine ⟨.non, _, I.lset (its' := its ++ its2) hH e (by simp) (r.append r2) ?_, rfl, q⟩
    rw [List.length_append]
    omega
end PW

namespace PW
open PySem L2

/-! ### the state -/
structure Par where
  Z : Addr → Prop
  H0 : Hp
  F0 : Hp
  fx : Nat → Bool
  s0 : LSt
inductive Slot where
  | no | sh (d : D) | ow (d : D)
abbrev Env := List Slot
inductive R where
  | va (d : D) | ow (d : D) | rf (i : Nat) | al (d : D)

inductive Slots (K : Fg) (F H : Hp) : Env → LSt → List Addr → Prop
  | nil : Slots K F H [] [] []
  | no {o : Option V} {env : Env} {σ : LSt} {L : List Addr} : Slots K F H env σ L → Slots K F H (.no :: env) (o :: σ) L
  | sh {d : D} {v : V} {env : Env} {σ : LSt} {L : List Addr} : Rep K F d v → Slots K F H env σ L → Slots K F H (.sh d :: env) (some v :: σ) L
  | ow {d : D} {v : V} {fp : List Addr} {env : Env} {σ : LSt} {L : List Addr} : Own K F H d v fp → Slots K F H env σ L → Slots K F H (.ow d :: env) (some v :: σ) (fp ++ L)

structure Sta (K : Fg) (P : Par) (F : Hp) (env : Env) (σ : LSt) (H : Hp) (L : List Addr) : Prop where
  sl : Slots K F H env σ L
  nd : L.Nodup
  dis : ∀ a ∈ L, F a = none ∧ ¬ P.Z a
  sub : Ext F H
  f0 : Ext P.F0 F
  z : ∀ a, P.Z a → H a = P.H0 a ∧ H a ≠ none ∧ F a = none
  fx : ∀ i, P.fx i = true → σ[i]? = P.s0[i]?

def RR (K : Fg) (F H : Hp) (σ : LSt) : R → V → List Addr → Prop
  | .va d, v, fp => Rep K F d v ∧ fp = []
  | .ow d, v, fp => Own K F H d v fp
  | .rf i, v, fp => σ[i]? = some (some v) ∧ fp = []
  | .al d, v, fp => View K F H d v ∧ fp = []

/-- behind an expression -/
structure Po (K : Fg) (P : Par) (F : Hp) (env : Env) (σ : LSt) (H : Hp) (L : List Addr) (r : R) (v : V) (fp : List Addr) : Prop where
  st : Sta K P F env σ H L
  rr : RR K F H σ r v fp
  nd : (L ++ fp).Nodup
  dis : ∀ a ∈ fp, F a = none ∧ ¬ P.Z a

section
variable {K : Fg} {P : Par} {F F' H H' : Hp} {env env' : Env} {σ σ' : LSt} {L L' fp : List Addr} {r : R} {v : V} {d : D}
theorem Slots.mono (e : Ext F F') : ∀ {env : Env} {σ : LSt} {L : List Addr}, Slots K F H env σ L → (∀ a ∈ L, H' a = H a) → Slots K F' H' env σ L
  | _, _, _, .nil, _ => .nil
  | _, _, _, .no r, k => .no (Slots.mono e r k)
  | _, _, _, .sh q r, k => .sh (q.mono e) (Slots.mono e r k)
  | _, _, _, .ow q r, k => .ow (q.mono e fun a z => k a (List.mem_append_left _ z)) (Slots.mono e r fun a z => k a (List.mem_append_right _ z))
theorem Slots.there : ∀ {env : Env} {σ : LSt} {L : List Addr}, Slots K F H env σ L → ∀ a ∈ L, ∃ o, H a = some o
  | _, _, _, .nil, _, z => nomatch z
  | _, _, _, .no r, a, z => Slots.there r a z
  | _, _, _, .sh q r, a, z => Slots.there r a z
  | _, _, _, .ow q r, a, z => (List.mem_append.mp z).elim (fun q' => q.there a q') fun q' => Slots.there r a q'
theorem Slots.length : ∀ {env : Env} {σ : LSt} {L : List Addr}, Slots K F H env σ L → env.length = σ.length
  | _, _, _, .nil => rfl
  | _, _, _, .no r => by rw [List.length_cons, List.length_cons, Slots.length r]
  | _, _, _, .sh q r => by rw [List.length_cons, List.length_cons, Slots.length r]
  | _, _, _, .ow q r => by rw [List.length_cons, List.length_cons, Slots.length r]
theorem Slots.getSh : ∀ {env : Env} {σ : LSt} {L : List Addr} {i : Nat} {d : D}, Slots K F H env σ L → env[i]? = some (.sh d) → ∃ v, σ[i]? = some (some v) ∧ Rep K F d v
  | _, _, _, _, _, .nil, e => by simp at e
  | _, _, _, 0, _, .no r, e => by simp at e
  | _, _, _, i + 1, _, .no r, e => by simpa using Slots.getSh (i := i) r (by simpa using e)
  | _, _, _, 0, _, .sh q r, e => by simp at e; subst e; exact ⟨_, rfl, q⟩
  | _, _, _, i + 1, _, .sh q r, e => by simpa using Slots.getSh (i := i) r (by simpa using e)
  | _, _, _, 0, _, .ow q r, e => by simp at e
  | _, _, _, i + 1, _, .ow q r, e => by simpa using Slots.getSh (i := i) r (by simpa using e)
/-- an owned slot: its tree, what is left -/
theorem Slots.getOw : ∀ {env : Env} {σ : LSt} {L : List Addr} {i : Nat} {d : D}, Slots K F H env σ L → env[i]? = some (.ow d) → ∃ v L1 fp L2, σ[i]? = some (some v) ∧ Own K F H d v fp ∧ L = L1 ++ fp ++ L2 ∧
    (∀ (F' H' : Hp) (s : Slot) (o : Option V) (fq : List Addr), Ext F F' → (∀ a ∈ L1 ++ L2, H' a = H a) → Slots K F' H' [s] [o] fq → Slots K F' H' (env.set i s) (σ.set i o) (L1 ++ fq ++ L2))
  | _, _, _, _, _, .nil, e => by simp at e
  | _, _, _, 0, _, .no r, e => by simp at e
  | _, _, _, i + 1, _, .no r, e => by
    obtain ⟨v, L1, fp, L2, h1, h2, h3, h4⟩ := Slots.getOw (i := i) r (by simpa using e)
    exact ⟨v, L1, fp, L2, by simpa using h1, h2, h3, fun F' H' s o fq x k q => by simpa using Slots.no (h4 F' H' s o fq x k q)⟩
  | _, _, _, 0, _, .sh q r, e => by simp at e
  | _, _, _, i + 1, _, .sh q r, e => by
    obtain ⟨v, L1, fp, L2, h1, h2, h3, h4⟩ := Slots.getOw (i := i) r (by simpa using e)
    exact ⟨v, L1, fp, L2, by simpa using h1, h2, h3, fun F' H' s o fq x k q' => by simpa using Slots.sh (q.mono x) (h4 F' H' s o fq x k q')⟩
  | _, _, _, 0, _, .ow (fp := fp) (L := L) q r, e => by
    simp at e; subst e
    refine ⟨_, [], fp, L, rfl, q, by simp, fun F' H' s o fq x k z => ?_⟩
    have r' := r.mono x fun a z => k a (by simpa using z)
    cases z with
    | no z => cases z; simpa using Slots.no r'
    | sh q z => cases z; simpa using Slots.sh q r'
    | ow q z => cases z; simpa using Slots.ow q r'
  | _, _, _, i + 1, _, .ow (fp := fp0) q r, e => by
    obtain ⟨v, L1, fp, L2, h1, h2, h3, h4⟩ := Slots.getOw (i := i) r (by simpa using e)
    refine ⟨v, fp0 ++ L1, fp, L2, by simpa using h1, h2, by rw [h3]; simp [List.append_assoc], fun F' H' s o fq x k z => ?_⟩
    have r' := h4 F' H' s o fq x (fun a z => k a (by rw [List.append_assoc]; exact List.mem_append_right _ z)) z
    have := Slots.ow (q.mono x fun a z => k a (by rw [List.append_assoc]; exact List.mem_append_left _ z)) r'
    simpa [List.append_assoc] using this
/-- any slot overwritten -/
theorem Slots.put : ∀ {env : Env} {σ : LSt} {L : List Addr} {i : Nat}, Slots K F H env σ L → i < env.length → ∀ (s : Slot) (o : Option V) (fq : List Addr), Slots K F H [s] [o] fq →
    ∃ L1 L2 L0, Slots K F H (env.set i s) (σ.set i o) (L1 ++ fq ++ L2) ∧ L = L1 ++ L0 ++ L2
  | _, _, _, _, .nil, e => by simp at e
  | _, _, _, 0, .no (L := L) r, e => fun s o fq z => by
    refine ⟨[], L, [], ?_, by simp⟩
    cases z with
    | no z => cases z; simpa using Slots.no r
    | sh q z => cases z; simpa using Slots.sh q r
    | ow q z => cases z; simpa using Slots.ow q r
  | _, _, _, 0, .sh (L := L) q r, e => fun s o fq z => by
    refine ⟨[], L, [], ?_, by simp⟩
    cases z with
    | no z => cases z; simpa using Slots.no r
    | sh q z => cases z; simpa using Slots.sh q r
    | ow q z => cases z; simpa using Slots.ow q r
  | _, _, _, 0, .ow (L := L) (fp := fp) q r, e => fun s o fq z => by
    refine ⟨[], L, fp, ?_, by simp⟩
    cases z with
    | no z => cases z; simpa using Slots.no r
    | sh q z => cases z; simpa using Slots.sh q r
    | ow q z => cases z; simpa using Slots.ow q r
  | _, _, _, i + 1, .no r, e => fun s o fq z => by
    obtain ⟨L1, L2, L0, h1, h2⟩ := Slots.put (i := i) r (by simpa using e) s o fq z
    exact ⟨L1, L2, L0, by simpa using Slots.no h1, h2⟩
  | _, _, _, i + 1, .sh q r, e => fun s o fq z => by
    obtain ⟨L1, L2, L0, h1, h2⟩ := Slots.put (i := i) r (by simpa using e) s o fq z
    exact ⟨L1, L2, L0, by simpa using Slots.sh q h1, h2⟩
  | _, _, _, i + 1, .ow (fp := fp) q r, e => fun s o fq z => by
    obtain ⟨L1, L2, L0, h1, h2⟩ := Slots.put (i := i) r (by simpa using e) s o fq z
    exact ⟨fp ++ L1, L2, L0, by simpa [List.append_assoc] using Slots.ow q h1, by rw [h2]; simp [List.append_assoc]⟩

/-- something new is frozen -/
theorem Sta.grow (s : Sta K P F env σ H L) (e : Ext F F') (k : Ext H H') (sub : Ext F' H') (new : ∀ a, F' a ≠ none → F a ≠ none ∨ H a = none) : Sta K P F' env σ H' L where
  sl := s.sl.mono e fun a z => let ⟨_, h⟩ := s.sl.there a z; (k _ _ h).trans h.symm
  nd := s.nd
  dis := fun a z => by
    refine ⟨?_, (s.dis a z).2⟩
    cases q : F' a with
    | none => rfl
    | some o =>
      obtain ⟨xs, h⟩ := s.sl.there a z
      rcases new a (by rw [q]; simp) with w | w
      · exact absurd (s.dis a z).1 w
      · rw [h] at w; cases w
  sub := sub
  f0 := s.f0.trans e
  z := fun a z => by
    obtain ⟨h1, h2, h3⟩ := s.z a z
    have h4 : H' a = H a := by
      cases q : H a with
      | none => exact absurd q h2
      | some o => exact k a o q
    refine ⟨h4.trans h1, by rw [h4]; exact h2, ?_⟩
    cases q : F' a with
    | none => rfl
    | some o =>
      rcases new a (by rw [q]; simp) with w | w
      · exact absurd h3 w
      · exact absurd w h2
  fx := s.fx
/-- a new object that is not (yet) frozen -/
theorem Sta.heap (s : Sta K P F env σ H L) (k : Ext H H') : Sta K P F env σ H' L := s.grow (Ext.refl _) k (s.sub.trans k) fun _ q => .inl q
/-- other wishes -/
theorem Sta.par (s : Sta K P F env σ H L) {P' : Par} (f0 : Ext P'.F0 F) (hz : ∀ a, P'.Z a → H a = P'.H0 a ∧ H a ≠ none ∧ F a = none) (hd : ∀ a ∈ L, ¬ P'.Z a) (hx : ∀ i, P'.fx i = true → σ[i]? = P'.s0[i]?) : Sta K P' F env σ H L :=
  ⟨s.sl, s.nd, fun a z => ⟨(s.dis a z).1, hd a z⟩, s.sub, f0, hz, hx⟩
/-- what is held in the hand while the next part runs -/
def Par.push (P : Par) (fp : List Addr) (H F : Hp) : Par := ⟨fun a => P.Z a ∨ a ∈ fp, H, F, P.fx, P.s0⟩
theorem RR.there (h : RR K F H σ r v fp) : ∀ a ∈ fp, ∃ o, H a = some o := by
  cases r with
  | va d => obtain ⟨_, rfl⟩ := h; exact fun _ z => nomatch z
  | ow d => exact Own.there h
  | rf i => obtain ⟨_, rfl⟩ := h; exact fun _ z => nomatch z
  | al d => obtain ⟨_, rfl⟩ := h; exact fun _ z => nomatch z
theorem Po.push (p : Po K P F env σ H L r v fp) : Sta K (P.push fp H F) F env σ H L :=
  p.st.par (Ext.refl _) (fun a z => by
    rcases z with z | z
    · exact ⟨rfl, (p.st.z a z).2⟩
    · obtain ⟨xs, e⟩ := p.rr.there a z
      exact ⟨rfl, by rw [e]; simp, (p.dis a z).1⟩) (fun a z => by
    rintro (w | w)
    · exact (p.st.dis a z).2 w
    · exact (List.nodup_append.mp p.nd).2.2 a z a w rfl) p.st.fx
theorem Sta.pop {F1 F2 H1 H2 : Hp} {env1 env2 : Env} {σ2 : LSt} {L1 L2 : List Addr} (p : Sta K P F1 env1 σ H1 L1) (s : Sta K (P.push fp H1 F1) F2 env2 σ2 H2 L2) : Sta K P F2 env2 σ2 H2 L2 :=
  s.par (p.f0.trans s.f0) (fun a z => ⟨(s.z a (.inl z)).1.trans (p.z a z).1, (s.z a (.inl z)).2⟩) (fun a z w => (s.dis a z).2 (.inl w)) s.fx
end

/-! ### reading -/
def getK : Env → Nat → (Slot → Prop) → Prop
  | [], _, _ => False
  | x :: _, 0, k => k x
  | _ :: e, i + 1, k => getK e i k
def setK : Env → Nat → Slot → (Env → Prop) → Prop
  | [], _, _, _ => False
  | _ :: e, 0, s, k => k (s :: e)
  | x :: e, i + 1, s, k => setK e i s fun e' => k (x :: e')
theorem getK_iff : ∀ {env : Env} {i : Nat} {k : Slot → Prop}, getK env i k ↔ ∃ s, env[i]? = some s ∧ k s
  | [], _, _ => by simp [getK]
  | x :: _, 0, k => by simp [getK]
  | _ :: e, i + 1, k => by simp [getK, getK_iff (env := e)]
theorem setK_iff : ∀ {env : Env} {i : Nat} {s : Slot} {k : Env → Prop}, setK env i s k ↔ i < env.length ∧ k (env.set i s)
  | [], _, _, _ => by simp [setK]
  | x :: _, 0, s, k => by simp [setK]
  | _ :: e, i + 1, s, k => by simp [setK, setK_iff (env := e)]
/-- the value of a result as it stands; q: nothing has changed since it was made -/
def rd (q : Bool) (env : Env) : R → (D → Prop) → Prop
  | .va d, k => k d
  | .ow d, k => k d
  | .al d, k => q = true ∧ k d
  | .rf i, k => getK env i fun s => match s with
    | .sh d => k d
    | .ow d => k d
    | .no => False
/-- a result's standing behind a further step -/
def RQ (K : Fg) (F H : Hp) (σ : LSt) (q : Bool) : R → V → List Addr → Prop
  | .al d, v, fp => (q = true → View K F H d v) ∧ fp = []
  | r, v, fp => RR K F H σ r v fp
section
variable {K : Fg} {P : Par} {F F' H H' : Hp} {env env' : Env} {σ σ' : LSt} {L L' fp : List Addr} {r : R} {v : V} {d : D}
theorem RR.q (h : RR K F H σ r v fp) (q : Bool) : RQ K F H σ q r v fp := by
  cases r with
  | al d => exact ⟨fun _ => h.1, h.2⟩
  | va d => exact h
  | ow d => exact h
  | rf i => exact h
theorem RR.pushed {q : Bool} {F2 H2 : Hp} {env2 : Env} {σ2 : LSt} {L2 : List Addr} (h : RR K F H σ r v fp) (s : Sta K (P.push fp H F) F2 env2 σ2 H2 L2) (hq : q = true → Ext H H2) (hs : ∀ i, r = .rf i → σ2[i]? = σ[i]?) : RQ K F2 H2 σ2 q r v fp := by
  cases r with
  | va d => exact ⟨h.1.mono s.f0, h.2⟩
  | ow d => exact Own.mono (K := K) s.f0 h fun a z => (s.z a (.inr z)).1
  | rf i => exact ⟨(hs i rfl).trans h.1, h.2⟩
  | al d => exact ⟨fun e => h.1.ext s.f0 (hq e), h.2⟩
theorem RQ.there {q : Bool} (h : RQ K F H σ q r v fp) : ∀ a ∈ fp, ∃ o, H a = some o := by
  cases r with
  | va d => obtain ⟨_, rfl⟩ := h; exact fun _ z => nomatch z
  | ow d => exact Own.there h
  | rf i => obtain ⟨_, rfl⟩ := h; exact fun _ z => nomatch z
  | al d => obtain ⟨_, rfl⟩ := h; exact fun _ z => nomatch z
theorem RQ.weak {q : Bool} (h : RQ K F H σ q r v fp) : RQ K F H σ false r v fp := by
  cases r with
  | al d => exact ⟨fun e => (nomatch e), h.2⟩
  | va d => exact h
  | ow d => exact h
  | rf i => exact h
theorem RR.rq (h : RR K F H σ r v fp) (q : Bool) : RQ K F H σ q r v fp := h.q q
theorem rd_view {q : Bool} {k : D → Prop} (s : Sta K P F env σ H L) (h : RQ K F H σ q r v fp) (w : rd q env r k) : ∃ d, View K F H d v ∧ k d := by
  cases r with
  | va d => exact ⟨d, .inl h.1, w⟩
  | ow d => exact ⟨d, .inr ⟨_, h⟩, w⟩
  | al d => exact ⟨d, h.1 w.1, w.2⟩
  | rf i =>
    obtain ⟨s0, e, w'⟩ := getK_iff.mp w
    obtain ⟨h1, _⟩ := h
    cases s0 with
    | sh d =>
      obtain ⟨v', e', q'⟩ := s.sl.getSh e
      rw [h1] at e'
      injection e' with e'
      injection e' with e'
      subst e'
      exact ⟨d, .inl q', w'⟩
    | ow d =>
      obtain ⟨v', L1, fp', L2, e', q', _⟩ := s.sl.getOw e
      rw [h1] at e'
      injection e' with e'
      injection e' with e'
      subst e'
      exact ⟨d, .inr ⟨_, q'⟩, w'⟩
    | no => exact w'.elim
end

/-! ### making results -/
/-- what is wanted of a result: quiet -/
def Ret (K : Fg) (P : Par) (F : Hp) (env : Env) (σ : LSt) (H : Hp) (L : List Addr) (C : R → Prop) (Q : VK) : Prop :=
  ∀ (r : R) (v : V) (F' H' : Hp) (fp : List Addr), C r → Ext F F' → Ext H H' → Po K P F' env σ H' L r v fp → Q v H'
section
variable {K : Fg} {P : Par} {F F' H H' : Hp} {env env' : Env} {σ σ' : LSt} {L L' fp : List Addr} {r : R} {v : V} {d : D} {C : R → Prop} {Q : VK}
theorem ret_va (s : Sta K P F env σ H L) (h : Ret K P F env σ H L C Q) (c : C (.va d)) (q : Rep K F d v) : Q v H :=
  h _ v F H [] c (Ext.refl _) (Ext.refl _) ⟨s, ⟨q, rfl⟩, by simpa using s.nd, fun _ z => nomatch z⟩
theorem ret_al (s : Sta K P F env σ H L) (h : Ret K P F env σ H L C Q) (c : C (.al d)) (q : View K F H d v) : Q v H :=
  h _ v F H [] c (Ext.refl _) (Ext.refl _) ⟨s, ⟨q, rfl⟩, by simpa using s.nd, fun _ z => nomatch z⟩
/-- a new tuple -/
theorem ret_tup {ds : List D} {xs : List V} {p : Addr} (s : Sta K P F env σ H L) (h : Ret K P F env σ H L C Q) (c : C (.va (.tup ds))) (q : RepL K F ds xs) (hp : H p = none) : Q (.ref p) (upd H p (.tup xs)) := by
  have hf : F p = none := by
    cases e : F p with
    | none => rfl
    | some o => rw [s.sub _ _ e] at hp; cases hp
  have e : Ext F (upd F p (.tup xs)) := Ext.new hf
  have s' : Sta K P (upd F p (.tup xs)) env σ (upd H p (.tup xs)) L := s.grow e (Ext.new hp) (fun a o z => by
    by_cases ha : a = p
    · subst ha; rw [upd_same] at z ⊢; exact z
    · rw [upd_ne ha] at z ⊢; exact s.sub _ _ z) fun a z => by
    by_cases ha : a = p
    · subst ha; exact .inr hp
    · rw [upd_ne ha] at z; exact .inl z
  exact h _ _ _ _ [] c e (Ext.new hp) ⟨s', ⟨.tup (SqT.of upd_same) (q.mono e), rfl⟩, by simpa using s.nd, fun _ z => nomatch z⟩
/-- a new list, its items frozen or moved into it -/
theorem ret_lst {ds : List D} {xs : List V} {p : Addr} {fq : List Addr} (s : Sta K P F env σ H L) (h : Ret K P F env σ H L C Q) (c : C (.ow (.lst ds))) (q : OwnL K F H ds xs fq) (nd : (L ++ fq).Nodup) (dis : ∀ a ∈ fq, F a = none ∧ ¬ P.Z a) (hp : H p = none) :
    Q (.ref p) (upd H p (.lst xs)) := by
  have hf : F p = none := by
    cases e : F p with
    | none => rfl
    | some o => rw [s.sub _ _ e] at hp; cases hp
  have k : Ext H (upd H p (.lst xs)) := Ext.new hp
  have hpL : p ∉ L := fun z => by obtain ⟨_, e⟩ := s.sl.there p z; rw [hp] at e; cases e
  have hpq : p ∉ fq := fun z => by obtain ⟨_, e⟩ := q.there p z; rw [hp] at e; cases e
  refine h _ _ F _ (p :: fq) c (Ext.refl _) k ⟨s.heap k, .lst upd_same (q.mono (Ext.refl _) fun a z => upd_ne fun e => hpq (e ▸ z)), ?_, fun a z => ?_⟩
  · rw [List.nodup_append] at nd ⊢
    refine ⟨nd.1, List.nodup_cons.mpr ⟨hpq, nd.2.1⟩, fun a h1 b h2 => ?_⟩
    rcases List.mem_cons.mp h2 with e | h2
    · subst e; exact fun e => hpL (e ▸ h1)
    · exact nd.2.2 a h1 b h2
  · rcases List.mem_cons.mp z with e | z
    · subst e
      exact ⟨hf, fun z => (s.z _ z).2.1 hp⟩
    · exact dis a z
/-- a new list, frozen at once -/
theorem ret_lstF {ds : List D} {xs : List V} {p : Addr} (s : Sta K P F env σ H L) (h : Ret K P F env σ H L C Q) (c : C (.va (.lst ds))) (q : RepL K F ds xs) (hp : H p = none) : Q (.ref p) (upd H p (.lst xs)) := by
  have hf : F p = none := by
    cases e : F p with
    | none => rfl
    | some o => rw [s.sub _ _ e] at hp; cases hp
  have e : Ext F (upd F p (.lst xs)) := Ext.new hf
  have s' : Sta K P (upd F p (.lst xs)) env σ (upd H p (.lst xs)) L := s.grow e (Ext.new hp) (fun a o z => by
    by_cases ha : a = p
    · subst ha; rw [upd_same] at z ⊢; exact z
    · rw [upd_ne ha] at z ⊢; exact s.sub _ _ z) fun a z => by
    by_cases ha : a = p
    · subst ha; exact .inr hp
    · rw [upd_ne ha] at z; exact .inl z
  exact h _ _ _ _ [] c e (Ext.new hp) ⟨s', ⟨.lst (.inl upd_same) (q.mono e), rfl⟩, by simpa using s.nd, fun _ z => nomatch z⟩
end
end PW

namespace PW
open PySem L2

/-! ### data as the library's data -/
mutual
def D.py : D → PyData
  | .non => .none
  | .bl b => .bool b
  | .int i => .int i
  | .str s => .str (tx s)
  | .tup ds => .tuple (D.pyL ds)
  | .lst ds => .list (D.pyL ds)
  | .dct _ _ => .none
  | .scr ns => .list (ns.map .int)
  | .flz ds => .list (D.pyL ds)
def D.pyL : List D → List PyData
  | [] => []
  | d :: ds => D.py d :: D.pyL ds
end
def deq (a b : D) : Bool := PyData.eqv a.py b.py
def shallow (a : D) : Prop := a.py.depth ≤ 60
def D.tru : D → Bool
  | .non => false
  | .bl b => b
  | .int i => i != 0
  | .str s => !s.isEmpty
  | .tup ds => !ds.isEmpty
  | .lst ds => !ds.isEmpty
  | .dct ks _ => !ks.isEmpty
  | .scr ns => !ns.isEmpty
  | .flz ds => !ds.isEmpty

def truS (a : D) (C : Bool → Prop) : Prop :=
  match a with
  | .str s => s.length ≤ sizeLine ∧ C (!s.isEmpty)
  | .dct _ _ => False
  | .flz _ => False
  | a => C a.tru
/-- where a slice starts or ends -/
abbrev six (n d : Nat) (o : Option Int) : Nat := HT.sIx n d o
def cutL {α : Type} (xs : List α) (lo hi : Option Int) : List α := (xs.drop (six xs.length 0 lo)).take (six xs.length xs.length hi - six xs.length 0 lo)

/-! ### operations by values -/
def opS (o : Operator) (x y : D) (C : R → Prop) : Prop :=
  match o, x, y with
  | .Add, .int a, .int b => C (.va (.int (a + b)))
  | .Sub, .int a, .int b => C (.va (.int (a - b)))
  | .Mult, .int a, .int b => CMul a b ∧ C (.va (.int (a * b)))
  | .FloorDiv, .int a, .int b => (0 < b ∧ b < 1073741824) ∧ C (.va (.int (a / b)))
  | .Mod, .int a, .int b => 0 < b ∧ C (.va (.int (a % b)))
  | .Pow, .int a, .int b => CPow a b ∧ C (.va (.int (a ^ b.toNat)))
  | .Add, .str s, .str t => s.length + t.length ≤ sizeLine ∧ C (.va (.str (s ++ t)))
  | .Add, .tup a, .tup b => a.length + b.length ≤ sizeLine ∧ C (.va (.tup (a ++ b)))
  | .Add, .lst a, .lst b => a.length + b.length ≤ sizeLine ∧ a.all D.leafy = true ∧ b.all D.leafy = true ∧ C (.ow (.lst (a ++ b)))
  | .Add, .flz a, .flz b => a.length + b.length ≤ sizeLine ∧ C (.va (.lst (a ++ b)))
  | .Mult, .lst a, .int k => (-(2 ^ 63) ≤ k ∧ k < 2 ^ 63) ∧ a.length * k.toNat ≤ sizeLine ∧ a.all D.leafy = true ∧ C (.ow (.lst (List.replicate k.toNat a).flatten))
  | .Mult, .str s, .int k => 1 ≤ k ∧ k ≤ 1000 ∧ s.length ≤ 10000 ∧ C (.va (.str (List.replicate k.toNat s).flatten))
  | _, _, _ => False
def isNon : D → Bool
  | .non => true
  | _ => false
def eqS0 (x y : D) (C : Bool → Prop) : Prop :=
  match x, y with
  | .int a, .int b => C (decide (a = b))
  | .str a, .str b => C (decide (a = b))
  | .bl a, .bl b => C (decide (a = b))
  | .tup a, y => (shallow (.tup a) ∨ shallow y) ∧ C (deq (.tup a) y)
  | .lst a, y => (shallow (.lst a) ∨ shallow y) ∧ C (deq (.lst a) y)
  | x, y => (shallow x ∨ shallow y) ∧ C (deq x y)
def eqS (x y : D) (C : Bool → Prop) : Prop :=
  match x with
  | .dct _ _ => False
  | x => match y with
    | .dct _ _ => False
    | y => eqS0 x y C
def ltS (x y : D) (C : Bool → Prop) : Prop :=
  match x, y with
  | .int a, .int b => C (decide (a < b))
  | .str a, .str b => C (decide (a < b))
  | .tup a, .tup b => PySem.W.alike (D.tup a).py (D.tup b).py = true ∧ shallow (.tup a) ∧ C (PySem.W.dataLt (D.tup a).py (D.tup b).py)
  | _, _ => False
/-- where a key stands -/
def kix (ks : List Kd) (k : Kd) : Option Nat := ks.findIdx? fun x => decide (x = k)
/-- a key -/
def keyK (d : D) (C : Kd → Prop) : Prop :=
  match d with
  | .int z => C (.i z)
  | .str t => C (.s t)
  | _ => False
def inS (x y : D) (C : Bool → Prop) : Prop :=
  match y with
  | .str t => match x with
    | .str [c] => C (decide (c ∈ t))
    | _ => False
  | .lst ys => match x with
    | .dct _ _ => False
    | x => (shallow x ∨ shallow (.lst ys)) ∧ C (ys.any fun y => deq y x)
  | .dct ks _ => keyK x fun k => C (kix ks k).isSome
  | .tup ys => match x with
    | .dct _ _ => False
    | x => (shallow x ∨ shallow (.tup ys)) ∧ C (ys.any fun y => deq y x)
  | _ => False
def cmpS (o : CmpOp) (x y : D) (C : Bool → Prop) : Prop :=
  match o with
  | .Eq => eqS x y C
  | .NotEq => eqS x y fun b => C (!b)
  | .Lt => ltS x y C
  | .LtE => match x, y with
    | .int a, .int b => C (decide (a ≤ b))
    | .str a, .str b => C (!decide (b < a))
    | _, _ => False
  | .Gt => match x, y with
    | .int a, .int b => C (decide (b < a))
    | .str a, .str b => C (decide (b < a))
    | _, _ => False
  | .GtE => match x, y with
    | .int a, .int b => C (decide (b ≤ a))
    | .str a, .str b => C (!decide (a < b))
    | _, _ => False
  | .In => inS x y C
  | .NotIn => inS x y fun b => C (!b)
  | .Is => match y with
    | .non => C (isNon x)
    | .bl b => match x with
      | .bl a => C (decide (a = b))
      | _ => False
    | _ => False
  | .IsNot => match y with
    | .non => C (!isNon x)
    | .bl b => match x with
      | .bl a => C (!decide (a = b))
      | _ => False
    | _ => False
/-- an item: fr: the whole is frozen -/
def item (fr : Bool) (d : D) (C : R → Prop) : Prop :=
  match fr with
  | true => C (.va d)
  | false => match d with
    | .lst _ => C (.al d)
    | .dct _ _ => C (.al d)
    | d => C (.va d)
def frz : R → Bool
  | .va _ => true
  | _ => false
/-- what stands at a key -/
def dgt (ks : List Kd) (ds : List D) (k : Kd) : Option D := (kix ks k).bind fun i => ds[i]?
def ixS (fr : Bool) (x y : D) (C : R → Prop) : Prop :=
  match x, y with
  | .lst ds, .int i => ∃ d, atI ds i = some d ∧ item fr d C
  | .tup ds, .int i => ∃ d, atI ds i = some d ∧ C (.va d)
  | .str s, .int i => s.length ≤ sizeLine ∧ ∃ c, atI s i = some c ∧ C (.va (.str [c]))
  | .scr ns, .int i => ∃ n, atI ns i = some n ∧ C (.va (.int n))
  | .dct ks ds, .int i => ∃ d, dgt ks ds (.i i) = some d ∧ item fr d C
  | .dct ks ds, .str t => ∃ d, dgt ks ds (.s t) = some d ∧ item fr d C
  | _, _ => False
/-- d[k] = v: the dict behind it -/
def dputD (ks : List Kd) (ds : List D) (kk : Kd) (y : List D) : D :=
  match kix ks kk with
  | some j => .dct ks (ds.set j (y.headD .non))
  | none => .dct (ks ++ [kk]) (ds ++ y)
def isDct : D → Bool
  | .dct _ _ => true
  | _ => false
/-- d.get(k, w) -/
def dgetS (fr : Bool) (x y : D) (w : R) (C : R → Prop) : Prop :=
  match x with
  | .dct ks ds => keyK y fun kk => match dgt ks ds kk with
    | some d => item fr d C
    | none => C w
  | _ => False
/-- d.setdefault(k, []): the dict behind it, and where its list stands -/
def sdK (ks : List Kd) (ds : List D) (kk : Kd) (C : List Kd → List D → Nat → Prop) : Prop :=
  match kix ks kk with
  | some j => C ks ds j
  | none => C (ks ++ [kk]) (ds ++ [.lst []]) ks.length
def slS (x : D) (lo hi : Option Int) (C : R → Prop) : Prop :=
  match x with
  | .lst ds => ds.all D.leafy = true ∧ C (.ow (.lst (cutL ds lo hi)))
  | .tup ds => C (.va (.tup (cutL ds lo hi)))
  | .str s => s.length ≤ sizeLine ∧ C (.va (.str (cutL s lo hi)))
  | .flz ds => C (.va (.lst (cutL ds lo hi)))
  | _ => False
inductive Ty where
  | bool | int | str | tuple | list | dict
/-- built-in functions -/
inductive Bi where
  | len | abs | min2 | max2 | int | bool | str | sum | list | tuple | sorted | all | any | max1 | min1 | sortP
def pD (p : List Nat × Int) : D := .tup [.str p.1, .int p.2]
def lexT (p q : List Nat × Int) : Bool := if p.1 = q.1 then decide (p.2 < q.2) else decide (p.1 < q.1)
def biS (b : Bi) (xs : List D) (C : R → Prop) : Prop :=
  match b, xs with
  | .len, [.str s] => s.length ≤ sizeLine ∧ C (.va (.int s.length))
  | .len, [.lst ds] => C (.va (.int ds.length))
  | .len, [.tup ds] => C (.va (.int ds.length))
  | .len, [.scr ns] => C (.va (.int ns.length))
  | .len, [.dct ks _] => C (.va (.int ks.length))
  | .abs, [.int i] => C (.va (.int (if i < 0 then -i else i)))
  | .min2, [.int i, .int j] => C (.va (.int (if j < i then j else i)))
  | .max2, [.int i, .int j] => C (.va (.int (if j > i then j else i)))
  | .int, [.int i] => C (.va (.int i))
  | .int, [.bl k] => C (.va (.int (if k then 1 else 0)))
  | .bool, [.int i] => C (.va (.bl (i != 0)))
  | .bool, [.bl b] => C (.va (.bl b))
  | .str, [.int i] => i.natAbs.log2 < 1920 ∧ C (.va (.str (toString i : PySem.Str).cps.toList))
  | .sum, [.lst ds] => ∃ ns : List Int, ds = ns.map D.int ∧ C (.va (.int ns.sum))
  | .list, [.lst ds] => ds.all D.leafy = true ∧ C (.ow (.lst ds))
  | .list, [.tup ds] => ds.all D.leafy = true ∧ C (.ow (.lst ds))
  | .list, [.dct ks _] => C (.ow (.lst (ks.map Kd.d)))
  | .tuple, [.lst ds] => ds.all D.leafy = true ∧ C (.va (.tup ds))
  | .tuple, [.tup ds] => C (.va (.tup ds))
  | .sorted, [.lst ds] => (∃ ns : List Int, ds = ns.map D.int ∧ ∀ ns' : List Int, ns'.Perm ns → ns'.Pairwise (· ≤ ·) → C (.ow (.lst (ns'.map D.int)))) ∨
      ∃ ts : List (List Nat), ds = ts.map D.str ∧ ts.length < 64 ∧ ∀ us : List (List Nat), us.Perm ts → us.Pairwise (· ≤ ·) → C (.ow (.lst (us.map D.str)))
  | .sorted, [.str s] => s.length ≤ sizeLine ∧ ∀ cs : List Nat, cs.Perm s → cs.Pairwise (· ≤ ·) → C (.ow (.lst (cs.map fun c => D.str [c])))
  | .sortP, [.lst ds] => ∃ ps : List (List Nat × Int), ds = ps.map pD ∧ ∀ ps' : List (List Nat × Int), ps'.Perm ps → ps'.Pairwise (fun p q => lexT q p = false) → C (.ow (.lst (ps'.map pD)))
  | .all, [.lst ds] => ∃ bs : List Bool, ds = bs.map D.bl ∧ C (.va (.bl (bs.all id)))
  | .any, [.lst ds] => ∃ bs : List Bool, ds = bs.map D.bl ∧ C (.va (.bl (bs.any id)))
  | .max1, [.lst ds] => ∃ ns : List Int, ds = ns.map D.int ∧ 0 < ns.length ∧ ∀ m, m ∈ ns → (∀ y ∈ ns, y ≤ m) → C (.va (.int m))
  | .min1, [.lst ds] => ∃ ns : List Int, ds = ns.map D.int ∧ 0 < ns.length ∧ ∀ m, m ∈ ns → (∀ y ∈ ns, m ≤ y) → C (.va (.int m))
  | _, _ => False

/-- methods that only read -/
inductive Mt where
  | join | sindex | partition | find | lindex | upper
def joinT (sep : List Nat) : List (List Nat) → List Nat
  | [] => []
  | [x] => x
  | x :: y :: r => x ++ sep ++ joinT sep (y :: r)
/-- a text cut at the first c -/
def cutAt (c : Nat) : List Nat → List Nat × List Nat × List Nat
  | [] => ([], [], [])
  | d :: r => if d = c then ([], [c], r) else (d :: (cutAt c r).1, (cutAt c r).2.1, (cutAt c r).2.2)
def upT (t : List Nat) : List Nat := (Txt.upper (tx t)).cps.toList
def mtTy (m : Mt) (x : D) : Bool :=
  match m with
  | .join => match x with
    | .str _ => true
    | _ => false
  | .sindex => match x with
    | .str _ => true
    | _ => false
  | .partition => match x with
    | .str _ => true
    | _ => false
  | .find => match x with
    | .str _ => true
    | _ => false
  | .lindex => match x with
    | .lst _ => true
    | _ => false
  | .upper => match x with
    | .str _ => true
    | _ => false
/-- methods -/
def mtS (m : Mt) (x : D) (ds : List D) (C : R → Prop) : Prop :=
  match m, x, ds with
  | .join, .str sep, [.lst ys] => ∃ ts : List (List Nat), ys = ts.map D.str ∧ (ts.map List.length).sum + ts.length * sep.length ≤ 16777216 ∧ C (.va (.str (joinT sep ts)))
  | .join, .str sep, [.tup ys] => ∃ ts : List (List Nat), ys = ts.map D.str ∧ (ts.map List.length).sum + ts.length * sep.length ≤ 16777216 ∧ C (.va (.str (joinT sep ts)))
  | .sindex, .str t, [.str [c]] => c ∈ t ∧ C (.va (.int (t.idxOf c)))
  | .lindex, .lst ys, [x] => ys.length ≤ 100000 ∧ x.nd = true ∧ (shallow x ∨ shallow (.lst ys)) ∧ ∃ (j : Nat) (y : D), (ys[j]? = some y ∧ deq y x = true ∧ ∀ (m : Nat) (y' : D), m < j → ys[m]? = some y' → deq y' x = false) ∧ C (.va (.int j))
  | .find, .str t, [.str [c]] => C (.va (.int (if c ∈ t then ((t.idxOf c : Nat) : Int) else -1)))
  | .upper, .str t, [] => t.length ≤ 1000000 ∧ C (.va (.str (upT t)))
  | .partition, .str t, [.str [c]] => t.length ≤ sizeLine ∧ C (.va (.tup [.str (cutAt c t).1, .str (cutAt c t).2.1, .str (cutAt c t).2.2]))
  | _, _, _ => False

/-- what a def promises: ghosts, what is asked of the arguments, what holds of the result and of the arguments that it may change -/
structure PSp where
  G : Type
  pre : G → List D → Prop
  post : G → R → List D → Prop

/-! ### the code -/
inductive G where
  | nm (i : Nat) | tp (is : List Nat)
mutual
inductive E where
  | v (i : Nat) | mv (i : Nat) | fz (e : E) | non | bl (b : Bool) | int (z : Int) | str (s : List Nat) | gl (x : Str) (d : D)
  | op (o : Operator) (a b : E) | cmp (o : CmpOp) (a b : E) | neg (a : E) | nt (a : E) | an (a b : E) | orr (a b : E) | ite (t : T) (a b : E)
  | ix (a b : E) | sl (a : E) (lo hi : OE) | tup (es : Es) | lst (es : Es)
  | call (f : Str) (sp : PSp) (m : List Bool) (es : Es) | cb (b : Bi) (es : Es) | mt (m : Mt) (o : E) (es : Es) | isi (a : E) (ty : Ty)
  | lc (g : G) (it : It) (t : T) (e : E)
  | rg (l : Bool) (a b : E) | chv (o p : CmpOp) (a b c : E) | rv (a : E) | pop (i : Nat) | popI (i : Nat) (e : E) | frz (q : List Bool) (e : E) | flst (es : Es) | fzw (e : E) | unw (e : E) | dnew | dget (a b c : E) | dsp1 (a b : E)
inductive OE where
  | no | so (e : E)
inductive Es where
  | nil | cons (e : E) (es : Es)
inductive T where
  | yes | tr (e : E) | cmp (o : CmpOp) (a b : E) | ch (o p : CmpOp) (a b c : E) | an (a b : T) | orr (a b : T) | nt (a : T)
inductive It where
  | sq (e : E) | sl (i : Nat) | r1 (a : E) | r2 (a b : E) | zip (es : Es) | en (es : Es) | rr (a : E) | r3 (a b c : E) | rl (a : E)
end
mutual
inductive S where
  | asg (g : G) (e : E) | ex (e : E) | ret (e : E) | retN | ifs (t : T) (a b : Ss) | for (g : G) (it : It) (b : Ss) | fors (g : G) (i : Nat) (b : Ss) | whl (t : T) (b : Ss) | brk | cont | pass
  | app (i : Nat) (e : E) | set (i : Nat) (k e : E) | setP (i : Nat) (a k e : E)
  | rev (i : Nat) | frz (q : List Bool) (s : S) | appP (i : Nat) (a e : E) | augS (i : Nat) (k e : E)
  | appPP (q : List Bool) (i : Nat) (a b e : E) | clrP (i : Nat) (a b : E) | mset (g i : Nat) (b : Bool) | ext (i : Nat) (e : E) | augN (i : Nat) (e : E)
  | unl (is : List Nat) (e : E) | par (i j : Nat) (a b : E) | ins (i : Nat) (a e : E) | dput (i : Nat) (k e : E) | sdf (i : Nat) (k e : E) | sdApp (i : Nat) (k e : E) | augSub (i : Nat) (k e : E) | dinc (i : Nat) (k e : E) | frzP (q : List Bool) (s : S)
inductive Ss where
  | nil | cons (s : S) (ss : Ss) | bor (i r : Nat) (k : E) (ss : Ss)
end

/-! ### quiet code: it changes nothing that stood -/
mutual
def E.qt : E → Bool
  | .v _ => true
  | .mv _ => false
  | .fz _ => false
  | .non => true
  | .bl _ => true
  | .int _ => true
  | .str _ => true
  | .gl _ _ => true
  | .op _ a b => a.qt && b.qt
  | .cmp _ a b => a.qt && b.qt
  | .neg a => a.qt
  | .nt a => a.qt
  | .an a b => a.qt && b.qt
  | .orr a b => a.qt && b.qt
  | .ite _ _ _ => false
  | .ix a b => a.qt && b.qt
  | .sl _ _ _ => false
  | .tup _ => false
  | .lst _ => false
  | .call _ _ _ _ => false
  | .cb _ _ => false
  | .mt _ _ _ => false
  | .isi a _ => a.qt
  | .lc _ _ _ _ => false
  | .rg _ _ _ => false
  | .chv _ _ _ _ _ => false
  | .rv _ => false
  | .pop _ => false
  | .popI _ _ => false
  | .frz _ _ => false
  | .flst _ => false
  | .fzw _ => false
  | .unw _ => false
  | .dnew => false
  | .dget _ _ _ => false
  | .dsp1 _ _ => false
end

/-! ### items of a walk -/
def itemsOf (d : D) (C : List D → Prop) : Prop :=
  match d with
  | .lst ds => C ds
  | .tup ds => C ds
  | .str s => C (s.map fun c => .str [c])
  | .scr ns => C (ns.map D.int)
  | _ => False
def zipI (rs : List R) (C : List D → Prop) : Prop :=
  match rs with
  | [.va (.lst a), .va (.lst b)] => C (List.zipWith (fun x y => .tup [x, y]) a b)
  | [.va (.tup a), .va (.tup b)] => C (List.zipWith (fun x y => .tup [x, y]) a b)
  | _ => False
def enD (a : List D) : List D := a.zipIdx.map fun p => .tup [.int p.2, p.1]
def enI (rs : List R) (C : List D → Prop) : Prop :=
  match rs with
  | [.va (.lst a)] => C (enD a)
  | [.va (.tup a)] => C (enD a)
  | _ => False
/-- turned about -/
def rvS (x : D) (C : R → Prop) : Prop :=
  match x with
  | .lst ds => ds.all D.leafy = true ∧ C (.ow (.lst ds.reverse))
  | .tup ds => C (.va (.tup ds.reverse))
  | .flz ds => C (.va (.lst ds.reverse))
  | _ => False
/-- tuple(range(a, b)), list(range(a, b)) -/
def rgS (l : Bool) (x y : D) (C : R → Prop) : Prop :=
  match x, y with
  | .int i, .int j => (-(2 ^ 62) ≤ i ∧ i < 2 ^ 62 ∧ -(2 ^ 62) ≤ j ∧ j < 2 ^ 62 ∧ (j - i).toNat ≤ 16777216) ∧ match l with
    | true => C (.ow (.lst ((List.range (j - i).toNat).map fun (n : Nat) => D.int (i + n))))
    | false => C (.va (.tup ((List.range (j - i).toNat).map fun (n : Nat) => D.int (i + n))))
  | _, _ => False
def rangeD (lo : Int) (n : Nat) : List D := (List.range n).map fun (i : Nat) => D.int (lo + i)
/-- lo, lo - 1, .. -/
def rngDn (lo : Int) (n : Nat) : List D := (List.range n).map fun (i : Nat) => D.int (lo + (i : Int) * (-1))
def tgt (g : G) (d : D) (env : Env) (C : Env → Prop) : Prop :=
  match g with
  | .nm i => setK env i (.sh d) C
  | .tp is => match d with
    | .tup ds => ds.length = is.length ∧ go is ds env C
    | _ => False
where
  go : List Nat → List D → Env → (Env → Prop) → Prop
    | i :: is, d :: ds, env, C => setK env i (.sh d) fun env' => go is ds env' C
    | _, _, env, C => C env
/-- arguments handed over: m says which may be changed (their slots stand empty meanwhile) -/
def argK : List Bool → List R → Env → (List D → Env → Prop) → Prop
  | [], [], env, k => k [] env
  | true :: m, .rf i :: rs, env, k => getK env i fun s => match s with
    | .ow d => setK env i .no fun env' => argK m rs env' fun ds e => k (d :: ds) e
    | _ => False
  | true :: m, .ow d :: rs, env, k => argK m rs env fun ds e => k (d :: ds) e
  | false :: m, .va d :: rs, env, k => argK m rs env fun ds e => k (d :: ds) e
  | false :: m, .ow d :: rs, env, k => argK m rs env fun ds e => k (d :: ds) e
  | _, _, _, _ => False
/-- .. and what they are behind -/
def outK : List Bool → List R → List D → Env → (Env → Prop) → Prop
  | true :: m, .rf i :: rs, d :: ds, env, k => setK env i (.ow d) fun env' => outK m rs ds env' k
  | true :: m, .ow _ :: rs, _ :: ds, env, k => outK m rs ds env k
  | false :: m, _ :: rs, ds, env, k => outK m rs ds env k
  | _, [], [], env, k => k env
  | _, _, _, _, _ => False
/-- no dict goes into a list or a tuple -/
def ndK (d : D) (C : Prop) : Prop :=
  match d with
  | .dct _ _ => False
  | _ => C
theorem ndK_nd {d : D} {C : Prop} (h : ndK d C) : d.nd = true ∧ C := by
  cases d <;> first | exact ⟨rfl, h⟩ | exact h.elim
/-- a display's items -/
def lstK : List R → (List D → Prop) → Prop
  | [], k => k []
  | .va d :: rs, k => d.leafy = true ∧ lstK rs fun ds => k (d :: ds)
  | .ow d :: rs, k => ndK d (lstK rs fun ds => k (d :: ds))
  | _, _ => False
def tupK : List R → (List D → Prop) → Prop
  | [], k => k []
  | .va d :: rs, k => ndK d (tupK rs fun ds => k (d :: ds))
  | .ow d :: rs, k => ndK d (tupK rs fun ds => k (d :: ds))
  | _, _ => False
def rdL (env : Env) : List R → (List D → Prop) → Prop
  | [], k => k []
  | r :: rs, k => rd false env r fun d => rdL env rs fun ds => k (d :: ds)
def isTy (d : D) (ty : Ty) : Bool :=
  match ty with
  | .bool => match d with
    | .bl _ => true
    | _ => false
  | .int => match d with
    | .bl _ => true
    | .int _ => true
    | _ => false
  | .str => match d with
    | .str _ => true
    | _ => false
  | .tuple => match d with
    | .tup _ => true
    | _ => false
  | .list => match d with
    | .lst _ => true
    | .scr _ => true
    | .flz _ => true
    | _ => false
  | .dict => match d with
    | .dct _ _ => true
    | _ => false

def rdL1 (env : Env) : List R → (List D → Prop) → Prop
  | [r], k => rd true env r fun d => k [d]
  | rs, k => rdL env rs k

/-- what a comprehension's own name holds again behind it -/
def Slot.keep : Slot → Slot
  | .sh d => .sh d
  | _ => .no
def G.sl : G → List Nat
  | .nm i => [i]
  | .tp is => is
def savK : List Nat → Env → (List Slot → Prop) → Prop
  | [], _, k => k []
  | i :: is, env, k => getK env i fun s => savK is env fun ss => k (s :: ss)
def clrK : List Nat → Env → (Env → Prop) → Prop
  | [], env, k => k env
  | i :: is, env, k => clrK is env fun e => setK e i .no k
def rstK : List Nat → List Slot → Env → (Env → Prop) → Prop
  | i :: is, s :: ss, env, k => setK env i s.keep fun e => rstK is ss e k
  | [], [], env, k => k env
  | _, _, _, _ => False
/-- [e for .. in items if ..]: acc so far -/
def lcK0 (gd : Env → Prop) (g : G) (t : Env → (Bool → Env → Prop) → Prop) (e : Env → (R → Env → Prop) → Prop) : List D → List D → Env → (List D → Env → Prop) → Prop
  | [], acc, env, C => gd env ∧ C acc env
  | d :: ds, acc, env, C => gd env ∧ tgt g d env fun env1 => t env1 fun b env2 => (b = true → e env2 fun r env3 => acc.length < sizeLine ∧ lstK [r] fun y => lcK0 gd g t e ds (acc ++ y) env3 C) ∧ (b = false → lcK0 gd g t e ds acc env2 C)
@[irreducible] def lcK (gd : Env → Prop) (g : G) (t : Env → (Bool → Env → Prop) → Prop) (e : Env → (R → Env → Prop) → Prop) (ds acc : List D) (env : Env) (C : List D → Env → Prop) : Prop := lcK0 gd g t e ds acc env C
section
variable {gd : Env → Prop} {g : G} {t : Env → (Bool → Env → Prop) → Prop} {e : Env → (R → Env → Prop) → Prop} {acc : List D} {env : Env} {C : List D → Env → Prop} {d : D} {ds : List D}
theorem lcK_nil : lcK gd g t e [] acc env C = (gd env ∧ C acc env) := by unfold lcK; rfl
theorem lcK_cons : lcK gd g t e (d :: ds) acc env C = (gd env ∧ tgt g d env fun env1 => t env1 fun b env2 => (b = true → e env2 fun r env3 => acc.length < sizeLine ∧ lstK [r] fun y => lcK gd g t e ds (acc ++ y) env3 C) ∧ (b = false → lcK gd g t e ds acc env2 C)) := by unfold lcK; rfl
end

/-- what is taken off a list's end -/
def extR (r : R) (C : List D → Prop) : Prop :=
  match r with
  | .va (.tup zs) => C zs
  | .ow (.lst zs) => C zs
  | _ => False
def popR (d : D) : R :=
  match d with
  | .dct ks ds => .ow (.dct ks ds)
  | .lst es => .ow (.lst es)
  | d => .va d
/-! frozen for a while -/
mutual
def flatT : D → Bool
  | .non => true
  | .bl _ => true
  | .int _ => true
  | .str _ => true
  | .lst ds => flatL ds
  | _ => false
def flatL : List D → Bool
  | [] => true
  | d :: ds => flatT d && flatL ds
end
def frzS (s : Slot) : Slot :=
  match s with
  | .ow d => .sh d
  | s => s
def frzK : List Bool → Env → (Env → Prop) → Prop
  | true :: q, s :: env, k => frzK q env fun e => k (frzS s :: e)
  | false :: q, s :: env, k => frzK q env fun e => k (s :: e)
  | [], env, k => k env
  | _ :: _, [], k => k []
def slotK (s : Slot) (k : Slot → Prop) : Prop :=
  match s with
  | .no => k .no
  | .sh d => match d with
    | .int i => k (.sh (.int i))
    | .bl b => k (.sh (.bl b))
    | .str t => k (.sh (.str t))
    | .non => k (.sh .non)
    | _ => k .no
  | .ow d => flatT d = true ∧ k (.ow d)
def thawK : List Bool → Env → Env → (Env → Prop) → Prop
  | true :: q, s0 :: old, _ :: new, k => thawK q old new fun e => k (s0 :: e)
  | false :: q, _ :: old, s :: new, k => slotK s fun s' => thawK q old new fun e => k (s' :: e)
  | [], _ :: old, s :: new, k => slotK s fun s' => thawK [] old new fun e => k (s' :: e)
  | _, [], [], k => k []
  | _, _, _, _ => False

/-- a result that stays when what was frozen is free again -/
def flatR (r : R) (C : R → Prop) : Prop :=
  match r with
  | .va d => match d with
    | .int i => C (.va (.int i))
    | .bl b => C (.va (.bl b))
    | .str t => C (.va (.str t))
    | .non => C (.va .non)
    | _ => False
  | .ow d => flatT d = true ∧ C (.ow d)
  | _ => False
/-- a name that holds a whole number, or a whole number -/
def atmK (e : E) (env : Env) (k : Int → Prop) : Prop :=
  match e with
  | .v j => getK env j fun s => match s with
    | .sh d => match d with
      | .int z => k z
      | _ => False
    | _ => False
  | .int z => k z
  | _ => False
def hd0 (b : Bool) (d : D) : D :=
  match d with
  | .lst (_ :: es) => .lst (.bl b :: es)
  | d => d

mutual
def wE : E → Env → (R → Env → Prop) → Prop
  | .v i, env, C => getK env i fun s => match s with
    | .sh d => C (.va d) env
    | .ow _ => C (.rf i) env
    | .no => False
  | .mv i, env, C => getK env i fun s => match s with
    | .sh d => C (.va d) env
    | .ow d => setK env i .no fun env' => C (.ow d) env'
    | .no => False
  | .fz e, env, C => wE e env fun r env' => match r with
    | .va d => C (.va d) env'
    | .ow d => C (.va d) env'
    | _ => False
  | .fzw e, env, C => wE e env fun r env' => match r with
    | .va d => match d with
      | .lst ds => C (.va (.flz ds)) env'
      | _ => False
    | .ow d => match d with
      | .lst ds => C (.va (.flz ds)) env'
      | _ => False
    | _ => False
  | .unw e, env, C => wE e env fun r env' => match r with
    | .va d => match d with
      | .flz ds => C (.va (.lst ds)) env'
      | _ => False
    | _ => False
  | .non, env, C => C (.va .non) env
  | .bl b, env, C => C (.va (.bl b)) env
  | .int z, env, C => C (.va (.int z)) env
  | .str s, env, C => C (.va (.str s)) env
  | .gl _ d, env, C => C (.va d) env
  | .op o a b, env, C => wE a env fun r env1 => wE b env1 fun u env2 => rd b.qt env2 r fun x => rd true env2 u fun y => opS o x y fun z => C z env2
  | .cmp o a b, env, C => wE a env fun r env1 => wE b env1 fun u env2 => rd b.qt env2 r fun x => rd true env2 u fun y => cmpS o x y fun z => C (.va (.bl z)) env2
  | .neg a, env, C => wE a env fun r env1 => rd true env1 r fun x => match x with
    | .int i => C (.va (.int (-i))) env1
    | _ => False
  | .nt a, env, C => wE a env fun r env1 => rd true env1 r fun x => match x with
    | .bl b => C (.va (.bl (!b))) env1
    | _ => False
  | .an a b, env, C => wE a env fun r env1 => rd true env1 r fun x => match x with
    | .bl c => (c = true → wE b env1 C) ∧ (c = false → C (.va (.bl false)) env1)
    | _ => False
  | .orr a b, env, C => wE a env fun r env1 => rd true env1 r fun x => match x with
    | .bl c => (c = true → C (.va (.bl true)) env1) ∧ (c = false → wE b env1 C)
    | _ => False
  | .ite t a b, env, C => wT t env fun c env1 => (c = true → wE a env1 C) ∧ (c = false → wE b env1 C)
  | .ix a b, env, C => wE a env fun r env1 => wE b env1 fun u env2 => rd b.qt env2 r fun x => rd true env2 u fun y => ixS (frz r) x y fun z => C z env2
  | .sl a lo hi, env, C => wE a env fun r env1 => wO lo env1 fun l env2 => wO hi env2 fun h env3 => rd false env3 r fun x => slS x l h fun z => C z env3
  | .tup es, env, C => wEs es env fun rs env1 => tupK rs fun ds => ds.length ≤ sizeLine ∧ C (.va (.tup ds)) env1
  | .lst es, env, C => wEs es env fun rs env1 => lstK rs fun ds => ds.length ≤ sizeLine ∧ C (.ow (.lst ds)) env1
  | .call _ sp m es, env, C => wEs es env fun rs env1 => argK m rs env1 fun ds env2 => ∃ g, sp.pre g ds ∧ ∀ r outs, sp.post g r outs → outK m rs outs env2 fun env3 => C r env3
  | .cb b es, env, C => wEs es env fun rs env1 => rdL1 env1 rs fun ds => biS b ds fun z => C z env1
  | .mt m o es, env, C => wE o env fun r env1 => rd true env1 r fun x0 => mtTy m x0 = true ∧ wEs es env1 fun rs env2 => rd false env2 r fun x => rdL env2 rs fun ds => mtS m x ds fun z => C z env2
  | .isi a ty, env, C => wE a env fun r env1 => rd true env1 r fun x => C (.va (.bl (isTy x ty))) env1
  | .lc g it t e, env, C => wI it env fun gd ds env1 => savK g.sl env1 fun ss => clrK g.sl env1 fun env2 => lcK gd g (wT t) (wE e) ds [] env2 fun acc env3 => rstK g.sl ss env3 fun env4 => C (.ow (.lst acc)) env4
  | .chv o p a b c, env, C => wE a env fun r env1 => wE b env1 fun u env2 => rd b.qt env2 r fun x => rd true env2 u fun y => cmpS o x y fun z =>
      (z = true → wE c env2 fun w env3 => rd c.qt env3 u fun y => rd true env3 w fun x => cmpS p y x fun z => C (.va (.bl z)) env3) ∧ (z = false → C (.va (.bl false)) env2)
  | .rv a, env, C => wE a env fun r env1 => rd true env1 r fun x => rvS x fun z => C z env1
  | .rg l a b, env, C => wE a env fun r env1 => wE b env1 fun u env2 => rd b.qt env2 r fun x => rd true env2 u fun y => rgS l x y fun z => C z env2
  | .pop i, env, C => getK env i fun s => match s with
    | .ow (.lst ds) => ∃ d0, ds.getLast? = some d0 ∧ setK env i (.ow (.lst ds.dropLast)) fun e => C (popR d0) e
    | _ => False
  | .popI i e, env, C => getK env i fun s => match s with
    | .ow (.lst _) => wE e env fun r env1 => match r with
      | .va (.int z) => getK env1 i fun s => match s with
        | .ow (.lst ds) => (-(2 ^ 63) ≤ z ∧ z < 2 ^ 63) ∧ ds.all D.leafy = true ∧ ∃ j d0, (ixN ds.length z = some j ∧ ds[j]? = some d0) ∧ setK env1 i (.ow (.lst (ds.eraseIdx j))) fun e => C (.va d0) e
        | _ => False
      | _ => False
    | _ => False
  | .frz q e, env, C => frzK q env fun env1 => wE e env1 fun r env2 => flatR r fun z => thawK q env env2 fun env3 => C z env3
  | .dnew, env, C => C (.ow (.dct [] [])) env
  | .dsp1 a b, env, C => wE a env fun u env1 => rd true env1 u fun y => keyK y fun kk => wE b env1 fun r env2 => lstK [r] fun y => C (.ow (.dct [kk] y)) env2
  | .dget a b c, env, C => wE a env fun r env1 => rd true env1 r fun x0 => isDct x0 = true ∧ wE b env1 fun u env2 => wE c env2 fun w env3 => rd false env3 r fun x => rd false env3 u fun y => dgetS (frz r) x y w fun z => C z env3
  | .flst es, env, C => wEs es env fun rs env1 => tupK rs fun ds => ds.length ≤ sizeLine ∧ C (.va (.lst ds)) env1
def wO : OE → Env → (Option Int → Env → Prop) → Prop
  | .no, env, C => C none env
  | .so e, env, C => wE e env fun r env1 => match r with
    | .va (.int i) => C (some i) env1
    | _ => False
def wEs : Es → Env → (List R → Env → Prop) → Prop
  | .nil, env, C => C [] env
  | .cons e es, env, C => wE e env fun r env1 => wEs es env1 fun rs env2 => C (r :: rs) env2
def wT : T → Env → (Bool → Env → Prop) → Prop
  | .yes, env, C => C true env
  | .tr e, env, C => wE e env fun r env1 => rd true env1 r fun x => truS x fun b => C b env1
  | .cmp o a b, env, C => wE a env fun r env1 => wE b env1 fun u env2 => rd b.qt env2 r fun x => rd true env2 u fun y => cmpS o x y fun z => C z env2
  | .ch o p a b c, env, C => wE a env fun r env1 => wE b env1 fun u env2 => rd b.qt env2 r fun x => rd true env2 u fun y => cmpS o x y fun z =>
      (z = true → wE c env2 fun w env3 => rd c.qt env3 u fun y => rd true env3 w fun x => cmpS p y x fun z => C z env3) ∧ (z = false → C false env2)
  | .an a b, env, C => wT a env fun c env1 => (c = true → wT b env1 C) ∧ (c = false → C false env1)
  | .orr a b, env, C => wT a env fun c env1 => (c = true → C true env1) ∧ (c = false → wT b env1 C)
  | .nt a, env, C => wT a env fun c env1 => C (!c) env1
def wI : It → Env → ((Env → Prop) → List D → Env → Prop) → Prop
  | .sq e, env, C => wE e env fun r env1 => match r with
    | .va d => itemsOf d fun ds => C (fun _ => True) ds env1
    | .ow d => itemsOf d fun ds => C (fun _ => True) ds env1
    | _ => False
  | .sl i, env, C => getK env i fun s => match s with
    | .ow (.lst ds) => ds.all D.leafy = true ∧ C (fun e => e[i]? = some (.ow (.lst ds))) ds env
    | _ => False
  | .r1 a, env, C => wE a env fun r env1 => match r with
    | .va (.int j) => (-(2 ^ 62) ≤ j ∧ j < 2 ^ 62) ∧ C (fun _ => True) (rangeD 0 j.toNat) env1
    | _ => False
  | .r2 a b, env, C => wE a env fun r env1 => wE b env1 fun u env2 => match r, u with
    | .va (.int i), .va (.int j) => (-(2 ^ 62) ≤ i ∧ i < 2 ^ 62 ∧ -(2 ^ 62) ≤ j ∧ j < 2 ^ 62) ∧ C (fun _ => True) (rangeD i (j - i).toNat) env2
    | _, _ => False
  | .zip es, env, C => wEs es env fun rs env1 => zipI rs fun ds => C (fun _ => True) ds env1
  | .en es, env, C => wEs es env fun rs env1 => enI rs fun ds => C (fun _ => True) ds env1
  | .rr a, env, C => wE a env fun r env1 => match r with
    | .va (.int j) => (-(2 ^ 62) ≤ j ∧ j < 2 ^ 62) ∧ C (fun _ => True) (rngDn (0 + ((j - 0).toNat : Int) - 1) (j - 0).toNat) env1
    | _ => False
  | .rl a, env, C => wE a env fun r env1 => match r with
    | .va d => match d with
      | .lst ds => C (fun _ => True) ds.reverse env1
      | _ => False
    | .ow d => match d with
      | .lst ds => C (fun _ => True) ds.reverse env1
      | _ => False
    | _ => False
  | .r3 a b c, env, C => wE a env fun r env1 => wE b env1 fun u env2 => wE c env2 fun w env3 => match r, u, w with
    | .va (.int i), .va (.int j), .va (.int k) => (-(2 ^ 62) ≤ i ∧ i < 2 ^ 62 ∧ -(2 ^ 62) ≤ j ∧ j < 2 ^ 62 ∧ k = -1) ∧ C (fun _ => True) (rngDn i (i - j).toNat) env3
    | _, _, _ => False
end

def fxI (m : List Bool) (i : Nat) : Bool := m[i]? == some true
/-! ### statements -/
structure KS where
  nx : Env → Prop
  rt : R → Env → Prop
  bk : Env → Prop := fun _ => False
  ct : Env → Prop := fun _ => False
/-- the ends of a block that is followed by f; of a loop's body -/
def KS.then (K : KS) (f : Env → Prop) : KS := ⟨f, K.rt, K.bk, K.ct⟩
def KS.loop (K : KS) (f : Env → Prop) : KS := ⟨f, K.rt, K.nx, f⟩
def wFor0 (g : G) (body : Env → KS → Prop) (K : KS) : List D → Env → Prop
  | [], env => K.nx env
  | d :: ds, env => tgt g d env fun env1 => body env1 (K.loop fun e => wFor0 g body K ds e)
@[irreducible] def wFor (g : G) (body : Env → KS → Prop) (K : KS) (ds : List D) (env : Env) : Prop := wFor0 g body K ds env
theorem wFor_nil' {g : G} {body : Env → KS → Prop} {K : KS} {env : Env} : wFor g body K [] env = K.nx env := by unfold wFor; rfl
theorem wFor_cons' {g : G} {body : Env → KS → Prop} {K : KS} {env : Env} {d : D} {ds : List D} : wFor g body K (d :: ds) env = tgt g d env fun env1 => body env1 (K.loop fun e => wFor g body K ds e) := by unfold wFor; rfl
/-- over a list that stands in a slot, as it stands at each turn -/
@[irreducible] def wForS (i : Nat) (g : G) (body : Env → KS → Prop) (K : KS) (env : Env) : Prop :=
  ∃ W : Nat → Nat → Env → Prop, (∃ m, W 0 m env) ∧ ∀ k m env, W k m env → ∃ ds, env[i]? = some (.ow (.lst ds)) ∧ match ds[k]? with
    | none => K.nx env
    | some d => d.leafy = true ∧ tgt g d env fun env1 => body env1 (K.loop fun e => ∃ m', m' < m ∧ W (k + 1) m' e)
def wWhl (t : Env → (Bool → Env → Prop) → Prop) (body : Env → KS → Prop) (K : KS) (env : Env) : Prop :=
  ∃ W : Nat → Env → Prop, (∃ m, W m env) ∧ ∀ m env, W m env → t env fun c env1 => (c = true → body env1 (K.loop fun e => ∃ m', m' < m ∧ W m' e)) ∧ (c = false → K.nx env1)
/-- a result stored into a name -/
def stK (i : Nat) (r : R) (env : Env) (C : Env → Prop) : Prop :=
  match r with
  | .va d => setK env i (.sh d) C
  | .ow d => setK env i (.ow d) C
  | _ => False
mutual
def wS : S → Env → KS → Prop
  | .asg g e, env, K => wE e env fun r env1 => match g with
    | .nm i => stK i r env1 K.nx
    | g => match r with
      | .va d => tgt g d env1 K.nx
      | _ => False
  | .ex e, env, K => wE e env fun _ env1 => K.nx env1
  | .ret e, env, K => wE e env fun r env1 => match r with
    | .va d => K.rt (.va d) env1
    | .ow d => K.rt (.ow d) env1
    | _ => False
  | .retN, env, K => K.rt (.va .non) env
  | .ifs t a b, env, K => wT t env fun c env1 => (c = true → wSs a env1 K) ∧ (c = false → wSs b env1 K)
  | .for g it b, env, K => wI it env fun gd ds env1 => (∀ e, gd e) ∧ wFor g (wSs b) K ds env1
  | .fors g i b, env, K => wForS i g (wSs b) K env
  | .whl t b, env, K => wWhl (wT t) (wSs b) K env
  | .brk, env, K => K.bk env
  | .cont, env, K => K.ct env
  | .pass, env, K => K.nx env
  | .app i e, env, K => getK env i fun s => match s with
    | .ow (.lst _) => wE e env fun r env1 => getK env1 i fun s => match s with
      | .ow (.lst ds) => ds.length < sizeLine ∧ lstK [r] fun y => setK env1 i (.ow (.lst (ds ++ y))) K.nx
      | _ => False
    | _ => False
  | .set i k e, env, K => getK env i fun s => match s with
    | .ow (.lst _) => wE e env fun r env1 => wE k env1 fun u env2 => match u with
      | .va (.int z) => getK env2 i fun s => match s with
        | .ow (.lst ds) => ∃ j, ixN ds.length z = some j ∧ lstK [r] fun y => setK env2 i (.ow (.lst (ds.set j (y.headD .non)))) K.nx
        | _ => False
      | _ => False
    | _ => False
  | .setP i a k e, env, K => getK env i fun s => match s with
    | .ow (.lst _) => wE e env fun r env1 => wE a env1 fun ua env2 => match ua with
      | .va (.int za) => getK env2 i fun s => match s with
        | .ow (.lst ds) => ∃ j es, (ixN ds.length za = some j ∧ ds[j]? = some (.lst es)) ∧ wE k env2 fun uk env3 => match uk with
          | .va (.int z) => k.qt = true ∧ getK env3 i fun s => match s with
            | .ow (.lst ds) => ∃ es j2, (ds[j]? = some (.lst es) ∧ ixN es.length z = some j2) ∧ lstK [r] fun y => setK env3 i (.ow (.lst (ds.set j (.lst (es.set j2 (y.headD .non)))))) K.nx
            | _ => False
          | _ => False
        | _ => False
      | _ => False
    | _ => False
  | .rev i, env, K => getK env i fun s => match s with
    | .ow (.lst ds) => setK env i (.ow (.lst ds.reverse)) K.nx
    | _ => False
  | .frz q s, env, K => frzK q env fun env1 => wS s env1 ⟨fun e => thawK q env e K.nx, fun _ _ => False, fun _ => False, fun _ => False⟩
  | .appP i a e, env, K => getK env i fun s => match s with
    | .ow (.lst _) => wE a env fun ua env1 => match ua with
      | .va (.int za) => getK env1 i fun s => match s with
        | .ow (.lst ds) => ∃ j es, (ixN ds.length za = some j ∧ ds[j]? = some (.lst es)) ∧ wE e env1 fun r env2 => e.qt = true ∧ getK env2 i fun s => match s with
          | .ow (.lst ds) => ∃ es, (ds[j]? = some (.lst es) ∧ es.length < sizeLine) ∧ lstK [r] fun y => setK env2 i (.ow (.lst (ds.set j (.lst (es ++ y))))) K.nx
          | _ => False
        | _ => False
      | _ => False
    | _ => False
  | .augS i k e, env, K => getK env i fun s => match s with
    | .ow (.lst _) => wE k env fun u env1 => match u with
      | .va (.int z) => getK env1 i fun s => match s with
        | .ow (.lst ds) => ∃ j x, (ixN ds.length z = some j ∧ ds[j]? = some (.int x)) ∧ wE e env1 fun r env2 => match r with
          | .va (.int y) => getK env2 i fun s => match s with
            | .ow (.lst ds) => ∃ j, ixN ds.length z = some j ∧ setK env2 i (.ow (.lst (ds.set j (.int (x + y))))) K.nx
            | _ => False
          | _ => False
        | _ => False
      | _ => False
    | _ => False
  | .appPP q i a b e, env, K => fxI q i = true ∧ getK env i fun s => match s with
    | .ow (.lst ds) => atmK a env fun za => atmK b env fun zb => ∃ j es j2 gs, (ixN ds.length za = some j ∧ ds[j]? = some (.lst es) ∧ ixN es.length zb = some j2 ∧ es[j2]? = some (.lst gs)) ∧ gs.length < sizeLine ∧
      frzK q env fun env1 => wE e env1 fun r env2 => flatR r fun z => thawK q env env2 fun env3 => getK env3 i fun s => s = .ow (.lst ds) ∧ lstK [z] fun y => setK env3 i (.ow (.lst (ds.set j (.lst (es.set j2 (.lst (gs ++ y))))))) K.nx
    | _ => False
  | .clrP i a b, env, K => getK env i fun s => match s with
    | .ow (.lst ds) => atmK a env fun za => atmK b env fun zb => ∃ j es j2 gs, (ixN ds.length za = some j ∧ ds[j]? = some (.lst es) ∧ ixN es.length zb = some j2 ∧ es[j2]? = some (.lst gs)) ∧ setK env i (.ow (.lst (ds.set j (.lst (es.set j2 (.lst [])))))) K.nx
    | _ => False
  | .mset g i b, env, K => getK env i fun s => match s with
    | .ow (.lst ds) => (∀ d ∈ ds, ∃ x es, d = .lst (x :: es)) ∧ setK env i (.ow (.lst (ds.map (hd0 b)))) fun env1 => setK env1 g .no K.nx
    | _ => False
  | .ext i e, env, K => getK env i fun s => match s with
    | .ow (.lst _) => wE e env fun r env1 => extR r fun zs => zs.all D.leafy = true ∧ getK env1 i fun s => match s with
      | .ow (.lst ds) => ds.length + zs.length ≤ sizeLine ∧ setK env1 i (.ow (.lst (ds ++ zs))) K.nx
      | _ => False
    | _ => False
  | .augN i e, env, K => getK env i fun s => match s with
    | .sh (.int a) => wE e env fun r env1 => match r with
      | .va (.int b) => setK env1 i (.sh (.int (a + b))) K.nx
      | _ => False
    | _ => False
  | .unl is e, env, K => wE e env fun r env1 => match r with
    | .va d => match d with
      | .lst ds => ds.length = is.length ∧ tgt.go is ds env1 K.nx
      | _ => False
    | .ow d => match d with
      | .lst ds => ds.length = is.length ∧ tgt.go is ds env1 K.nx
      | _ => False
    | _ => False
  | .par i j a b, env, K => wE a env fun r env1 => wE b env1 fun u env2 => match r with
    | .va d => match u with
      | .va e => setK env2 i (.sh d) fun env3 => setK env3 j (.sh e) K.nx
      | _ => False
    | _ => False
  | .dput i k e, env, K => getK env i fun s => match s with
    | .ow (.dct _ _) => wE e env fun r env1 => wE k env1 fun u env2 => rd true env2 u fun y => keyK y fun kk => getK env2 i fun s => match s with
      | .ow (.dct ks ds) => ks.length < sizeLine ∧ lstK [r] fun y => setK env2 i (.ow (dputD ks ds kk y)) K.nx
      | _ => False
    | _ => False
  | .frzP q s, env, K => frzK q env fun env1 => wS s env1 K
  | .sdf i k e, env, K => getK env i fun s => match s with
    | .ow (.dct _ _) => wE k env fun u env1 => wE e env1 fun r env2 => rd e.qt env2 u fun y => keyK y fun kk => getK env2 i fun s => match s with
      | .ow (.dct ks ds) => ks.length < sizeLine ∧ match kix ks kk with
        | some _ => K.nx env2
        | none => lstK [r] fun y => setK env2 i (.ow (.dct (ks ++ [kk]) (ds ++ y))) K.nx
      | _ => False
    | _ => False
  | .sdApp i k e, env, K => getK env i fun s => match s with
    | .ow (.dct _ _) => wE k env fun u env1 => rd true env1 u fun y => keyK y fun kk => getK env1 i fun s => match s with
      | .ow (.dct ks ds) => ks.length < sizeLine ∧ sdK ks ds kk fun ks' ds' j => ∃ es, ds'[j]? = some (.lst es) ∧ es.length < sizeLine ∧ setK env1 i .no fun env2 => wE e env2 fun r env3 => lstK [r] fun y => setK env3 i (.ow (.dct ks' (ds'.set j (.lst (es ++ y))))) K.nx
      | _ => False
    | _ => False
  | .augSub i k e, env, K => getK env i fun s => match s with
    | .ow (.lst _) => wE k env fun u env1 => match u with
      | .va (.int z) => getK env1 i fun s => match s with
        | .ow (.lst ds) => ∃ j x, (ixN ds.length z = some j ∧ ds[j]? = some (.int x)) ∧ wE e env1 fun r env2 => match r with
          | .va (.int y) => getK env2 i fun s => match s with
            | .ow (.lst ds) => ∃ j, ixN ds.length z = some j ∧ setK env2 i (.ow (.lst (ds.set j (.int (x - y))))) K.nx
            | _ => False
          | _ => False
        | _ => False
      | _ => False
    | _ => False
  | .dinc i k e, env, K => getK env i fun s => match s with
    | .ow (.dct _ _) => wE k env fun u env1 => rd true env1 u fun y => keyK y fun kk => getK env1 i fun s => match s with
      | .ow (.dct ks ds) => ∃ x, dgt ks ds kk = some (.int x) ∧ wE e env1 fun r env2 => match r with
        | .va (.int y) => getK env2 i fun s => match s with
          | .ow (.dct ks ds) => ∃ j, (kix ks kk = some j ∧ ks.length < sizeLine) ∧ setK env2 i (.ow (.dct ks (ds.set j (.int (x + y))))) K.nx
          | _ => False
        | _ => False
      | _ => False
    | _ => False
  | .ins i a e, env, K => getK env i fun s => match s with
    | .ow (.lst _) => wE a env fun r env1 => wE e env1 fun u env2 => match r with
      | .va (.int z) => getK env2 i fun s => match s with
        | .ow (.lst ds) => ds.length < sizeLine ∧ (0 ≤ z ∧ z < 2 ^ 63) ∧ lstK [u] fun y => setK env2 i (.ow (.lst (ds.take z.toNat ++ y ++ ds.drop z.toNat))) K.nx
        | _ => False
      | _ => False
    | _ => False
def wSs : Ss → Env → KS → Prop
  | .nil, env, K => K.nx env
  | .cons s ss, env, K => wS s env (K.then fun e => wSs ss e K)
  | .bor i r k ss, env, K => getK env i fun s => match s with
    | .ow (.dct _ _) => wE k env fun u env1 => rd true env1 u fun y => keyK y fun kk => getK env1 i fun s => match s with
      | .ow (.dct ks ds) => ks.length < sizeLine ∧ sdK ks ds kk fun ks' ds' j => ∃ es, ds'[j]? = some (.lst es) ∧ setK env1 i .no fun env2 => setK env2 r (.ow (.lst es)) fun env3 =>
          wSs ss env3 ⟨fun e => getK e r fun s => match s with
            | .ow (.lst es') => setK e r .no fun e1 => setK e1 i (.ow (.dct ks' (ds'.set j (.lst es')))) K.nx
            | _ => False, fun _ _ => False, fun _ => False, fun _ => False⟩
      | _ => False
    | _ => False
end
end PW

namespace PW
open PySem L2

/-! ### the code is the text -/
def visB (N : List Str) (sc : Scope) (i : Nat) (x : Str) : Bool :=
  decide (N[i]? = some x) && (match sc.names.lookup x with | some .local => true | some .cell => true | some .free => true | _ => false) && !(x == ("__debug__" : Str)) && !(x == ("__classdict__" : Str))
def locB (N : List Str) (sc : Scope) (i : Nat) (x : Str) : Bool :=
  decide (N[i]? = some x) && (match sc.names.lookup x with | some .local => true | some .cell => true | _ => false)
def glB (sc : Scope) (x : Str) : Bool := decide (sc.names.lookup x = some .globalImplicit) && !(x == ("__debug__" : Str)) && decide (x ≠ ("__name__" : Str))
def Bi.nm : Bi → Str
  | .len => "len" | .abs => "abs" | .min2 => "min" | .max2 => "max" | .int => "int" | .bool => "bool" | .str => "str" | .sum => "sum" | .list => "list" | .tuple => "tuple"
  | .sorted => "sorted" | .all => "all" | .any => "any" | .max1 => "max" | .min1 => "min" | .sortP => "sorted"
def Mt.nm : Mt → Str
  | .join => "join" | .sindex => "index" | .partition => "partition" | .find => "find" | .lindex => "index" | .upper => "upper"
def notC0 : Expr → Bool
  | .Call (.Name _ _) [] [] _ => false
  | _ => true
def starred : Expr → Bool
  | .Starred _ _ => true
  | _ => false
def compLike : Expr → Bool
  | .ListComp _ _ _ _ => true
  | .SetComp _ _ _ _ => true
  | .DictComp _ _ _ _ _ => true
  | _ => false
/-- truth is asked of the value -/
def plainT : Expr → Bool
  | .UnaryOp .Not _ _ => false
  | .BoolOp _ _ _ => false
  | .IfExp _ _ _ _ => false
  | .Compare _ _ _ _ => false
  | _ => true
def Ty.nm : Ty → Str
  | .bool => "bool" | .int => "int" | .str => "str" | .tuple => "tuple" | .list => "list" | .dict => "dict"
def Ty.st : Ty → String
  | .bool => "bool" | .int => "int" | .str => "str" | .tuple => "tuple" | .list => "list" | .dict => "dict"
def isNm (x : Str) : Expr → Bool
  | .Name y _ => x == y
  | _ => false

def isYes : T → Bool
  | .yes => true
  | _ => false
def ifsB (t : T) (f : Expr → Bool) : List Expr → Bool
  | [] => isYes t
  | [c] => f c
  | _ => false
def ownB (s : Scope) (x : Str) : Bool := match s.names.lookup x with
  | some .local => true
  | some .cell => true
  | _ => false
def slB : It → Nat → Bool
  | .sl j, i => !(j == i)
  | _, _ => true
def nmB (N : List Str) (sc s : Scope) (it : It) (i : Nat) (x : Str) : Bool := locB N sc i x && ownB s x && slB it i
def ownG : List Nat → List Expr → List (Str × Nat)
  | i :: is, .Name x _ :: xs => (x, i) :: ownG is xs
  | _, _ => []
def gsB (N : List Str) (sc s : Scope) (it : It) : List Nat → List Expr → Bool
  | [], [] => true
  | i :: is, .Name x _ :: xs => nmB N sc s it i x && gsB N sc s it is xs
  | _, _ => false
/-- a comprehension's own names -/
def ownP : G → Expr → List (Str × Nat)
  | .nm i, .Name x _ => [(x, i)]
  | .tp is, .Tuple xs _ _ => ownG is xs
  | _, _ => []
def gB (N : List Str) (sc s : Scope) (it : It) : G → Expr → Bool
  | .nm i, .Name x _ => nmB N sc s it i x
  | .tp is, .Tuple xs _ _ => gsB N sc s it is xs && decide is.Nodup
  | _, _ => false
/-- walks whose items are new pairs want a tuple of names -/
def tpOk : It → Expr → Bool
  | .zip _, .Tuple _ _ _ => true
  | .en _, .Tuple _ _ _ => true
  | .zip _, _ => false
  | .en _, _ => false
  | _, _ => true
mutual
def cE (N : List Str) (sc : Scope) : E → Expr → Bool
  | .v i, .Name x _ => visB N sc i x
  | .mv i, .Name x _ => visB N sc i x
  | .fz e, x => cE N sc e x
  | .fzw e, x => cE N sc e x
  | .unw e, x => cE N sc e x
  | .non, .Constant .none _ _ => true
  | .bl b, .Constant (.bool c) _ _ => decide (b = c)
  | .int z, .Constant (.int y) _ _ => decide (z = y)
  | .str s, .Constant (.str x) _ _ => decide (x.cps.toList = s)
  | .gl x _, .Name y _ => decide (x = y) && glB sc y
  | .op o a b, .BinOp l p r _ => decide (o = p) && cE N sc a l && cE N sc b r
  | .cmp o a b, .Compare l [p] [r] _ => decide (o = p) && cE N sc a l && cE N sc b r
  | .neg a, .UnaryOp .USub l _ => cE N sc a l
  | .nt a, .UnaryOp .Not l _ => cE N sc a l
  | .an a b, .BoolOp .And (l :: m :: r) p => cE N sc a l && (match r with
      | [] => cE N sc b m
      | _ => cE N sc b (.BoolOp .And (m :: r) p))
  | .orr a b, .BoolOp .Or (l :: m :: r) p => cE N sc a l && (match r with
      | [] => cE N sc b m
      | _ => cE N sc b (.BoolOp .Or (m :: r) p))
  | .ite t a b, .IfExp c l r _ => cT N sc t c && cE N sc a l && cE N sc b r
  | .ix a b, .Subscript l r _ => cE N sc a l && cE N sc b r
  | .sl a lo hi, .Subscript l (.Slice x y none _) _ => cE N sc a l && cO N sc lo x && cO N sc hi y
  | .tup es, .Tuple xs _ _ => cEs N sc es xs
  | .lst es, .List xs _ => cEs N sc es xs
  | .call f _ m es, .Call (.Name g _) xs [] _ => decide (f = g) && glB sc g && cEs N sc es xs
  | .cb b es, .Call (.Name g _) (x :: xs) [] _ => decide (b.nm = g) && glB sc g && cEs N sc es (x :: xs)
  | .mt m o es, .Call (.Attribute x a ap) xs [] cp => decide (m.nm = a) && (ap.endLine == cp.line) && (decide (xs.length < 20) && notC0 x) && cE N sc o x && cEs N sc es xs
  | .isi a ty, .Call (.Name g _) [x, .Name t _] [] _ => decide (g = ("isinstance" : Str)) && glB sc g && cE N sc a x && decide (ty.nm = t) && glB sc t
  | .chv o o' a b c, .Compare l [p, p'] [r, r'] _ => decide (o = p) && decide (o' = p') && cE N sc a l && cE N sc b r && cE N sc c r'
  | .rg l a b, .Call (.Name g _) [.Call (.Name r _) [x, y] [] _] [] _ => decide (g = (if l then "list" else "tuple" : Str)) && decide (r = ("range" : Str)) && glB sc g && glB sc r && cE N sc a x && cE N sc b y
  | .rv a, .Subscript l (.Slice none none (some (.UnaryOp .USub (.Constant (.int 1) _ _) _)) _) _ => cE N sc a l
  | .pop i, .Call (.Attribute (.Name x _) a ap) [] [] cp => visB N sc i x && decide (a = ("pop" : Str)) && (ap.endLine == cp.line)
  | .popI i e, .Call (.Attribute (.Name x _) a ap) [y] [] cp => visB N sc i x && decide (a = ("pop" : Str)) && (ap.endLine == cp.line) && cE N sc e y
  | .frz _ e, x => !compLike x && cE N sc e x
  | .flst es, .List xs _ => cEs N sc es xs
  | .dnew, .Dict [] [] _ => true
  | .dsp1 a b, .Dict [some x] [y] _ => cE N sc a x && cE N sc b y
  | .dget a b c, .Call (.Attribute x at' ap) [y, z] [] cp => decide (at' = ("get" : Str)) && (ap.endLine == cp.line) && notC0 x && cE N sc a x && cE N sc b y && cE N sc c z
  | .lc g it t e, .ListComp elt [⟨tg, iter, ifs, 0⟩] s _ => tpOk it tg && cI N sc it iter && blkC N sc s (ownP g tg) && gB N (relS s sc) s it g tg &&
      ifsB t (cT N (relS s sc) t) ifs && cE N (relS s sc) e elt
  | _, _ => false
def cO (N : List Str) (sc : Scope) : OE → Option Expr → Bool
  | .no, none => true
  | .so e, some x => cE N sc e x
  | _, _ => false
def cEs (N : List Str) (sc : Scope) : Es → List Expr → Bool
  | .nil, [] => true
  | .cons e es, x :: xs => cE N sc e x && cEs N sc es xs
  | _, _ => false
def cT (N : List Str) (sc : Scope) : T → Expr → Bool
  | .tr e, x => plainT x && cE N sc e x
  | .cmp o a b, .Compare l [p] [r] _ => decide (o = p) && cE N sc a l && cE N sc b r
  | .ch o o' a b c, .Compare l [p, p'] [r, r'] _ => decide (o = p) && decide (o' = p') && cE N sc a l && cE N sc b r && cE N sc c r'
  | .an a b, .BoolOp .And (l :: m :: r) p => cT N sc a l && (match r with
      | [] => cT N sc b m
      | _ => cT N sc b (.BoolOp .And (m :: r) p))
  | .orr a b, .BoolOp .Or (l :: m :: r) p => cT N sc a l && (match r with
      | [] => cT N sc b m
      | _ => cT N sc b (.BoolOp .Or (m :: r) p))
  | .nt a, .UnaryOp .Not l _ => cT N sc a l
  | _, _ => false
def cI (N : List Str) (sc : Scope) : It → Expr → Bool
  | .sq e, x => !compLike x && cE N sc e x
  | .sl i, .Name x _ => visB N sc i x
  | .r1 a, .Call (.Name g _) [x] [] _ => decide (g = ("range" : Str)) && glB sc g && cE N sc a x
  | .r2 a b, .Call (.Name g _) [x, y] [] _ => decide (g = ("range" : Str)) && glB sc g && cE N sc a x && cE N sc b y
  | .zip es, .Call (.Name g _) [x, y] [] _ => decide (g = ("zip" : Str)) && glB sc g && cEs N sc es [x, y]
  | .en es, .Call (.Name g _) [x] [] _ => decide (g = ("enumerate" : Str)) && glB sc g && cEs N sc es [x]
  | .rr a, .Call (.Name g _) [.Call (.Name g2 _) [x] [] _] [] _ => decide (g = ("reversed" : Str)) && glB sc g && decide (g2 = ("range" : Str)) && glB sc g2 && cE N sc a x
  | .rl a, .Call (.Name g _) [x] [] _ => decide (g = ("reversed" : Str)) && glB sc g && cE N sc a x
  | .r3 a b c, .Call (.Name g _) [x, y, z] [] _ => decide (g = ("range" : Str)) && glB sc g && cE N sc a x && cE N sc b y && cE N sc c z
  | _, _ => false
end
def fxB (m : List Bool) (i : Nat) : Bool := m[i]? == some true
/-- two names of the def's own, stored from the right -/
def parB (sc : Scope) (x y : Str) (px py : Pos) (a b : Expr) : Bool :=
  decide (sc.names.lookup x = some .local) && decide (sc.names.lookup y = some .local) && (px.line == py.line) && !(x == y) && !([a, b].all (foldedForSure 8)) && !([a, b].all (constantsAlone 8))
def cG (N : List Str) (sc : Scope) (m : List Bool) : G → Expr → Bool
  | .nm i, .Name x _ => locB N sc i x && !fxB m i
  | .tp is, .Tuple xs _ _ => go is xs
  | _, _ => false
where
  go : List Nat → List Expr → Bool
    | [], [] => true
    | i :: is, .Name x _ :: xs => locB N sc i x && !fxB m i && go is xs
    | _, _ => false
def notSl : It → Bool
  | .sl _ => false
  | _ => true
def inG : G → Nat → Bool
  | .nm j, i => j == i
  | .tp js, i => js.contains i
def setB : List Bool → Nat → List Bool
  | [], 0 => [true]
  | _ :: m, 0 => true :: m
  | [], i + 1 => false :: setB [] i
  | b :: m, i + 1 => b :: setB m i
def orB : List Bool → List Bool → List Bool
  | [], q => q
  | b :: m, [] => b :: m
  | b :: m, c :: q => (b || c) :: orB m q
mutual
def cS (N : List Str) (sc : Scope) (m : List Bool) : S → Stmt → Bool
  | .asg g e, .Assign [t] x _ => cG N sc m g t && cE N sc e x && (match g, x with
      | .tp _, .Tuple _ _ _ => false
      | .tp _, .ListComp _ _ _ _ => false
      | _, _ => true)
  | .ex e, .Expr x _ => !compLike x && cE N sc e x
  | .ret e, .Return (some x) _ => cE N sc e x
  | .retN, .Return none _ => true
  | .ifs t a b, .If c x y _ => cT N sc t c && cSs N sc m a x && cSs N sc m b y
  | .for g it b, .For t x y [] _ => cG N sc m g t && (notSl it && tpOk it t) && cI N sc it x && cSs N sc m b y
  | .fors g i b, .For t (.Name x _) y [] _ => cG N sc (setB m i) g t && visB N sc i x && !inG g i && cSs N sc (setB m i) b y
  | .whl t b, .While c y [] _ => cT N sc t c && cSs N sc m b y
  | .brk, .Break _ => true
  | .cont, .Continue _ => true
  | .pass, .Pass _ => true
  | .pass, .Expr (.Constant (.str _) _ _) _ => true
  | .app i e, .Expr (.Call (.Attribute (.Name x _) a ap) [y] [] cp) _ => visB N sc i x && decide (a = ("append" : Str)) && (ap.endLine == cp.line) && cE N sc e y
  | .set i k e, .Assign [.Subscript (.Name x _) y _] z _ => visB N sc i x && cE N sc k y && cE N sc e z && !compLike z
  | .dput i k e, .Assign [.Subscript (.Name x _) y _] z _ => visB N sc i x && cE N sc k y && cE N sc e z && !compLike z
  | .setP i a k e, .Assign [.Subscript (.Subscript (.Name x _) b _) y _] z _ => visB N sc i x && cE N sc a b && cE N sc k y && cE N sc e z && !compLike z
  | .rev i, .Expr (.Call (.Attribute (.Name x _) a ap) [] [] cp) _ => visB N sc i x && decide (a = ("reverse" : Str)) && (ap.endLine == cp.line)
  | .ext i e, .Expr (.Call (.Attribute (.Name x _) a ap) [y] [] cp) _ => visB N sc i x && decide (a = ("extend" : Str)) && (ap.endLine == cp.line) && cE N sc e y
  | .augN i e, .AugAssign (.Name x _) .Add z _ => locB N sc i x && !fxB m i && cE N sc e z
  | .frzP _ s, x => cS N sc m s x
  | .frz q s, x => cS N sc (orB m q) s x
  | .unl is e, .Assign [t] x _ => cG N sc m (.tp is) t && cE N sc e x && !compLike x && (match x with
      | .Tuple _ _ _ => false
      | _ => true)
  | .par i j a b, .Assign [.Tuple [.Name x px, .Name y py] _ _] (.Tuple [e, f] _ _) _ => locB N sc i x && locB N sc j y && !fxB m i && !fxB m j && !(i == j) && parB sc x y px py e f && cE N sc a e && cE N sc b f
  | .sdf i a e, .Expr (.Call (.Attribute (.Name x _) at' ap) [y, z] [] cp) _ => visB N sc i x && decide (at' = ("setdefault" : Str)) && (ap.endLine == cp.line) && cE N sc a y && cE N sc e z
  | .sdApp i a e, .Expr (.Call (.Attribute (.Call (.Attribute (.Name x _) at' ap) [y, .List [] _] [] cp) at2 ap2) [z] [] cp2) _ => visB N sc i x && decide (at' = ("setdefault" : Str)) && (ap.endLine == cp.line) && decide (at2 = ("append" : Str)) && (ap2.endLine == cp2.line) && cE N sc a y && cE N sc e z
  | .augSub i k e, .AugAssign (.Subscript (.Name x _) y _) .Sub z _ => visB N sc i x && cE N sc k y && cE N sc e z
  | .dinc i k e, .AugAssign (.Subscript (.Name x _) y _) .Add z _ => visB N sc i x && cE N sc k y && cE N sc e z
  | .ins i a e, .Expr (.Call (.Attribute (.Name x _) at' ap) [y, z] [] cp) _ => visB N sc i x && decide (at' = ("insert" : Str)) && (ap.endLine == cp.line) && cE N sc a y && cE N sc e z
  | .appP i a e, .Expr (.Call (.Attribute (.Subscript (.Name x _) b _) at' ap) [y] [] cp) _ => visB N sc i x && decide (at' = ("append" : Str)) && (ap.endLine == cp.line) && cE N sc a b && cE N sc e y
  | .augS i k e, .AugAssign (.Subscript (.Name x _) y _) .Add z _ => visB N sc i x && cE N sc k y && cE N sc e z
  | .appPP _ i a b e, .Expr (.Call (.Attribute (.Subscript (.Subscript (.Name x _) ea _) eb _) at' ap) [y] [] cp) _ => visB N sc i x && decide (at' = ("append" : Str)) && (ap.endLine == cp.line) && cE N sc a ea && cE N sc b eb && cE N sc e y
  | .clrP i a b, .Expr (.Call (.Attribute (.Subscript (.Subscript (.Name x _) ea _) eb _) at' ap) [] [] cp) _ => visB N sc i x && decide (at' = ("clear" : Str)) && (ap.endLine == cp.line) && cE N sc a ea && cE N sc b eb
  | .mset g i b, .For (.Name y _) (.Name x _) [.Assign [.Subscript (.Name z _) (.Constant (.int 0) _ _) _] (.Constant (.bool b') _ _) _] [] _ => visB N sc i x && locB N sc g y && visB N sc g z && !fxB m g && !(g == i) && decide (b = b') && locB N sc i x
  | _, _ => false
def cSs (N : List Str) (sc : Scope) (m : List Bool) : Ss → List Stmt → Bool
  | .nil, [] => true
  | .cons s ss, x :: xs => cS N sc m s x && cSs N sc m ss xs
  | .bor i r k ss, .Assign [.Name y _] (.Call (.Attribute (.Name x _) at' ap) [z, .List [] _] [] cp) _ :: xs => visB N sc i x && locB N sc r y && !fxB m r && !(i == r) && decide (at' = ("setdefault" : Str)) && (ap.endLine == cp.line) && cE N sc k z && cSs N sc (setB (setB m i) r) ss xs
  | _, _ => false
end
end PW

namespace PW
open PySem L2 PyProof.Rows
theorem fold_app (l : List (Array Nat)) : ∀ a : Array Nat, (l.foldl (· ++ ·) a).toList = a.toList ++ (l.map Array.toList).flatten := by
  induction l with
  | nil => intro a; simp
  | cons x l ih => intro a; simp [ih]
theorem tx_len' (s : List Nat) : (tx s).length = s.length := by show (tx s).cps.size = _; simp
theorem rep_tx (s : List Nat) (n : Nat) : (⟨(List.replicate n (tx s).cps).foldl (· ++ ·) #[]⟩ : Str) = tx (List.replicate n s).flatten := by
  have e : ((List.replicate n (tx s).cps).foldl (· ++ ·) #[]).toList = (List.replicate n s).flatten := by
    rw [fold_app]
    simp
  rw [← Array.toArray_toList (xs := (List.replicate n (tx s).cps).foldl (· ++ ·) #[]), e]
theorem rep_len (s : List Nat) : ∀ n, (List.replicate n s).flatten.length = n * s.length
  | 0 => by simp
  | n + 1 => by rw [List.replicate_succ, List.flatten_cons, List.length_append, rep_len s n, Nat.succ_mul]; omega
section
variable {X : Cx}
theorem op_mul_str : OpR X (binaryOp .Mult) (fun x y H Q => ∃ (s : List Nat) (k : Int), x = .str (tx s) ∧ y = .int k ∧ 1 ≤ k ∧ k ≤ 1000 ∧ s.length ≤ 10000 ∧ Q (.str (tx (List.replicate k.toNat s).flatten)) H) := by
  intro pins s σ H x y v u Q I rx ry h
  obtain ⟨t, k, rfl, rfl, h1, h2, h3, q⟩ := h
  obtain ⟨tk, rfl⟩ := rx
  obtain ⟨tk', rfl⟩ := ry
  have hlen : (tx t).length = t.length := tx_len' t
  have hprod : t.length * k.toNat ≤ 10000 * 1000 := Nat.mul_le_mul h3 (by omega)
  refine PySem.P.mul_str ?_ ?_ ?_ ?_
  · have a1 : ¬ k < -(2 ^ 63 : Int) := by omega
    have a2 : ¬ k ≥ 2 ^ 63 := by omega
    rw [decide_eq_false a1, decide_eq_false a2]; rfl
  · intro _ _
    rw [hlen]
    have a1 : (t.length : Int) * k ≤ 10000 * 1000 := by
      have := Int.ofNat_le.mpr hprod
      have e : k = (k.toNat : Int) := by omega
      rw [e]
      exact_mod_cast hprod
    have : (t.length : Int) ≤ (2 ^ 63 - 1) / k := Int.le_ediv_of_mul_le (by omega) (by omega)
    omega
  · intro _ _
    rw [hlen]
    exact decide_eq_false (Nat.not_lt.mpr (Nat.le_trans hprod (by decide)))
  · rw [if_neg (by omega)]
    split
    · rename_i h
      have e : (List.replicate k.toNat t).flatten = t := by
        rw [Bool.or_eq_true] at h
        rcases h with h | h
        · have : k = 1 := by simpa using h
          subst this
          simp
        · rw [hlen] at h
          have : t = [] := List.eq_nil_of_length_eq_zero (by simpa using h)
          subst this
          simp
      rw [e] at q
      exact ⟨.str (tx t), H, I, ⟨_, rfl⟩, q⟩
    · rw [rep_tx]
      refine ⟨?_, .str _, H, I.tok _, ⟨_, rfl⟩, q⟩
      have : (List.replicate k.toNat t).flatten.length ≤ sizeLine := by rw [rep_len, Nat.mul_comm]; exact Nat.le_trans hprod (by decide)
      show (tx (List.replicate k.toNat t).flatten).length ≤ sizeLine
      rw [tx_len']; exact this
end
end PW

namespace PW
open PySem L2 PyProof.Rows

/-! ### dicts: their keys and what they hold -/
theorem Kd.k_inj {a b : Kd} (h : a.k = b.k) : a = b := by
  cases a with
  | i x => cases b with
    | i y => cases h; rfl
    | s t => cases h
  | s x => cases b with
    | i y => cases h
    | s t =>
      have h : (Sum.inr (tx x) : Key) = .inr (tx t) := h
      injection h with h
      have h : x.toArray = t.toArray := congrArg PySem.Str.cps h
      have h : x = t := by simpa using congrArg Array.toList h
      rw [h]
theorem dgt_nil {ds : List D} {k : Kd} : dgt [] ds k = none := rfl
theorem dkv_len {ks : List Kd} {xs : List V} (h : ks.length = xs.length) : (dkv ks xs).length = ks.length := by
  unfold dkv
  rw [List.length_zip, List.length_map, h, Nat.min_self]
theorem kix_cons (a : Kd) (ks : List Kd) (k : Kd) : kix (a :: ks) k = if a = k then some 0 else (kix ks k).map (· + 1) := by
  unfold kix
  rw [List.findIdx?_cons]
  by_cases h : a = k
  · simp [h]
  · simp [h]
theorem valV_dkv : ∀ {ks : List Kd} {xs : List V} (k : Kd), ks.length = xs.length → valV (dkv ks xs) k.k = (kix ks k).bind fun i => xs[i]?
  | [], [], k, _ => rfl
  | [], _ :: _, _, h => by simp at h
  | _ :: _, [], _, h => by simp at h
  | a :: ks, x :: xs, k, h => by
    rw [kix_cons]
    show valV ((a.k, x) :: dkv ks xs) k.k = _
    by_cases e : a = k
    · rw [if_pos e, valV_pos (by rw [e])]; rfl
    · rw [if_neg e, valV_neg (fun z => e (Kd.k_inj z)), valV_dkv k (by simpa using h)]
      cases kix ks k with
      | none => rfl
      | some i => rfl
theorem kix_lt {ks : List Kd} {k : Kd} {i : Nat} (h : kix ks k = some i) : i < ks.length := by
  unfold kix at h
  exact (List.findIdx?_eq_some_iff_getElem.mp h).1
theorem kix_none {ks : List Kd} {k : Kd} (h : kix ks k = none) : k ∉ ks := by
  unfold kix at h
  rw [List.findIdx?_eq_none_iff] at h
  intro z
  have := h k z
  simp at this
theorem dgt_some {ks : List Kd} {ds : List D} {k : Kd} {d : D} (h : dgt ks ds k = some d) : ∃ i, kix ks k = some i ∧ ds[i]? = some d := by
  unfold dgt at h
  exact Option.bind_eq_some_iff.mp h
theorem kix_bind {ks : List Kd} {xs : List V} {k : Kd} (h : ks.length = xs.length) : ((kix ks k).bind fun i => xs[i]?).isSome = (kix ks k).isSome := by
  cases e : kix ks k with
  | none => rfl
  | some i =>
    have := kix_lt e
    show (xs[i]?).isSome = true
    rw [List.getElem?_eq_getElem (by omega)]; rfl
theorem keyK_ok {K : Fg} {F H : Hp} {d : D} {x : V} {C : Kd → Prop} (h : View K F H d x) (w : keyK d C) : ∃ k : Kd, x = kV k.k ∧ C k := by
  cases d with
  | int z => exact ⟨.i z, h.int, w⟩
  | str t => exact ⟨.s t, h.str, w⟩
  | _ => exact w.elim
/-- d[k], as a subscript -/
def rIxD : R2 := fun x y H Q => ∃ p kvs k v, x = .ref p ∧ y = kV k ∧ Rd H p (.dK kvs) ∧ valV kvs k = some v ∧ Q v H
section
variable {X : Cx}
theorem ix_dict : IxR X rIxD := by
  intro value slice pins s σ H x y v u Q I rx ry h hs
  obtain ⟨p, kvs, k, z, rfl, rfl, e, l, q⟩ := h
  cases rx
  obtain ⟨_, _, vs, rel, dd⟩ := dk_rd I.hok e
  obtain ⟨w', hw, rw'⟩ := RelO.some_of (v := z) (o := valueAt vs k) (by rw [← l]; exact rel.val k)
  have hT : s.TypeIs (.ref p) "dict" := dict_typeIs I (y := kV k) (o := valV kvs k) (.inl ⟨kvs, k, e, rfl, rfl⟩)
  exact subscriptTail_builtinR (x := w') hT PySem.F.slot_dict_getitem.lookup (wpAny_getItem_of (kV_is ry) dd.mapOf hw ⟨rfl, ⟨z, H, I.tok _, rw', q⟩⟩) hs
end
end PW

namespace PW
open PySem L2 PyProof.Rows

theorem tx_append (s t : List Nat) : tx s ++ tx t = tx (s ++ t) := by
  show Str.append (tx s) (tx t) = tx (s ++ t)
  unfold Str.append tx
  simp
theorem tx_len (s : List Nat) : (tx s).length = s.length := by
  show s.toArray.size = s.length
  simp
theorem tx_inj {s t : List Nat} : (tx s = tx t) ↔ s = t := by
  unfold tx
  constructor
  · intro h; injection h with h; injection h
  · intro h; rw [h]

section
variable {X : Cx}
theorem pe_mono {e : Expr} {t t' : TE} (h : PE X e t) (k : ∀ σ H Q, t' σ H Q → t σ H Q) : PE X e t' := ⟨fun pins s σ H Q I w => h.run pins s σ H Q I (k _ _ _ w)⟩
theorem pt_mono {e : Expr} {t t' : TT} (h : PT X e t) (k : ∀ σ H Q, t' σ H Q → t σ H Q) : PT X e t' := ⟨fun pins s σ H Q I w => h.run pins s σ H Q I (k _ _ _ w)⟩
theorem ps_mono {e : Stmt} {t t' : TS} (h : PS X e t) (k : ∀ D σ H, t' D σ H → t D σ H) : PS X e t' := ⟨fun pins s σ H D I w => h.run pins s σ H D I (k _ _ _ w)⟩
theorem pss_mono {e : List Stmt} {t t' : TS} (h : PSs X e t) (k : ∀ D σ H, t' D σ H → t D σ H) : PSs X e t' := ⟨fun pins s σ H D I w => h.run pins s σ H D I (k _ _ _ w)⟩

theorem lstR {pins : List (Addr × Obj)} {σ : LSt} {H : Hp} {s : Shared} {l : Addr} {xs : List V} (I : Inv X pins σ H s) (hH : Rd H l (.lst xs)) :
    xs.length ≤ sizeLine ∧ ∃ (its : List Value) (n : Nat), Vals xs its ∧ its.length = xs.length ∧ s.heap.get? l = some { cls := .type "list", data := .seq its.toArray n } :=
  let ⟨z, its, n, r, e⟩ := hH.ok I.hok
  ⟨z, its, n, r, r.length.symm, e⟩
def rCatR : R2 := fun x y H Q => ∃ l b xs zs, (x = .ref l ∧ y = .ref b) ∧ (Rd H l (.lst xs) ∧ Rd H b (.lst zs)) ∧ xs.length + zs.length ≤ sizeLine ∧
  ∀ p, H p = none → Q (.ref p) (upd H p (.lst (xs ++ zs)))
theorem op_catR : OpR X (binaryOp .Add) rCatR := by
  rintro pins s σ H _ _ _ _ Q I rx ry ⟨l, b, xs, zs, ⟨rfl, rfl⟩, ⟨hH, hB⟩, hz, q⟩
  cases rx
  cases ry
  have ⟨_, i1, _, r1, l1, e1⟩ := lstR I hH
  have ⟨_, i2, _, r2, l2, e2⟩ := lstR I hB
  have hn : i1.toArray.size + i2.toArray.size ≤ sizeLine := by simp only [List.size_toArray]; omega
  have ea : i1.toArray ++ i2.toArray = (i1 ++ i2).toArray := by simp
  refine PySem.P.add_list e1 e2 ?_ hn
  rw [ea]
  have hn2 : (xs ++ zs).length ≤ sizeLine := by simp only [List.length_append]; omega
  exact ⟨.ref _, _, I.lnew (t' := s.toks) (r1.append r2) hn2, rfl, q _ I.fresh⟩

def rRepR : R2 := fun x y H Q => ∃ l k xs, (x = .ref l ∧ y = .int k) ∧ Rd H l (.lst xs) ∧ (-(2 ^ 63) ≤ k ∧ k < 2 ^ 63) ∧ xs.length * k.toNat ≤ sizeLine ∧
  ∀ p, H p = none → Q (.ref p) (upd H p (.lst (List.replicate k.toNat xs).flatten))
theorem rep_new (its : List Value) (k : Nat) : List.foldl (fun a b => a ++ b) #[] (List.replicate (if its.toArray.isEmpty = true then 0 else k) its.toArray) = (List.replicate k its).flatten.toArray := by
  have f0 : ∀ m : Nat, List.foldl (fun a b => a ++ b) #[] (List.replicate m its.toArray) = (List.replicate m its).flatten.toArray := fun m => by
    simpa using foldl_rep its m []
  rw [f0]
  cases its with
  | nil => simp
  | cons a t => simp
theorem op_repR : OpR X (binaryOp .Mult) rRepR := by
  rintro pins s σ H _ _ _ _ Q I rx ry ⟨l, k, xs, ⟨rfl, rfl⟩, hH, ⟨h1, h2⟩, hz, q⟩
  cases rx
  obtain ⟨t, rfl⟩ := ry
  have ⟨_, its, n, r, hl, e⟩ := lstR I hH
  have hlen : its.toArray.size * k.toNat ≤ sizeLine := by simp only [List.size_toArray, hl]; exact hz
  have big : (sizeLine : Nat) ≤ (2 ^ 63 - 1) / 8 := by decide
  have c1 : ¬ its.toArray.size * k.toNat > (2 ^ 63 - 1) / 8 := by omega
  have c2 : ¬ (!Builtin.List.listFitsIndex k) = true := by simp [fitsIndex_both h1 h2]
  have c3 : ¬ Builtin.List.listTooLong (its.toArray.size * k.toNat) = true := by rw [notLongL hlen]; exact Bool.false_ne_true
  have hit : s.TypeIs (.ref l) "list" := ⟨_, e, rfl⟩
  refine wpAny_binaryOp_repeat_ref (U := "int") (by decide) hit (fun s' => typeIs_int s' k t) noFill_list_mul F.fills_int_mul F.slot_int_rmul repeat_list F.slot_int_index.lookup ?_
  refine call_meets F.slot_int_rmul (typeIs_int s k t) F.entry_int_rmul (F.args_int_rmul_2 _ _) (int___rmul___int_list k t l its.toArray n) ⟨e, rfl, hit, ?_⟩
  refine call_meets F.slot_list_mul hit F.entry_list_mul (F.args_list_mul_2 _ _)
    (AutoListH.list___mul___list_int_3 l its.toArray n k t c2 c1 c3) ⟨e, ?_⟩
  rw [rep_new]
  have hn : (List.replicate k.toNat xs).flatten.length ≤ sizeLine := by rw [lm_len_rep_flat, Nat.mul_comm]; exact hz
  exact ⟨.ref _, _, I.lnew (t' := s.toks) (r.rep k.toNat) hn, rfl, q _ I.fresh⟩

theorem dp_ints {K : Fg} {H : Hp} : ∀ ns : List Int, DpAll K H (ns.map V.int) (ns.map PyData.int)
  | [] => .nil
  | n :: ns => .cons (.int n) (dp_ints ns)
theorem plain_ints : ∀ ns : List Int, PyData.plainAll (ns.map PyData.int) = true
  | [] => rfl
  | n :: ns => by
    show (true && PyData.plainAll (ns.map PyData.int)) = true
    rw [plain_ints ns]; rfl
mutual
theorem Rep.dp {K : Fg} {H : Hp} : ∀ {d : D} {v : V}, Rep K H d v → d.nd = true → Dp K H v d.py
  | _, _, .non, _ => .non
  | _, _, .bl b, _ => .bl b
  | _, _, .int i, _ => .int i
  | _, _, .str s, _ => .str _
  | _, _, .tup h r, _ => .tup h (RepL.dp r)
  | _, _, .lst h r, _ => .lst (.inl h) (RepL.dp r)
  | _, _, .scr ns h, _ => .lst h (dp_ints ns)
  | _, _, .flz h r, _ => .lst (.inl h) (RepL.dp r)
  | _, _, .dct _ _ _, n => Bool.noConfusion n
theorem RepL.dp {K : Fg} {H : Hp} : ∀ {ds : List D} {xs : List V}, RepL K H ds xs → DpAll K H xs (D.pyL ds)
  | _, _, .nil => .nil
  | _, _, .cons (n := n) h r => .cons (Rep.dp h n) (RepL.dp r)
end
mutual
theorem D.plain_py : ∀ d : D, d.py.plain = true
  | .non => rfl
  | .bl _ => rfl
  | .int _ => rfl
  | .str _ => rfl
  | .tup ds => by show PyData.plainAll (D.pyL ds) = true; exact D.plain_pyL ds
  | .lst ds => by show PyData.plainAll (D.pyL ds) = true; exact D.plain_pyL ds
  | .dct _ _ => rfl
  | .scr ns => plain_ints ns
  | .flz ds => by show PyData.plainAll (D.pyL ds) = true; exact D.plain_pyL ds
theorem D.plain_pyL : ∀ ds : List D, PyData.plainAll (D.pyL ds) = true
  | [] => rfl
  | d :: ds => by
    show (d.py.plain && PyData.plainAll (D.pyL ds)) = true
    rw [D.plain_py d, D.plain_pyL ds]; rfl
end
theorem View.reads {K : Fg} {F H : Hp} {d : D} {x : V} {v : Value} {pins : List (Addr × Obj)} {σ : LSt} {s : Shared} (hK : X.K = K) (I : Inv X pins σ H s) (sub : Ext F H) (w : View K F H d x) (n : d.nd = true) (r : RelV x v) : ∃ as, Reads s.heap v d.py as := by
  subst hK
  exact Dp.reads I d.py x v ((w.rep sub).dp n) r

/-- an operation on two results -/
def LOp (K : Fg) (sem : D → D → (R → Prop) → Prop) : R2 := fun x y H Q => ∃ P F env σ L d e C, Sta K P F env σ H L ∧ View K F H d x ∧ View K F H e y ∧ sem d e C ∧ Ret K P F env σ H L C Q

theorem List.all_append' {α : Type} {p : α → Bool} {a b : List α} (ha : a.all p = true) (hb : b.all p = true) : (a ++ b).all p = true := by
  rw [List.all_append, ha, hb]; rfl
theorem op_sound (o : Operator) : OpR X (binaryOp o) (LOp X.K (opS o)) := by
  intro pins s σ H x y v u Q I rx ry h
  obtain ⟨P, F, env, σ0, L, d, e, C, st, vx, vy, w, k⟩ := h
  unfold opS at w
  split at w
  · cases vx.int; cases vy.int
    exact op_add pins s σ H _ _ v u Q I rx ry ⟨_, _, rfl, rfl, ret_va st k w (.int _)⟩
  · cases vx.int; cases vy.int
    exact op_sub pins s σ H _ _ v u Q I rx ry ⟨_, _, rfl, rfl, ret_va st k w (.int _)⟩
  · cases vx.int; cases vy.int
    exact op_mul pins s σ H _ _ v u Q I rx ry ⟨_, _, rfl, rfl, w.1, ret_va st k w.2 (.int _)⟩
  · cases vx.int; cases vy.int
    exact op_fdiv pins s σ H _ _ v u Q I rx ry ⟨_, _, rfl, rfl, w.1, ret_va st k w.2 (.int _)⟩
  · cases vx.int; cases vy.int
    exact op_mod pins s σ H _ _ v u Q I rx ry ⟨_, _, rfl, rfl, w.1, ret_va st k w.2 (.int _)⟩
  · cases vx.int; cases vy.int
    exact op_pow pins s σ H _ _ v u Q I rx ry ⟨_, _, rfl, rfl, w.1, ret_va st k w.2 (.int _)⟩
  · cases vx.str; cases vy.str
    refine op_add_str pins s σ H _ _ v u Q I rx ry ⟨_, _, rfl, rfl, by rw [tx_len, tx_len]; exact w.1, ?_⟩
    rw [tx_append]
    exact ret_va st k w.2 (.str _)
  · obtain ⟨a, xs, rfl, ha, ra⟩ := vx.tup st.sub
    obtain ⟨b, ys, rfl, hb, rb⟩ := vy.tup st.sub
    have la := ra.length
    have lb := rb.length
    refine op_catA pins s σ H _ _ v u Q I rx ry ⟨a, b, xs, ys, rfl, rfl, ha, hb, by rw [← la, ← lb]; exact w.1, fun e => ?_, fun _ e => ?_, fun _ _ p hp => ?_⟩
    · subst e
      cases ra
      exact ret_va st k w.2 (vy.leaf rfl)
    · subst e
      cases rb
      have w2 := w.2
      rw [List.append_nil] at w2
      exact ret_va st k w2 (vx.leaf rfl)
    · exact ret_tup st k w.2 (ra.append rb) hp
  · obtain ⟨a, xs, rfl, ha, ra⟩ := vx.lst st.sub
    obtain ⟨b, ys, rfl, hb, rb⟩ := vy.lst st.sub
    have la := ra.length
    have lb := rb.length
    refine op_catR pins s σ H _ _ v u Q I rx ry ⟨a, b, xs, ys, ⟨rfl, rfl⟩, ⟨ha, hb⟩, by rw [← la, ← lb]; exact w.1, fun p hp => ?_⟩
    exact ret_lst st k w.2.2.2 (((ra.leaves w.2.1).append (rb.leaves w.2.2.1)).own (List.all_append' w.2.1 w.2.2.1)) (by simpa using st.nd) (fun _ z => nomatch z) hp
  · obtain ⟨a, xs, rfl, ha, ra⟩ := vx.flz st.sub
    obtain ⟨b, ys, rfl, hb, rb⟩ := vy.flz st.sub
    have la := ra.length
    have lb := rb.length
    refine op_catR pins s σ H _ _ v u Q I rx ry ⟨a, b, xs, ys, ⟨rfl, rfl⟩, ⟨ha, hb⟩, by rw [← la, ← lb]; exact w.1, fun p hp => ?_⟩
    exact ret_lstF st k w.2 (ra.append rb) hp
  · cases vy.int
    obtain ⟨a, xs, rfl, ha, ra⟩ := vx.lst st.sub
    have la := ra.length
    refine op_repR pins s σ H _ _ v u Q I rx ry ⟨a, _, xs, ⟨rfl, rfl⟩, ha, w.1, by rw [← la]; exact w.2.1, fun p hp => ?_⟩
    have rp : ∀ k : Nat, RepL X.K F (List.replicate k _).flatten (List.replicate k xs).flatten := fun k => by
      induction k with
      | zero => exact .nil
      | succ k ih => rw [List.replicate_succ, List.replicate_succ]; exact (ra.leaves w.2.2.1).append ih
    refine ret_lst st k w.2.2.2 ((rp _).own ?_) (by simpa using st.nd) (fun _ z => nomatch z) hp
    rw [List.all_eq_true]
    intro d hd
    obtain ⟨l, hl, hd⟩ := List.mem_flatten.mp hd
    rw [(List.mem_replicate.mp hl).2] at hd
    exact List.all_eq_true.mp w.2.2.1 d hd
  · cases vx.str; cases vy.int
    exact op_mul_str pins s σ H _ _ v u Q I rx ry ⟨_, _, rfl, rfl, w.1, w.2.1, w.2.2.1, ret_va st k w.2.2.2 (.str _)⟩
  · exact w.elim
end
end PW
namespace PW
open PySem L2 PyProof.Rows
section
variable {X : Cx}
theorem eqv_int (a b : Int) : PyData.eqv (.int a) (.int b) = decide (a = b) := by
  simp only [PyData.eqv]; by_cases h : a = b <;> simp [h]
theorem eqv_bl (a b : Bool) : PyData.eqv (.bool a) (.bool b) = decide (a = b) := by
  cases a <;> cases b <;> simp [PyData.eqv]
theorem eqv_str (a b : List Nat) : PyData.eqv (.str (tx a)) (.str (tx b)) = decide (a = b) := by
  simp only [PyData.eqv]
  by_cases h : a = b
  · simp [h]
  · rw [decide_eq_false h]
    exact beq_eq_false_iff_ne.mpr fun e => h (tx_inj.mp e)
theorem shallow_0 {d : D} (h : d.py.depth = 0) : shallow d := by unfold shallow; omega
theorem eqS_nd {x y : D} {C : Bool → Prop} (h : eqS x y C) : x.nd = true ∧ y.nd = true ∧ eqS0 x y C := by
  unfold eqS at h
  split at h
  · exact h.elim
  · split at h
    · exact h.elim
    · rename_i h1 _ h2
      refine ⟨?_, ?_, h⟩
      · cases x <;> first | rfl | exact (h1 _ _ rfl).elim
      · cases y <;> first | rfl | exact (h2 _ _ rfl).elim
theorem eqS_deq {x y : D} {C : Bool → Prop} (h : eqS x y C) : (shallow x ∨ shallow y) ∧ C (deq x y) := by
  have h := (eqS_nd h).2.2
  unfold eqS0 at h
  split at h
  · exact ⟨.inl (shallow_0 rfl), by show C (PyData.eqv (.int _) (.int _)); rw [eqv_int]; exact h⟩
  · exact ⟨.inl (shallow_0 rfl), by show C (PyData.eqv (.str _) (.str _)); rw [eqv_str]; exact h⟩
  · exact ⟨.inl (shallow_0 rfl), by show C (PyData.eqv (.bool _) (.bool _)); rw [eqv_bl]; exact h⟩
  · exact h
  · exact h
  · exact h
theorem sh_room {A : Around} {x y : D} (hu : A.units + 100 < cLine) (h : shallow x ∨ shallow y) : A.units + min x.py.depth y.py.depth < cLine := by
  have : min x.py.depth y.py.depth ≤ 60 := by
    rcases h with h | h
    · exact Nat.le_trans (Nat.min_le_left _ _) h
    · exact Nat.le_trans (Nat.min_le_right _ _) h
  omega
theorem shallow_items {ds : List D} {x : D} (h : shallow x ∨ shallow (.lst ds)) : min (PyData.depthAll (D.pyL ds)) x.py.depth ≤ 60 := by
  rcases h with h | h
  · exact Nat.le_trans (Nat.min_le_right _ _) h
  · have : PyData.depthAll (D.pyL ds) + 1 ≤ 60 := h
    exact Nat.le_trans (Nat.min_le_left _ _) (by omega)
theorem any_py (ds : List D) (x : D) : ((D.pyL ds).any fun y => PyData.eqv y x.py) = ds.any fun y => deq y x := by
  induction ds with
  | nil => rfl
  | cons d ds ih => show (PyData.eqv d.py x.py || (D.pyL ds).any _) = (deq d x || ds.any _); rw [ih]; rfl
theorem fin {pins : List (Addr × Obj)} {σ : LSt} {H : Hp} {s : Shared} {Q : VK} {b : Bool} (I : Inv X pins σ H s) (q : Q (.bl b) H) : EP X pins σ Q (.bool b) s := ⟨.bl b, H, I, rfl, q⟩
theorem eq_sound (hu : X.A.units + 100 < cLine) : OpR X (compareOp .Eq) (LOp X.K fun d e C => eqS d e fun b => C (.va (.bl b))) := by
  rintro pins s σ H x y v u Q I rx ry ⟨P, F, env, σ0, L, d, e, C, st, vx, vy, w, k⟩
  obtain ⟨n1, n2, _⟩ := eqS_nd w
  obtain ⟨as, ra⟩ := vx.reads rfl I st.sub n1 rx
  obtain ⟨bs, rb⟩ := vy.reads rfl I st.sub n2 ry
  obtain ⟨sh, c⟩ := eqS_deq w
  exact PySem.SeqAt.eq_plain ra rb d.plain_py e.plain_py (sh_room hu sh) (fin I (ret_va st k c (.bl _)))
theorem ne_sound (hu : X.A.units + 100 < cLine) : OpR X (compareOp .NotEq) (LOp X.K fun d e C => eqS d e fun b => C (.va (.bl (!b)))) := by
  rintro pins s σ H x y v u Q I rx ry ⟨P, F, env, σ0, L, d, e, C, st, vx, vy, w, k⟩
  obtain ⟨n1, n2, _⟩ := eqS_nd w
  obtain ⟨as, ra⟩ := vx.reads rfl I st.sub n1 rx
  obtain ⟨bs, rb⟩ := vy.reads rfl I st.sub n2 ry
  obtain ⟨sh, c⟩ := eqS_deq w
  exact PySem.SeqAt.ne_plain ra rb d.plain_py e.plain_py (sh_room hu sh) (fin I (ret_va st k c (.bl _)))
theorem lt_sound (hu : X.A.units + 100 < cLine) : OpR X (compareOp .Lt) (LOp X.K fun d e C => ltS d e fun b => C (.va (.bl b))) := by
  rintro pins s σ H x y v u Q I rx ry ⟨P, F, env, σ0, L, d, e, C, st, vx, vy, w, k⟩
  have w : ltS d e fun b => C (.va (.bl b)) := w
  unfold ltS at w
  split at w
  · cases vx.int; cases vy.int
    exact op_lt pins s σ H _ _ v u Q I rx ry ⟨_, _, rfl, rfl, ret_va st k w (.bl _)⟩
  · cases vx.str; cases vy.str
    refine op_lt_str pins s σ H _ _ v u Q I rx ry ⟨_, _, rfl, rfl, ?_⟩
    refine ret_va (d := .bl _) st k ?_ (.bl _)
    simpa using w
  · obtain ⟨as, ra⟩ := vx.reads rfl I st.sub rfl rx
    obtain ⟨bs, rb⟩ := vy.reads rfl I st.sub rfl ry
    exact PySem.W.lt_data ra rb w.1 (fun z => by cases z) (sh_room hu (.inl w.2.1)) (fin I (ret_va st k w.2.2 (.bl _)))
  · exact w.elim
theorem in_room {A : Around} {n m : Nat} (hu : A.units + 100 < cLine) (h : min n m ≤ 60) : A.units + 1 + min n m < cLine := by omega
theorem in_sound (hu : X.A.units + 100 < cLine) : OpR X (compareOp .In) (LOp X.K fun d e C => inS d e fun b => C (.va (.bl b))) := by
  rintro pins s σ H x y v u Q I rx ry ⟨P, F, env, σ0, L, d, e, C, st, vx, vy, w, k⟩
  have w : inS d e fun b => C (.va (.bl b)) := w
  unfold inS at w
  split at w
  · split at w
    · cases vx.str; cases vy.str
      refine op_in_sign pins s σ H _ _ v u Q I rx ry ⟨_, _, rfl, rfl, ?_⟩
      refine ret_va (d := .bl _) st k ?_ (.bl _)
      simpa using w
    · exact w.elim
  · split at w
    · exact w.elim
    rename_i h1
    have n1 : d.nd = true := by cases d <;> first | rfl | exact (h1 _ _ rfl).elim
    obtain ⟨as, ra⟩ := vx.reads rfl I st.sub n1 rx
    obtain ⟨bs, rb⟩ := vy.reads rfl I st.sub rfl ry
    exact PySem.SeqAt.in_list_data rb ra (D.plain_pyL _) d.plain_py (in_room hu (shallow_items w.1)) (fin I (by rw [any_py]; exact ret_va st k w.2 (.bl _)))
  · obtain ⟨kk, ek, w⟩ := keyK_ok vx w
    obtain ⟨a, xs, rfl, hr, n, hv⟩ := vy.dct st.sub
    subst ek
    have hu1 : X.A.units + 1 < cLine := by omega
    have g : DGet H a (kV kk.k) (valV (dkv _ xs) kk.k) := .inl ⟨_, kk.k, hr, rfl, rfl⟩
    obtain rfl : u = Value.ref a := ry
    refine d_in hu1 I g rx fun s' I' => ⟨.bl _, H, I', rfl, ?_⟩
    rw [valV_dkv kk (n.2.trans hv.length)]
    rw [kix_bind (n.2.trans hv.length)]
    exact ret_va st k w (.bl _)
  · split at w
    · exact w.elim
    rename_i h1
    have n1 : d.nd = true := by cases d <;> first | rfl | exact (h1 _ _ rfl).elim
    obtain ⟨as, ra⟩ := vx.reads rfl I st.sub n1 rx
    obtain ⟨bs, rb⟩ := vy.reads rfl I st.sub rfl ry
    exact PySem.SeqAt.in_tuple_data rb ra (D.plain_pyL _) d.plain_py (in_room hu (shallow_items w.1)) (fin I (by rw [any_py]; exact ret_va st k w.2 (.bl _)))
  · exact w.elim
theorem notin_sound (hu : X.A.units + 100 < cLine) : OpR X (compareOp .NotIn) (LOp X.K fun d e C => inS d e fun b => C (.va (.bl (!b)))) := by
  rintro pins s σ H x y v u Q I rx ry ⟨P, F, env, σ0, L, d, e, C, st, vx, vy, w, k⟩
  have w : inS d e fun b => C (.va (.bl (!b))) := w
  unfold inS at w
  split at w
  · split at w
    · cases vx.str; cases vy.str
      refine op_notIn_sign pins s σ H _ _ v u Q I rx ry ⟨_, _, rfl, rfl, ?_⟩
      refine ret_va (d := .bl _) st k ?_ (.bl _)
      simpa using w
    · exact w.elim
  · split at w
    · exact w.elim
    rename_i h1
    have n1 : d.nd = true := by cases d <;> first | rfl | exact (h1 _ _ rfl).elim
    obtain ⟨as, ra⟩ := vx.reads rfl I st.sub n1 rx
    obtain ⟨bs, rb⟩ := vy.reads rfl I st.sub rfl ry
    exact PySem.SeqAt.notIn_list_data rb ra (D.plain_pyL _) d.plain_py (in_room hu (shallow_items w.1)) (fin I (by rw [any_py]; exact ret_va st k w.2 (.bl _)))
  · obtain ⟨kk, ek, w⟩ := keyK_ok vx w
    obtain ⟨a, xs, rfl, hr, n, hv⟩ := vy.dct st.sub
    subst ek
    have hu1 : X.A.units + 1 < cLine := by omega
    have g : DGet H a (kV kk.k) (valV (dkv _ xs) kk.k) := .inl ⟨_, kk.k, hr, rfl, rfl⟩
    obtain rfl : u = Value.ref a := ry
    refine d_notIn hu1 I g rx fun s' I' => ⟨.bl _, H, I', rfl, ?_⟩
    rw [valV_dkv kk (n.2.trans hv.length)]
    rw [kix_bind (n.2.trans hv.length)]
    exact ret_va st k w (.bl _)
  · split at w
    · exact w.elim
    rename_i h1
    have n1 : d.nd = true := by cases d <;> first | rfl | exact (h1 _ _ rfl).elim
    obtain ⟨as, ra⟩ := vx.reads rfl I st.sub n1 rx
    obtain ⟨bs, rb⟩ := vy.reads rfl I st.sub rfl ry
    exact PySem.SeqAt.notIn_tuple_data rb ra (D.plain_pyL _) d.plain_py (in_room hu (shallow_items w.1)) (fin I (by rw [any_py]; exact ret_va st k w.2 (.bl _)))
  · exact w.elim
theorem isNon_dec {K : Fg} {F H : Hp} {d : D} {x : V} (h : View K F H d x) : decide (x = V.non) = isNon d := by
  rcases h with h | ⟨fp, h⟩
  · cases h <;> simp [isNon]
  · cases h with
    | leaf _ h => cases h <;> simp [isNon]
    | lst _ _ => simp [isNon]
    | dct _ _ _ => simp [isNon]
theorem cmp_sound (o : CmpOp) (hu : X.A.units + 100 < cLine) : OpR X (compareOp o) (LOp X.K fun d e C => cmpS o d e fun b => C (.va (.bl b))) := by
  cases o with
  | Eq => exact eq_sound hu
  | NotEq => exact ne_sound hu
  | Lt => exact lt_sound hu
  | In => exact in_sound hu
  | NotIn => exact notin_sound hu
  | LtE =>
    rintro pins s σ H x y v u Q I rx ry ⟨P, F, env, σ0, L, d, e, C, st, vx, vy, w, k⟩
    simp only [cmpS] at w
    split at w
    · cases vx.int; cases vy.int
      exact op_le pins s σ H _ _ v u Q I rx ry ⟨_, _, rfl, rfl, ret_va st k w (.bl _)⟩
    · cases vx.str; cases vy.str
      refine op_le_str pins s σ H _ _ v u Q I rx ry ⟨_, _, rfl, rfl, ?_⟩
      refine ret_va (d := .bl _) st k ?_ (.bl _)
      simpa using w
    · exact w.elim
  | Gt =>
    rintro pins s σ H x y v u Q I rx ry ⟨P, F, env, σ0, L, d, e, C, st, vx, vy, w, k⟩
    simp only [cmpS] at w
    split at w
    · cases vx.int; cases vy.int
      exact op_gt pins s σ H _ _ v u Q I rx ry ⟨_, _, rfl, rfl, ret_va st k w (.bl _)⟩
    · cases vx.str; cases vy.str
      refine op_gt_str pins s σ H _ _ v u Q I rx ry ⟨_, _, rfl, rfl, ?_⟩
      refine ret_va (d := .bl _) st k ?_ (.bl _)
      simpa using w
    · exact w.elim
  | GtE =>
    rintro pins s σ H x y v u Q I rx ry ⟨P, F, env, σ0, L, d, e, C, st, vx, vy, w, k⟩
    simp only [cmpS] at w
    split at w
    · cases vx.int; cases vy.int
      exact op_ge pins s σ H _ _ v u Q I rx ry ⟨_, _, rfl, rfl, ret_va st k w (.bl _)⟩
    · cases vx.str; cases vy.str
      refine op_ge_str pins s σ H _ _ v u Q I rx ry ⟨_, _, rfl, rfl, ?_⟩
      refine ret_va (d := .bl _) st k ?_ (.bl _)
      simpa using w
    · exact w.elim
  | Is =>
    rintro pins s σ H x y v u Q I rx ry ⟨P, F, env, σ0, L, d, e, C, st, vx, vy, w, k⟩
    simp only [cmpS] at w
    split at w
    · cases vy.non
      exact op_isN pins s σ H _ _ v u Q I rx ry ⟨rfl, by rw [isNon_dec vx]; exact ret_va st k w (.bl _)⟩
    · split at w
      · cases vx.bl; cases vy.bl
        exact op_isBl pins s σ H _ _ v u Q I rx ry ⟨_, _, rfl, rfl, ret_va st k w (.bl _)⟩
      · exact w.elim
    · exact w.elim
  | IsNot =>
    rintro pins s σ H x y v u Q I rx ry ⟨P, F, env, σ0, L, d, e, C, st, vx, vy, w, k⟩
    simp only [cmpS] at w
    split at w
    · cases vy.non
      exact op_notN pins s σ H _ _ v u Q I rx ry ⟨rfl, by rw [isNon_dec vx]; exact ret_va st k w (.bl _)⟩
    · split at w
      · cases vx.bl; cases vy.bl
        exact op_notBl pins s σ H _ _ v u Q I rx ry ⟨_, _, rfl, rfl, ret_va st k w (.bl _)⟩
      · exact w.elim
    · exact w.elim
end
end PW

namespace PW
open PySem L2 PyProof.Rows

/-! ### sorted of a text -/
theorem strs_at : ∀ {vs : List Value} {cs : List Nat}, vs.length = cs.length → (∀ (j : Nat) (v : Value), vs[j]? = some v → ∃ c u, cs[j]? = some c ∧ v = Value.str ⟨#[c]⟩ u) → StrsAre vs (cs.map fun c => tx [c])
  | [], [], _, _ => .nil
  | [], _ :: _, h, _ => by simp at h
  | _ :: _, [], h, _ => by simp at h
  | v :: vs, c :: cs, hl, h => by
    obtain ⟨c', u, e1, e2⟩ := h 0 v rfl
    cases e1
    subst e2
    exact .cons (tx [c]) u (strs_at (by simpa using hl) fun j w hj => h (j + 1) w (by simpa using hj))
theorem signs_are {x : Str} {acc : Array Value} (h : ItemsOf (SignAt x) acc x.cps.size) : StrsAre acc.toList (x.cps.toList.map fun c => tx [c]) := by
  refine strs_at (by simpa using h.1) fun j v hj => ?_
  obtain ⟨c, u, e1, e2⟩ := h.2 j v (by simpa using hj)
  exact ⟨c, u, by simpa using e1, e2⟩
theorem sh_same {s s' : Shared} (h1 : s'.gens = s.gens) (h2 : s'.drawn = s.drawn) (h3 : s'.os = s.os) : s' = { s with heap := s'.heap, toks := s'.toks } := by
  cases s; cases s'
  simp_all
section
variable {prog : Program} {w : World} {A : Around} {E : Value → Shared → Prop} {s : Shared}
theorem sorted_sign {Q : Value → Shared → Prop} (hh : A.handled = none) (x : Str) (t : Tok) (hn : x.cps.size ≤ sizeLine)
    (h : ∀ (hp h' : Heap) (tk : Nat) (out : Array Value) (ss : List Str) (e : Nat), (∀ b o, s.heap.get? b = some o → hp.get? b = some o) → (∀ b o, hp.get? b = some o → h'.get? b = some o) → h'.get? hp.objs.size = some (seqObj "list" out e) →
      StrsAre out.toList ss → ss.Perm (x.cps.toList.map fun c => tx [c]) → sortedS ss = true → Q (.ref hp.objs.size) { s with heap := h', toks := tk }) :
    wpAny (model prog w) A (call (.builtin "sorted") [.str x t]) Q E s := by
  apply Calls.call_function_entry kind_sorted plain_sorted entry_sorted (args_sorted1 _)
  delta Builtin.«sorted»
  refine wpAny_bind (m := checkCount "sorted" 1 1 _) (wpAny_pure ?_)
  refine wpAny_bind (wpAny_collect_str (by exact hh) x t (fun s' acc keep g d o it => ?_) hn)
  have es := sh_same g d o
  generalize s'.heap = hp, s'.toks = tk at es keep
  subst es
  have hS := signs_are it
  have hL : acc.toList.length ≤ sizeLine := by rw [Array.length_toList, it.1]; exact hn
  refine wpAny_bind (wpAny_newList ?_)
  have new : (hp.push (seqObj "list" acc.toList.toArray 0)).get? hp.objs.size = some (seqObj "list" acc.toList.toArray 0) := Heap.get?_push_size _ rfl
  have old : ∀ b o, hp.get? b = some o → b ≠ hp.objs.size ∧ b < hp.objs.size := fun b o e => ⟨Nat.ne_of_lt (Heap.lt_size e), Heap.lt_size e⟩
  refine wpAny_bind (wpAny_holding (wpAny_call_entry slot_list_sort ⟨_, new, rfl⟩ entry_list_sort (list_sort_treeKAny strKind_oneLt new hS.keysOf (fun v₁ v₂ rest e => keyKind_strs (by rw [← e]; exact hS)) hL fun st' a1 a2 => ⟨_, rfl, ?_⟩) (args_list_sort _)))
  obtain ⟨ss, q1, q2, q3⟩ := sorted_out_str hS a1 a2
  obtain ⟨e, he⟩ := sortedHeap_at (out := (arrOf st').map (·.2)) new
  refine wpAny_pure ⟨_, rfl, h hp _ _ _ ss e keep (fun b o eb => ?_) he q1 q2 q3⟩
  rw [sortedHeap_old (old b o eb).1 (by rw [size_push']; exact Nat.lt_succ_of_lt (old b o eb).2), Heap.get?_push_ne _ _ _ (old b o eb).1]
  exact eb
end
/-! ### orders of texts -/
theorem rising_pw : ∀ (p : Str) (ts : List Str), risingS p ts = true → (p :: ts).Pairwise fun a b => a.cps.toList ≤ b.cps.toList
  | p, [], _ => by simp
  | p, x :: r, h => by
    simp only [risingS, Bool.and_eq_true, Bool.not_eq_true', ltCps_eq, decide_eq_false_iff_not] at h
    have ih := rising_pw x r h.2
    have h1 : p.cps.toList ≤ x.cps.toList := h.1
    refine List.pairwise_cons.mpr ⟨fun y hy => ?_, ih⟩
    rcases List.mem_cons.mp hy with rfl | hy
    · exact h1
    · exact List.le_trans h1 ((List.pairwise_cons.mp ih).1 y hy)
theorem sorted_pw : ∀ (ts : List Str), sortedS ts = true → ts.Pairwise fun a b => a.cps.toList ≤ b.cps.toList
  | [], _ => .nil
  | x :: r, h => rising_pw x r h
theorem perm_map {α β : Type} {f : α → β} {g : β → α} (hg : ∀ a, g (f a) = a) {ss : List β} {l : List α} (h : ss.Perm (l.map f)) : ss = (ss.map g).map f ∧ (ss.map g).Perm l := by
  refine ⟨?_, ?_⟩
  · rw [List.map_map]
    have : ∀ x ∈ ss, (f ∘ g) x = id x := fun x hx => by
      obtain ⟨a, _, rfl⟩ := List.mem_map.mp (h.mem_iff.mp hx)
      show f (g (f a)) = f a
      rw [hg]
    rw [List.map_congr_left this, List.map_id]
  · have q := h.map g
    rw [List.map_map] at q
    have : ∀ x ∈ l, (g ∘ f) x = id x := fun x _ => hg x
    rwa [List.map_congr_left this, List.map_id] at q
section
variable {X : Cx}
def rSortT : List V → Hp → VK → Prop := fun vs H Q => ∃ s : List Nat, vs = [V.str (tx s)] ∧ s.length ≤ sizeLine ∧
  ∀ (cs : List Nat) (p : Addr), cs.Perm s → cs.Pairwise (· ≤ ·) → H p = none → Q (.ref p) (upd H p (.lst (cs.map fun c => V.str (tx [c]))))
theorem cr_sortT' (hc : X.calm = true) : CallR X (.builtin "sorted") rSortT := by
  intro pins s σ H vs us Q I r h
  obtain ⟨t, rfl, hz, q⟩ := h
  cases r with
  | cons r rr =>
    cases rr
    obtain ⟨tk, rfl⟩ := r
    refine sorted_sign (I.ok.hd hc) (tx t) tk (by simpa using hz) fun hp h' tk2 out ss e k1 k2 he h1 h2 h3 => ?_
    obtain ⟨e1, e2⟩ := perm_map (f := fun c => tx [c]) (g := fun x : Str => x.cps.toList.headD 0) (fun c => rfl) h2
    generalize (ss.map fun x : Str => x.cps.toList.headD 0) = cs at e1 e2
    subst e1
    have e2 : cs.Perm t := by simpa using e2
    have hs := sorted_pw _ h3
    rw [List.pairwise_map] at hs
    have hs : cs.Pairwise (· ≤ ·) := hs.imp fun {a b} z => by
      have z : [a] ≤ [b] := z
      rcases Nat.lt_or_ge b a with w | w
      · exact absurd (List.Lex.rel w) z
      · exact w
    have I1 : Inv X pins σ H { s with heap := hp, toks := tk2 } := I.kept k1
    have hlen : (cs.map fun c => V.str (tx [c])).length ≤ sizeLine := by rw [List.length_map, e2.length_eq]; exact hz
    have hv := vals_of_strs h1
    rw [List.map_map] at hv
    exact ⟨.ref _, upd H hp.objs.size (.lst (cs.map fun c => V.str (tx [c]))), I1.laid (t' := tk2) k2 (Nat.le_refl _) ⟨hlen, out.toList, e, hv, he⟩, rfl, q cs _ e2 hs (I1.hok.fresh (Nat.le_refl _))⟩
end
end PW

namespace PW
open PySem L2 PyProof.Rows
/-! ### sorted of pairs of a text and a number -/
abbrev TxI := List Nat × Int
theorem lt_irr (a : List Nat) : ¬ a < a := List.lt_irrefl a
theorem lexT_iff {p q : TxI} : lexT p q = true ↔ p.1 < q.1 ∨ (p.1 = q.1 ∧ p.2 < q.2) := by
  unfold lexT
  by_cases e : p.1 = q.1
  · rw [if_pos e, decide_eq_true_eq, e]
    exact ⟨fun h => .inr ⟨rfl, h⟩, fun h => h.elim (fun z => absurd z (lt_irr _)) fun z => z.2⟩
  · rw [if_neg e, decide_eq_true_eq]
    exact ⟨.inl, fun h => h.elim id fun z => absurd z.1 e⟩
theorem lexT_no {p q : TxI} : lexT p q = false ↔ ¬ (p.1 < q.1 ∨ (p.1 = q.1 ∧ p.2 < q.2)) := by
  rw [← lexT_iff]
  cases lexT p q <;> simp
theorem lt_tri (a b : List Nat) : a < b ∨ a = b ∨ b < a := by
  by_cases h : a < b
  · exact .inl h
  · by_cases g : b < a
    · exact .inr (.inr g)
    · exact .inr (.inl (List.le_antisymm (List.not_lt.mp g) (List.not_lt.mp h)))
theorem swo_T {α : Type} (k : α → TxI) : SrtO.Swo fun v u => lexT (k v) (k u) := by
  refine ⟨fun x y h => ?_, fun x y z h1 h2 => ?_⟩
  · have a := lexT_iff.mp h
    refine lexT_no.mpr fun b => ?_
    rcases a with a | ⟨a, a'⟩
    · rcases b with b | ⟨b, b'⟩
      · exact lt_irr _ (List.lt_trans a b)
      · rw [b] at a; exact lt_irr _ a
    · rcases b with b | ⟨b, b'⟩
      · rw [a] at b; exact lt_irr _ b
      · omega
  · have a := lexT_no.mp h1
    have b := lexT_no.mp h2
    refine lexT_no.mpr fun c => ?_
    rw [not_or] at a b
    obtain ⟨a1, a2⟩ := a
    obtain ⟨b1, b2⟩ := b
    have hyx : (k x).1 ≤ (k y).1 := List.not_lt.mp a1
    have hzy : (k y).1 ≤ (k z).1 := List.not_lt.mp b1
    rcases c with c | ⟨c, c'⟩
    · exact absurd c (List.not_lt.mpr (List.le_trans hyx hzy))
    · have e1 : (k y).1 = (k x).1 := List.le_antisymm (c ▸ hzy) hyx
      have e2 : (k z).1 = (k y).1 := c.trans e1.symm
      have : ¬ (k y).2 < (k x).2 := fun z => a2 ⟨e1, z⟩
      have : ¬ (k z).2 < (k y).2 := fun z => b2 ⟨e2, z⟩
      omega
def IsTP (h : Heap) (v : Value) (q : TxI) : Prop := ∃ a o t u n, v = .ref a ∧ h.get? a = some o ∧ o.cls = .type "tuple" ∧ o.data = .seq #[.str (tx q.1) t, .int q.2 u] n
theorem IsTP.keeps {h h' : Heap} {v : Value} {q : TxI} (p : IsTP h v q) (k : ∀ b o, h.get? b = some o → o.cls = .type "tuple" → h'.get? b = some o) : IsTP h' v q := by
  obtain ⟨a, o, t, u, n, e, ho, hc, hd⟩ := p
  exact ⟨a, o, t, u, n, e, k _ _ ho hc, hc, hd⟩
section
variable {prog : Program} {w : World} {A : Around} {s : Shared} {E : Value → Shared → Prop}
theorem tp_cmp {vs : List Value} {k : Value → TxI} (hp : ∀ v ∈ vs, IsTP s.heap v (k v)) : SrtO.Cmp prog w A s (tuples' true) (fun p => p.1 ∈ vs) (SrtO.lt2 fun v u => lexT (k v) (k u)) := by
  intro p q hm hm'
  have h1 := hp _ hm
  have h2 := hp _ hm'
  show wpAny (model prog w) A (keyLt' (tuples' true) p.1 q.1) (fun r s' => s' = s ∧ r = lexT (k p.1) (k q.1)) (fun _ _ => False) s
  unfold lexT
  obtain ⟨a, o, t, u, n, e, ho, hc, hd⟩ := h1
  obtain ⟨a', o', t', u', n', e', ho', hc', hd'⟩ := h2
  generalize (k p.1).1 = x at hd ⊢
  generalize (k p.1).2 = y at hd ⊢
  generalize (k q.1).1 = x' at hd' ⊢
  generalize (k q.1).2 = y' at hd' ⊢
  rw [e, e']
  refine PySem.W.kat_lt ho hd ho' hd' ?_
  show PySem.W.KatLex prog w A true (decide (2 < 2)) _ [(.str (tx x) t, .str (tx x') t'), (.int y u, .int y' u')] 0 s
  refine PySem.W.kat_cons (SeqAt.EqAt.str_str (tx x) t (tx x') t' prog w _ _ ?_)
  refine PySem.W.kat_go (fun e1 => ?_) (fun e1 => ?_)
  · have ex : x = x' := tx_inj.mp (by simpa using e1)
    refine PySem.W.kat_yes (PySem.W.kat_cons (SeqAt.EqAt.int_int y u y' u' prog w _ _ ?_))
    refine PySem.W.kat_go (fun e2 => ?_) (fun e2 => ?_)
    · have ey : y = y' := by simpa using e2
      have e3 : (if x = x' then decide (y < y') else decide (x < x')) = false := by
        rw [if_pos ex, ey]
        exact decide_eq_false (Int.lt_irrefl _)
      exact PySem.W.kat_yes (PySem.W.kat_nil ⟨rfl, e3.symm⟩)
    · have e3 : (if x = x' then decide (y < y') else decide (x < x')) = decide (y < y') := if_pos ex
      refine PySem.W.kat_no (PySem.W.kat_one _ _ (PyProof.Rows.lt_int ?_))
      exact (show s = s ∧ decide (y < y') = (if x = x' then decide (y < y') else decide (x < x')) from ⟨rfl, e3.symm⟩)
  · have ex : ¬ x = x' := fun z => by subst z; simp at e1
    have e3 : (if x = x' then decide (y < y') else decide (x < x')) = decide (x < x') := if_neg ex
    exact PySem.W.kat_no (oneLt_str ⟨rfl, e3.symm⟩)
theorem tp_firsts {h : Heap} : ∀ {vs : List Value}, (∀ v ∈ vs, ∃ q, IsTP h v q) → ∃ fs : List Value, PySem.W.KatTups h vs fs ∧ fs.length = vs.length ∧ ∀ f ∈ fs, ∃ x t, f = Value.str x t
  | [], _ => ⟨[], PySem.W.KatTups.nil, rfl, fun _ hm => by simp at hm⟩
  | v :: vs, hp => by
    obtain ⟨fs, h1, h2, h3⟩ := tp_firsts (vs := vs) fun v' hm => hp v' (List.mem_cons_of_mem _ hm)
    obtain ⟨q, a, o, t, u, n, e, ho, hc, hd⟩ := hp v (List.mem_cons_self ..)
    subst e
    refine ⟨.str (tx q.1) t :: fs, PySem.W.KatTups.cons ho hc hd rfl h1, by rw [List.length_cons, List.length_cons, h2], fun f hm => ?_⟩
    rcases List.mem_cons.mp hm with rfl | hm
    · exact ⟨_, t, rfl⟩
    · exact h3 f hm
theorem tp_sortable {a : Addr} {vs : List Value} {k : Value → TxI} (h0 : 0 < vs.length) (hp : ∀ v ∈ vs, IsTP s.heap v (k v)) (ha : ∀ o, s.heap.get? a = some o → o.cls ≠ .type "tuple") : SrtO.SortableO prog w A s a vs fun v u => lexT (k v) (k u) := by
  intro h' keep
  have hp' : ∀ v ∈ vs, IsTP h' v (k v) := fun v hm => (hp v hm).keeps fun b o e c => keep b o (fun z => by subst z; exact ha o e c) e
  obtain ⟨fs, h1, h2, h3⟩ := tp_firsts fun v hm => ⟨_, hp' v hm⟩
  refine ⟨tuples' true, fun Q E hq => ?_, tp_cmp hp'⟩
  refine PySem.W.kat_kind (T := .type "str") h1 (by omega) (fun f hm => ?_) (by rfl) ?_
  · obtain ⟨x, t, rfl⟩ := h3 f hm
    exact PySem.W.Looks.now
  · have e : (Value.type "str" != Value.type "tuple") = true := by first | decide +kernel | rfl | decide
    rw [e]
    exact hq
theorem sorted_tp {l : Addr} {vs : List Value} {k : Value → TxI} {Q : Value → Shared → Prop} (hl : s.heap.IsList l vs.toArray) (hz : vs.length ≤ sizeLine) (hp : ∀ v ∈ vs, IsTP s.heap v (k v))
    (h : ∀ (h' : Heap) (d : Addr) (out : List Value), SrtO.Srtd (fun v u => lexT (k v) (k u)) out → SrtO.Stb (fun v u => lexT (k v) (k u)) out vs → (∀ b o, s.heap.get? b = some o → h'.get? b = some o) → s.heap.objs.size ≤ d → (∃ n, h'.get? d = some (seqObj "list" out.toArray n)) → Q (.ref d) { s with heap := h' }) :
    wpAny (model prog w) A (call (.builtin "sorted") [.ref l]) Q E s := by
  refine SrtO.sorted_ord (swo_T k) hl hz (fun h2 h₁ a ha kk => ?_) fun out hs hb => ?_
  · refine tp_sortable (s := { s with heap := h₁ }) (by omega) (fun v hm => (hp v hm).keeps fun b o e _ => (kk b o e).2) fun o e => ?_
    have e' : some o = some (seqObj "list" vs.toArray 0) := e.symm.trans ha
    cases e'
    intro c
    exact absurd (Value.type.inj c) (by decide)
  · exact h _ _ out hs hb (fun b o e => PyProof.Rows.sortedAll_old e) (Nat.le_succ _) (PyProof.Rows.sortedAll_at s.heap vs out.toArray)
end
/-- what stands at an address, read as such a pair -/
def rdTP (h : Heap) : Value → TxI
  | .ref a => match h.get? a with
    | some o => match o.data with
      | .seq xs _ => match xs.toList with
        | [.str x _, .int y _] => (x.cps.toList, y)
        | _ => ([], 0)
      | _ => ([], 0)
    | none => ([], 0)
  | _ => ([], 0)
theorem rd_tp {h : Heap} {v : Value} {q : TxI} (p : IsTP h v q) : rdTP h v = q := by
  obtain ⟨a, o, t, u, n, rfl, ho, hc, hd⟩ := p
  simp only [rdTP, ho, hd]
def rSortedTI (K : Fg) : List V → Hp → VK → Prop := fun vs H Q => ∃ (a : Addr) (xs : List V) (ps : List TxI), vs = [V.ref a] ∧ SqL K H a xs ∧ xs.length = ps.length ∧ (∀ (i : Nat) (x : V) (q : TxI), xs[i]? = some x → ps[i]? = some q → ∃ t, x = V.ref t ∧ SqT K H t [.str (tx q.1), .int q.2]) ∧
  ∀ (ys : List V) (ps' : List TxI) (p : Addr), ps'.Perm ps → ps'.Pairwise (fun p q => lexT q p = false) → ys.length = ps'.length → (∀ (i : Nat) (y : V), ys[i]? = some y → ∃ (j : Nat) (q : TxI), xs[j]? = some y ∧ ps[j]? = some q ∧ ps'[i]? = some q) → H p = none → Q (.ref p) (upd H p (.lst ys))
theorem cr_sortedTI {X : Cx} : CallR X (.builtin "sorted") (rSortedTI X.K) := by
  intro pins s σ H vs us Q I r h
  obtain ⟨a, xs, ps, rfl, hs, hlen, hx, q⟩ := h
  obtain ⟨its, rv, hl, hz⟩ := I.list hs
  obtain ⟨u, rfl, ru⟩ := vals1 r
  obtain rfl : u = Value.ref a := ru
  obtain ⟨e1, e2⟩ := refs_back rv fun x m => by
    obtain ⟨i, hi, e⟩ := List.mem_iff_getElem.mp m
    have hip : i < ps.length := by omega
    obtain ⟨t, e, _⟩ := hx i x ps[i] (by rw [List.getElem?_eq_getElem hi, e]) (List.getElem?_eq_getElem hip)
    exact ⟨t, e⟩
  have hlen2 : its.length = ps.length := by rw [← hlen, ← rv.length]
  have tp : ∀ (i : Nat) (v : Value) (p : TxI), its[i]? = some v → ps[i]? = some p → IsTP s.heap v p := fun i v p hv hp => by
    have hxi : xs[i]? = some (backV v) := by rw [e1, List.getElem?_map, hv]; rfl
    obtain ⟨t, et, hT⟩ := hx i _ p hxi hp
    obtain ⟨a', rfl⟩ := e2 v (List.mem_of_getElem? hv)
    have et : V.ref a' = V.ref t := et
    injection et with et
    subst et
    obtain ⟨its2, r2, ⟨o, ho, hc, n, hd⟩, _⟩ := I.tuple hT
    obtain ⟨u1, u2, rfl, ri, rj⟩ := vals2 r2
    obtain ⟨t1, rfl⟩ := ri
    obtain ⟨t2, rfl⟩ := rj
    exact ⟨a', o, t1, t2, n, rfl, ho, hc, hd⟩
  have km : its.map (rdTP s.heap) = ps := by
    refine List.ext_getElem? fun (i : Nat) => ?_
    rw [List.getElem?_map]
    by_cases hi : i < its.length
    · have hip : i < ps.length := by omega
      rw [List.getElem?_eq_getElem hi, List.getElem?_eq_getElem hip]
      exact congrArg some (rd_tp (tp i _ _ (List.getElem?_eq_getElem hi) (List.getElem?_eq_getElem hip)))
    · rw [List.getElem?_eq_none (by omega), List.getElem?_eq_none (by omega)]; rfl
  refine sorted_tp (k := rdTP s.heap) hl.isList (by rw [← rv.length]; exact hz) (fun v hv => ?_) fun h' d out h1 h2 kp hd hn => ?_
  · obtain ⟨i, hi, e⟩ := List.mem_iff_getElem.mp hv
    have hip : i < ps.length := by omega
    have t := tp i v ps[i] (by rw [List.getElem?_eq_getElem hi, e]) (List.getElem?_eq_getElem hip)
    rw [rd_tp t]; exact t
  · have h3 : ∀ u ∈ out, ∃ a, u = Value.ref a := fun u hu => e2 u (h2.perm.mem_iff.mp hu)
    obtain ⟨n, hn⟩ := hn
    have pm : (out.map (rdTP s.heap)).Perm ps := by rw [← km]; exact h2.perm.map _
    have zl : (out.map backV).length ≤ sizeLine := by
      have e5 := h2.perm.length_eq
      rw [List.length_map, e5, ← rv.length]
      exact hz
    refine ⟨.ref d, upd H d (.lst (out.map backV)), I.laid (t' := s.toks) kp hd ⟨zl, out, n, vals_back h3, hn⟩, rfl, q _ (out.map (rdTP s.heap)) d pm (List.pairwise_map.mpr h1) (by simp) (fun i y hy => ?_) (I.hok.fresh hd)⟩
    rw [List.getElem?_map] at hy
    cases e4 : out[i]? with
    | none => rw [e4] at hy; cases hy
    | some v =>
      rw [e4] at hy
      obtain rfl : backV v = y := Option.some.inj hy
      have hm : v ∈ its := h2.perm.mem_iff.mp (List.mem_of_getElem? e4)
      obtain ⟨j, hj, ej⟩ := List.mem_iff_getElem.mp hm
      have hj' : its[j]? = some v := by rw [List.getElem?_eq_getElem hj, ej]
      refine ⟨j, rdTP s.heap v, by rw [e1, List.getElem?_map, hj']; rfl, by rw [← km, List.getElem?_map, hj']; rfl, by rw [List.getElem?_map, e4]; rfl⟩
end PW

namespace PW
open PySem L2 PyProof.Rows

theorem atI_ix {α : Type} {xs : List α} {i : Int} {d : α} (h : atI xs i = some d) : ∃ j, xs[j]? = some d ∧ ixN xs.length i = some j := by
  unfold atI at h
  cases e : ixN xs.length i with
  | none => rw [e] at h; cases h
  | some j => rw [e] at h; exact ⟨j, h, rfl⟩
theorem atI_of {α β : Type} {xs : List α} {ys : List β} {i : Int} {j : Nat} {y : β} (hl : xs.length = ys.length) (h : ixN xs.length i = some j) (e : ys[j]? = some y) : atI ys i = some y := by
  unfold atI
  rw [← hl, h]
  exact e
section
variable {X : Cx}
def LIx (K : Fg) : R2 := fun x y H Q => ∃ P F env σ L d e C fr, Sta K P F env σ H L ∧ View K F H d x ∧ (fr = true → Rep K F d x) ∧ View K F H e y ∧ ixS fr d e C ∧ Ret K P F env σ H L C Q
theorem item_ret {K : Fg} {P : Par} {F H : Hp} {env : Env} {σ : LSt} {L : List Addr} {C : R → Prop} {Q : VK} {d : D} {v : V} {fr : Bool} (st : Sta K P F env σ H L) (k : Ret K P F env σ H L C Q) (w : item fr d C) (hv : View K F H d v) (hf : fr = true → Rep K F d v) : Q v H := by
  cases fr with
  | true => exact ret_va st k w (hf rfl)
  | false =>
    cases d with
    | lst ds => exact ret_al st k w hv
    | dct ks ds => exact ret_al st k w hv
    | non => exact ret_va st k w (hv.leaf rfl)
    | bl b => exact ret_va st k w (hv.leaf rfl)
    | int i => exact ret_va st k w (hv.leaf rfl)
    | str s => exact ret_va st k w (hv.leaf rfl)
    | tup ds => exact ret_va st k w (hv.leaf rfl)
    | scr ns => exact ret_va st k w (hv.leaf rfl)
    | flz ns => exact ret_va st k w (hv.leaf rfl)
theorem Kd.kV_k (k : Kd) : kV k.k = match k with
    | .i z => V.int z
    | .s t => V.str (tx t) := by cases k <;> rfl
theorem dkv_inj {ks : List Kd} : ∀ {xs ys : List V}, ks.length = xs.length → ks.length = ys.length → dkv ks xs = dkv ks ys → xs = ys := by
  induction ks with
  | nil =>
    intro xs ys h1 h2 _
    rw [List.length_nil] at h1 h2
    rw [List.length_eq_zero_iff.mp h1.symm, List.length_eq_zero_iff.mp h2.symm]
  | cons a ks ih =>
    intro xs ys h1 h2 e
    cases xs with
    | nil => simp at h1
    | cons x xs => cases ys with
      | nil => simp at h2
      | cons y ys =>
        have e : (a.k, x) :: dkv ks xs = (a.k, y) :: dkv ks ys := e
        injection e with e1 e2
        injection e1 with _ e1
        rw [e1, ih (by simpa using h1) (by simpa using h2) e2]
theorem rd_inj {H : Hp} {a : Addr} {x y : List (Key × V)} (h : Rd H a (.dK x)) (g : Rd H a (.dK y)) : x = y := by
  rcases h with h | ⟨o, h⟩
  · rcases g with g | ⟨_, g⟩
    · rw [h] at g; injection g with g; injection g with g
    · rw [h] at g; injection g with g; cases g
  · rcases g with g | ⟨_, g⟩
    · rw [h] at g; injection g with g; cases g
    · rw [h] at g; injection g with g; injection g with _ g; injection g with g
theorem ix_dct {pins : List (Addr × Obj)} {s : Shared} {σ1 : L2.St} {H : Hp} {x : V} {Q : VK} {P : Par} {F : Hp} {env : Env} {σ : LSt} {L : List Addr} {C : R → Prop} {ks : List Kd} {ds : List D} {k : Kd} {fr : Bool} (I : Inv X pins σ1 H s) (st : Sta X.K P F env σ H L) (kk : Ret X.K P F env σ H L C Q) (vx : View X.K F H (.dct ks ds) x) (hf : fr = true → Rep X.K F (.dct ks ds) x) (w : ∃ d, dgt ks ds k = some d ∧ item fr d C) : rIxD x (kV k.k) H Q := by
  obtain ⟨d, hd, w⟩ := w
  obtain ⟨i, e1, e2⟩ := dgt_some hd
  obtain ⟨a, xs, rfl, hr, n, hv⟩ := vx.dct st.sub
  obtain ⟨v', e3, hv'⟩ := hv.get e2
  have hl : ks.length = xs.length := n.2.trans hv.length
  refine ⟨a, _, k.k, v', rfl, rfl, hr, by rw [valV_dkv k hl, e1]; exact e3, item_ret st kk w hv' fun hfr => ?_⟩
  cases hf hfr with
  | dct q n2 r =>
    obtain ⟨v2, e4, r2⟩ := r.get e2
    have ee := dkv_inj hl (n2.2.trans r.length) (rd_inj hr (st.sub.rd q))
    rw [ee] at e3
    rw [e3] at e4; injection e4 with e4; subst e4
    exact r2
theorem ix_sound : IxR X (LIx X.K) := by
  intro value slice pins s σ H x y v u Q I rx ry h hs
  obtain ⟨P, F, env, σ0, L, d, e, C, fr, st, vx, hf, vy, w, k⟩ := h
  have seq := fun h => ix_seq value slice pins s σ H x y v u Q I rx ry h hs
  unfold ixS at w
  split at w
  · cases vy.int
    obtain ⟨d, ha, w⟩ := w
    obtain ⟨j, e1, e2⟩ := atI_ix ha
    obtain ⟨a, xs, rfl, hr, hv⟩ := vx.lst st.sub
    obtain ⟨v', e3, hv'⟩ := hv.get e1
    refine seq (.inl ⟨a, xs, _, v', rfl, rfl, .inl hr, atI_of hv.length e2 e3, item_ret st k w hv' fun hfr => ?_⟩)
    cases hf hfr with
    | lst q r =>
      obtain ⟨v2, e4, r2⟩ := r.get e1
      have ee : xs = _ := I.list_inj (.inl hr) (.inl (st.sub.rd q))
      rw [ee] at e3
      rw [e3] at e4; injection e4 with e4; subst e4
      exact r2
  · cases vy.int
    obtain ⟨d, ha, w⟩ := w
    obtain ⟨j, e1, e2⟩ := atI_ix ha
    obtain ⟨a, xs, rfl, hr, hv⟩ := vx.tup st.sub
    obtain ⟨v', e3, hv'⟩ := hv.get e1
    exact seq (.inr (.inl ⟨a, xs, _, v', rfl, rfl, hr, atI_of hv.length e2 e3, ret_va st k w hv'⟩))
  · cases vy.int
    cases vx.str
    obtain ⟨hl, c, ha, w⟩ := w
    exact seq (.inr (.inr ⟨_, _, c, rfl, rfl, by rw [tx_len]; exact hl, by simpa using ha, ret_va st k w (.str [c])⟩))
  · cases vy.int
    obtain ⟨n, ha, w⟩ := w
    obtain ⟨j, e1, e2⟩ := atI_ix ha
    obtain ⟨a, rfl, hr⟩ := vx.scr st.sub
    exact seq (.inl ⟨a, _, _, .int n, rfl, rfl, hr, atI_of (by rw [List.length_map]) e2 (by rw [List.getElem?_map, e1]; rfl), ret_va st k w (.int n)⟩)
  · cases vy.int
    exact ix_dict value slice pins s σ H x _ v u Q I rx ry (ix_dct (k := .i _) I st k vx hf w) hs
  · cases vy.str
    exact ix_dict value slice pins s σ H x _ v u Q I rx ry (ix_dct (k := .s _) I st k vx hf w) hs
  · exact w.elim

def LSl (K : Fg) : V → Option Int → Option Int → Hp → VK → Prop := fun x lo hi H Q => ∃ P F env σ L d C, Sta K P F env σ H L ∧ View K F H d x ∧ slS d lo hi C ∧ Ret K P F env σ H L C Q
theorem cutL_len {α β : Type} {xs : List α} {ys : List β} (h : xs.length = ys.length) (lo hi : Option Int) : (ys.drop (six ys.length 0 lo)).take (six ys.length ys.length hi - six ys.length 0 lo) = (ys.drop (six xs.length 0 lo)).take (six xs.length xs.length hi - six xs.length 0 lo) := by rw [h]
theorem cut_tx (s : List Nat) (lo hi : Option Int) : cutS (tx s) lo hi = tx (cutL s lo hi) := by
  unfold cutS cutL
  rw [tx_len]
theorem sl_sound : SlR X (LSl X.K) := by
  intro pins s σ H x v vl vu lo hi sl Q I rx hs pl pu h
  obtain ⟨P, F, env, σ0, L, d, C, st, vx, w, k⟩ := h
  unfold slS at w
  split at w
  · obtain ⟨a, xs, rfl, hr, hv⟩ := vx.lst st.sub
    have hl := hv.length
    refine sl_list pins s σ H _ v vl vu lo hi sl Q I rx hs pl pu ⟨a, xs, rfl, .inl hr, fun p hp => ?_⟩
    have e : cutV xs lo hi = cutL xs lo hi := rfl
    rw [e]
    have r := hv.leaves w.1
    refine ret_lst st k w.2 (RepL.own (F := F) (H := H) ?_ ?_) (by simpa using st.nd) (fun _ z => nomatch z) hp
    · show RepL X.K F (cutL _ lo hi) (cutL xs lo hi)
      unfold cutL
      rw [← hl]
      exact (r.drop _).take _
    · rw [List.all_eq_true]
      intro d hd
      exact List.all_eq_true.mp w.1 d (List.mem_of_mem_drop (List.mem_of_mem_take hd))
  · obtain ⟨a, xs, rfl, hr, hv⟩ := vx.tup st.sub
    have hl := hv.length
    refine sl_tupA pins s σ H _ v vl vu lo hi sl Q I rx hs pl pu ⟨a, xs, rfl, hr, fun e => ?_, fun _ p hp => ?_⟩
    · have whole : ∀ {α : Type} (ys : List α), ys.length = xs.length → cutL ys lo hi = ys := fun {α} ys hy => by
        unfold cutL
        rw [hy]
        have e1 : six xs.length 0 lo = 0 := e.1
        have e2 : six xs.length xs.length hi = xs.length := e.2
        rw [e1, e2]
        simp [← hy]
      rw [whole _ hl] at w
      exact ret_va st k w (vx.leaf rfl)
    · refine ret_tup st k w (xs := cutV xs lo hi) ?_ hp
      show RepL X.K F (cutL _ lo hi) (cutL xs lo hi)
      unfold cutL
      rw [← hl]
      exact (hv.drop _).take _
  · cases vx.str
    refine sl_str pins s σ H _ v vl vu lo hi sl Q I rx hs pl pu ⟨_, rfl, by rw [tx_len]; exact w.1, ?_⟩
    rw [cut_tx]
    exact ret_va st k w.2 (.str _)
  · obtain ⟨a, xs, rfl, hr, hv⟩ := vx.flz st.sub
    have hl := hv.length
    refine sl_list pins s σ H _ v vl vu lo hi sl Q I rx hs pl pu ⟨a, xs, rfl, .inl hr, fun p hp => ?_⟩
    refine ret_lstF st k w (xs := cutV xs lo hi) ?_ hp
    show RepL X.K F (cutL _ lo hi) (cutL xs lo hi)
    unfold cutL
    rw [← hl]
    exact (hv.drop _).take _
  · exact w.elim

/-! ### built-in functions -/
inductive ViewAll (K : Fg) (F H : Hp) : List D → List V → Prop
  | nil : ViewAll K F H [] []
  | cons {d : D} {v : V} {ds : List D} {xs : List V} : View K F H d v → ViewAll K F H ds xs → ViewAll K F H (d :: ds) (v :: xs)
def LBi (K : Fg) (b : Bi) : List V → Hp → VK → Prop := fun xs H Q => ∃ P F env σ L ds C, Sta K P F env σ H L ∧ ViewAll K F H ds xs ∧ biS b ds C ∧ Ret K P F env σ H L C Q
def Bi.val : Bi → Value
  | .len => .builtin "len" | .abs => .builtin "abs" | .min2 => .builtin "min" | .max2 => .builtin "max" | .int => .type "int" | .bool => .type "bool" | .str => .type "str" | .sum => .builtin "sum" | .list => .type "list" | .tuple => .type "tuple"
  | .sorted => .builtin "sorted" | .all => .builtin "all" | .any => .builtin "any" | .max1 => .builtin "max" | .min1 => .builtin "min" | .sortP => .builtin "sorted"
theorem ViewAll.one {K : Fg} {F H : Hp} {d : D} {xs : List V} (h : ViewAll K F H [d] xs) : ∃ v, xs = [v] ∧ View K F H d v := by
  cases h with
  | cons h t => cases t; exact ⟨_, rfl, h⟩
theorem ViewAll.two {K : Fg} {F H : Hp} {d e : D} {xs : List V} (h : ViewAll K F H [d, e] xs) : ∃ v u, xs = [v, u] ∧ View K F H d v ∧ View K F H e u := by
  cases h with
  | cons h t => obtain ⟨u, rfl, h2⟩ := t.one; exact ⟨_, u, rfl, h, h2⟩
theorem repl_ints {K : Fg} {F : Hp} : ∀ {ns : List Int} {xs : List V}, RepL K F (ns.map D.int) xs → xs = ns.map V.int
  | [], _, .nil => rfl
  | n :: ns, _, .cons h r => by cases h; rw [repl_ints r]; rfl
theorem leafy_ints (ns : List Int) : (ns.map D.int).all D.leafy = true := by
  rw [List.all_eq_true]
  intro d hd
  obtain ⟨n, _, rfl⟩ := List.mem_map.mp hd
  rfl
theorem repl_strs {K : Fg} {F : Hp} : ∀ {ts : List (List Nat)} {xs : List V}, RepL K F (ts.map D.str) xs → xs = (ts.map tx).map V.str
  | [], _, .nil => rfl
  | t :: ts, _, .cons h r => by cases h; rw [repl_strs r]; rfl
theorem leafy_strs (ts : List (List Nat)) : (ts.map D.str).all D.leafy = true := by
  rw [List.all_eq_true]
  intro d hd
  obtain ⟨n, _, rfl⟩ := List.mem_map.mp hd
  rfl
theorem repl_bls {K : Fg} {F : Hp} : ∀ {ts : List Bool} {xs : List V}, RepL K F (ts.map D.bl) xs → xs = ts.map V.bl
  | [], _, .nil => rfl
  | t :: ts, _, .cons h r => by cases h; rw [repl_bls r]; rfl
theorem leafy_bls (ts : List Bool) : (ts.map D.bl).all D.leafy = true := by
  rw [List.all_eq_true]
  intro d hd
  obtain ⟨n, _, rfl⟩ := List.mem_map.mp hd
  rfl
theorem ints_repl {K : Fg} {F : Hp} : ∀ (ns : List Int), RepL K F (ns.map D.int) (ns.map V.int)
  | [] => .nil
  | n :: ns => .cons (n := rfl) (.int n) (ints_repl ns)
theorem strs_repl {K : Fg} {F : Hp} : ∀ (ns : List (List Nat)), RepL K F (ns.map D.str) ((ns.map tx).map V.str)
  | [] => .nil
  | n :: ns => .cons (n := rfl) (.str n) (strs_repl ns)
theorem signs_repl {K : Fg} {F : Hp} : ∀ (ns : List Nat), RepL K F (ns.map fun c => D.str [c]) (ns.map fun c => V.str (tx [c]))
  | [] => .nil
  | n :: ns => .cons (n := rfl) (.str [n]) (signs_repl ns)
theorem OwnL_of {K : Fg} {F H : Hp} {ds : List D} {xs : List V} (r : RepL K F ds xs) (h : ds.all D.leafy = true) : OwnL K F H ds xs [] := r.own h
theorem leafy_pD (ps : List (List Nat × Int)) : (ps.map pD).all D.leafy = true := by
  rw [List.all_eq_true]
  intro d hd
  obtain ⟨n, _, rfl⟩ := List.mem_map.mp hd
  rfl
theorem repl_pt {K : Fg} {F : Hp} : ∀ {ds : List D} {xs : List V}, ds.all D.nd = true → ds.length = xs.length → (∀ (i : Nat) (d : D) (x : V), ds[i]? = some d → xs[i]? = some x → Rep K F d x) → RepL K F ds xs
  | [], [], _, _, _ => .nil
  | [], _ :: _, _, h, _ => by simp at h
  | _ :: _, [], _, h, _ => by simp at h
  | d :: ds, x :: xs, n, h, k => .cons (n := by rw [List.all_cons, Bool.and_eq_true] at n; exact n.1) (k 0 d x rfl rfl) (repl_pt (by rw [List.all_cons, Bool.and_eq_true] at n; exact n.2) (by simpa using h) fun i e y he hy => k (i + 1) e y (by simpa using he) (by simpa using hy))
theorem keys_repl {K : Fg} {F : Hp} : ∀ ks : List Kd, RepL K F (ks.map Kd.d) (ks.map fun k => kV k.k)
  | [] => .nil
  | .i z :: ks => .cons (n := rfl) (.int z) (keys_repl ks)
  | .s t :: ks => .cons (n := rfl) (.str t) (keys_repl ks)
theorem keys_leafy (ks : List Kd) : (ks.map Kd.d).all D.leafy = true := by
  rw [List.all_map]
  exact List.all_eq_true.mpr fun k _ => by cases k <;> rfl
theorem dkv_keys : ∀ {ks : List Kd} {xs : List V}, ks.length = xs.length → (dkv ks xs).map (fun kv => kV kv.1) = ks.map fun k => kV k.k
  | [], [], _ => rfl
  | [], _ :: _, h => by simp at h
  | _ :: _, [], h => by simp at h
  | a :: ks, x :: xs, h => by
    show kV a.k :: (dkv ks xs).map _ = kV a.k :: _
    rw [dkv_keys (by simpa using h)]
theorem bi_sound (b : Bi) (hc : X.calm = true) : CallR X b.val (LBi X.K b) := by
  intro pins s σ H xs us Q I r h
  obtain ⟨P, F, env, σ0, L, ds, C, st, va, w, k⟩ := h
  unfold biS at w
  split at w
  · obtain ⟨v, rfl, hv⟩ := va.one
    cases hv.str
    refine call_len pins s σ H _ us Q I r ⟨_, _, rfl, ⟨by rw [tx_len]; exact w.1, rfl⟩, ?_⟩
    rw [tx_len]
    exact ret_va st k w.2 (.int _)
  · obtain ⟨v, rfl, hv⟩ := va.one
    obtain ⟨a, xs, rfl, hr, hv⟩ := hv.lst st.sub
    refine call_len pins s σ H _ us Q I r ⟨_, _, rfl, .inl ⟨xs, .inl hr, rfl⟩, ?_⟩
    rw [← hv.length]
    exact ret_va st k w (.int _)
  · obtain ⟨v, rfl, hv⟩ := va.one
    obtain ⟨a, xs, rfl, hr, hv⟩ := hv.tup st.sub
    refine call_len pins s σ H _ us Q I r ⟨_, _, rfl, .inr ⟨xs, hr, rfl⟩, ?_⟩
    rw [← hv.length]
    exact ret_va st k w (.int _)
  · obtain ⟨v, rfl, hv⟩ := va.one
    obtain ⟨a, rfl, hr⟩ := hv.scr st.sub
    refine call_len pins s σ H _ us Q I r ⟨_, _, rfl, .inl ⟨_, hr, rfl⟩, ?_⟩
    rw [List.length_map]
    exact ret_va st k w (.int _)
  · obtain ⟨v, rfl, hv⟩ := va.one
    obtain ⟨a, xs, rfl, hr, n, hv⟩ := hv.dct st.sub
    obtain ⟨u, rfl, ru⟩ := vals1 r
    obtain rfl : u = Value.ref a := ru
    refine d_len I hr fun t s' I' => ⟨.int _, H, I', ⟨t, rfl⟩, ?_⟩
    rw [dkv_len (n.2.trans hv.length)]
    exact ret_va st k w (.int _)
  · obtain ⟨v, rfl, hv⟩ := va.one
    cases hv.int
    exact call_abs pins s σ H _ us Q I r ⟨_, rfl, ret_va st k w (.int _)⟩
  · obtain ⟨v, u, rfl, hv, hu⟩ := va.two
    cases hv.int; cases hu.int
    exact call_min2 hc pins s σ H _ us Q I r ⟨_, _, rfl, ret_va st k w (.int _)⟩
  · obtain ⟨v, u, rfl, hv, hu⟩ := va.two
    cases hv.int; cases hu.int
    exact call_max2 hc pins s σ H _ us Q I r ⟨_, _, rfl, ret_va st k w (.int _)⟩
  · obtain ⟨v, rfl, hv⟩ := va.one
    cases hv.int
    exact call_int1 pins s σ H _ us Q I r (.inl ⟨_, rfl, ret_va st k w (.int _)⟩)
  · obtain ⟨v, rfl, hv⟩ := va.one
    cases hv.bl
    exact call_int1 pins s σ H _ us Q I r (.inr ⟨_, rfl, ret_va st k w (.int _)⟩)
  · obtain ⟨v, rfl, hv⟩ := va.one
    cases hv.int
    exact call_bool1 pins s σ H _ us Q I r (.inl ⟨_, rfl, ret_va st k w (.bl _)⟩)
  · obtain ⟨v, rfl, hv⟩ := va.one
    cases hv.bl
    exact call_bool1 pins s σ H _ us Q I r (.inr ⟨_, rfl, ret_va st k w (.bl _)⟩)
  · obtain ⟨v, rfl, hv⟩ := va.one
    cases hv.int
    refine call_str_int pins s σ H _ us Q I r ⟨_, rfl, w.1, ?_⟩
    have q := ret_va st k w.2 (.str _)
    simpa using q
  · obtain ⟨v, rfl, hv⟩ := va.one
    obtain ⟨ns, rfl, c⟩ := w
    obtain ⟨a, xs, rfl, hr, hv⟩ := hv.lst st.sub
    have e := repl_ints (hv.leaves (leafy_ints ns))
    subst e
    exact cr_sum hc pins s σ H _ us Q I r ⟨_, _, rfl, .inl hr, ret_va st k c (.int _)⟩
  · obtain ⟨v, rfl, hv⟩ := va.one
    obtain ⟨a, xs, rfl, hr, hv⟩ := hv.lst st.sub
    exact call_list_of pins s σ H _ us Q I r ⟨_, _, rfl, .inl (.inl hr), fun l hl => ret_lst st k w.2 ((hv.leaves w.1).own w.1) (by simpa using st.nd) (fun _ z => nomatch z) hl⟩
  · obtain ⟨v, rfl, hv⟩ := va.one
    obtain ⟨a, xs, rfl, hr, hv⟩ := hv.tup st.sub
    exact call_list_of pins s σ H _ us Q I r ⟨_, _, rfl, .inr hr, fun l hl => ret_lst st k w.2 (hv.own w.1) (by simpa using st.nd) (fun _ z => nomatch z) hl⟩
  · obtain ⟨v, rfl, hv⟩ := va.one
    obtain ⟨a, xs, rfl, hr, n, hv⟩ := hv.dct st.sub
    refine call_listD hc pins s σ H _ us Q I r ⟨a, _, rfl, hr, fun l hl => ?_⟩
    rw [dkv_keys (n.2.trans hv.length)]
    exact ret_lst st k w ((keys_repl _).own (keys_leafy _)) (by simpa using st.nd) (fun _ z => nomatch z) hl
  · obtain ⟨v, rfl, hv⟩ := va.one
    obtain ⟨a, xs, rfl, hr, hv⟩ := hv.lst st.sub
    exact call_tuple_of pins s σ H _ us Q I r ⟨_, _, rfl, .inl ⟨.inl hr, fun l hl => ret_tup st k w.2 (hv.leaves w.1) hl⟩⟩
  · obtain ⟨v, rfl, hv⟩ := va.one
    obtain ⟨a, xs, rfl, hr, hv'⟩ := hv.tup st.sub
    exact call_tuple_of pins s σ H _ us Q I r ⟨_, _, rfl, .inr ⟨hr, ret_va st k w (hv.leaf rfl)⟩⟩
  · obtain ⟨v, rfl, hv⟩ := va.one
    obtain ⟨a, xs, rfl, hr, hv⟩ := hv.lst st.sub
    rcases w with ⟨ns, rfl, c⟩ | ⟨ts, rfl, hz, c⟩
    · have e := repl_ints (hv.leaves (leafy_ints ns))
      subst e
      exact cr_sortedI pins s σ H _ us Q I r ⟨_, _, rfl, .inl hr, fun ns' p h1 h2 hp => ret_lst st k (c ns' h1 h2) ((ints_repl ns').own (leafy_ints ns')) (by simpa using st.nd) (fun _ z => nomatch z) hp⟩
    · have e := repl_strs (hv.leaves (leafy_strs ts))
      subst e
      refine cr_sortedS pins s σ H _ us Q I r ⟨_, _, rfl, .inl hr, by rw [List.length_map]; exact hz, fun ys p h1 h2 hp => ?_⟩
      obtain ⟨e1, e2⟩ := perm_map (f := tx) (g := fun x : Str => x.cps.toList) (fun c => by simp) h1
      generalize (ys.map fun x : Str => x.cps.toList) = us at e1 e2
      subst e1
      have hs := sorted_pw _ h2
      rw [List.pairwise_map] at hs
      exact ret_lst st k (c us e2 (hs.imp fun {a b} z => by simpa using z)) ((strs_repl us).own (leafy_strs us)) (by simpa using st.nd) (fun _ z => nomatch z) hp
  · obtain ⟨v, rfl, hv⟩ := va.one
    cases hv.str
    refine cr_sortT' hc pins s σ H _ us Q I r ⟨_, rfl, w.1, fun cs p h1 h2 hp => ?_⟩
    refine ret_lst st k (w.2 cs h1 h2) (OwnL_of (signs_repl cs) ?_) (by simpa using st.nd) (fun _ z => nomatch z) hp
    rw [List.all_eq_true]
    intro d hd
    obtain ⟨n, _, rfl⟩ := List.mem_map.mp hd
    rfl
  · obtain ⟨v, rfl, hv⟩ := va.one
    obtain ⟨a, xs, rfl, hr, hv⟩ := hv.lst st.sub
    obtain ⟨ps, rfl, c⟩ := w
    have r0 : RepL X.K F (ps.map pD) xs := hv.leaves (leafy_pD ps)
    have hl : xs.length = ps.length := by rw [← r0.length, List.length_map]
    refine cr_sortedTI pins s σ H _ us Q I r ⟨a, xs, ps, rfl, .inl hr, hl, fun i x q hx hq => ?_, fun ys ps' p h1 h2 h3 h4 hp => ?_⟩
    · obtain ⟨v, e, rq⟩ := r0.get (i := i) (d := pD q) (by rw [List.getElem?_map, hq]; rfl)
      rw [hx] at e; cases e
      cases rq with
      | tup q1 q2 =>
        cases q2 with
        | cons a1 b1 =>
          cases a1
          cases b1 with
          | cons a2 b2 => cases a2; cases b2; exact ⟨_, rfl, st.sub.sqT q1⟩
    · refine ret_lst st k (c ps' h1 h2) (OwnL_of (repl_pt (D.leafs_nd (leafy_pD ps')) (by rw [List.length_map, h3]) fun i d x hd hx => ?_) (leafy_pD ps')) (by simpa using st.nd) (fun _ z => nomatch z) hp
      obtain ⟨j, q, g1, g2, g3⟩ := h4 i x hx
      rw [List.getElem?_map, g3] at hd
      obtain rfl : pD q = d := Option.some.inj hd
      obtain ⟨v, e, rq⟩ := r0.get (i := j) (d := pD q) (by rw [List.getElem?_map, g2]; rfl)
      rw [g1] at e; cases e
      exact rq
  · obtain ⟨v, rfl, hv⟩ := va.one
    obtain ⟨a, xs, rfl, hr, hv⟩ := hv.lst st.sub
    obtain ⟨bs, rfl, c⟩ := w
    have e := repl_bls (hv.leaves (leafy_bls bs))
    subst e
    exact cr_all hc pins s σ H _ us Q I r ⟨_, _, rfl, .inl hr, ret_va st k c (.bl _)⟩
  · obtain ⟨v, rfl, hv⟩ := va.one
    obtain ⟨a, xs, rfl, hr, hv⟩ := hv.lst st.sub
    obtain ⟨bs, rfl, c⟩ := w
    have e := repl_bls (hv.leaves (leafy_bls bs))
    subst e
    exact cr_any hc pins s σ H _ us Q I r ⟨_, _, rfl, .inl hr, ret_va st k c (.bl _)⟩
  · obtain ⟨v, rfl, hv⟩ := va.one
    obtain ⟨a, xs, rfl, hr, hv⟩ := hv.lst st.sub
    obtain ⟨ns, rfl, hz, c⟩ := w
    have e := repl_ints (hv.leaves (leafy_ints ns))
    subst e
    exact cr_max hc pins s σ H _ us Q I r ⟨_, _, rfl, .inl hr, hz, fun m h1 h2 => ret_va st k (c m h1 h2) (.int _)⟩
  · obtain ⟨v, rfl, hv⟩ := va.one
    obtain ⟨a, xs, rfl, hr, hv⟩ := hv.lst st.sub
    obtain ⟨ns, rfl, hz, c⟩ := w
    have e := repl_ints (hv.leaves (leafy_ints ns))
    subst e
    exact cr_min hc pins s σ H _ us Q I r ⟨_, _, rfl, .inl hr, hz, fun m h1 h2 => ret_va st k (c m h1 h2) (.int _)⟩
  · exact w.elim

/-! ### methods that only read -/
theorem join_tx (sep : List Nat) : ∀ ts : List (List Nat), Txt.join (tx sep) (ts.map tx) = tx (joinT sep ts) := by
  intro ts
  show Builtin.Str.glued (tx sep) (ts.map tx) = _
  rw [StrLaws.glued_eq_join]
  induction ts with
  | nil => rfl
  | cons x r ih =>
    cases r with
    | nil => rfl
    | cons y r =>
      show tx x ++ tx sep ++ Str.join (tx sep) ((y :: r).map tx) = _
      rw [ih, tx_append, tx_append]
      rfl
theorem sum_tx (ts : List (List Nat)) : ((ts.map tx).map (·.length)).sum = (ts.map List.length).sum := by
  rw [List.map_map]
  refine congrArg List.sum ?_
  exact List.map_congr_left fun t _ => tx_len t
theorem idx_tx {t : List Nat} {c : Nat} (h : c ∈ t) : ∃ r, Builtin.Str.occurrences (tx t) (tx [c]) 0 (tx t).length 1 = t.idxOf c :: r := by
  have key : ∀ i, StrLaws.At (tx t) (tx [c]) (tx t).length i ↔ t[i]? = some c := fun i => by
    have q := StrLaws.subAt_one (tx t) c i
    rw [show (tx t).cps.toList = t by simp] at q
    exact q
  rcases StrLaws.occ_head (tx t) (tx [c]) 1 (Nat.le_refl _) with ⟨_, hn⟩ | ⟨i, r, e, h1, h2⟩
  · exfalso
    obtain ⟨i, hi⟩ := List.mem_iff_getElem?.mp h
    exact hn i ((key i).mpr hi)
  · refine ⟨r, ?_⟩
    rw [e]
    congr 1
    have hi := (key i).mp h1
    have lt := (List.getElem?_eq_some_iff.mp hi).1
    have a1 : t.idxOf c < t.length := List.idxOf_lt_length_of_mem h
    have a2 : t[t.idxOf c]? = some c := by
      rw [List.getElem?_eq_getElem a1]
      simp
    rcases Nat.lt_trichotomy i (t.idxOf c) with z | z | z
    · exfalso
      have := List.not_of_lt_findIdx (p := (· == c)) (xs := t) (i := i) z
      rw [List.getElem?_eq_getElem lt] at hi
      injection hi with hi
      simp [hi] at this
    · exact z
    · exact absurd ((key _).mpr a2) (h2 _ z)
theorem find_tx (c : Nat) (t : List Nat) : Txt.find (tx t) (tx [c]) = if c ∈ t then ((t.idxOf c : Nat) : Int) else -1 := by
  have key : ∀ i, StrLaws.At (tx t) (tx [c]) (tx t).length i ↔ t[i]? = some c := fun i => by
    have q := StrLaws.subAt_one (tx t) c i
    rw [show (tx t).cps.toList = t by simp] at q
    exact q
  by_cases h : c ∈ t
  · obtain ⟨r, e⟩ := idx_tx h
    unfold Txt.find
    rw [e, if_pos h]
  · unfold Txt.find
    rcases StrLaws.occ_head (tx t) (tx [c]) 1 (Nat.le_refl _) with ⟨e, _⟩ | ⟨i, r, e, h1, h2⟩
    · rw [e, if_neg h]; try rfl
    · exact absurd (List.mem_of_getElem? ((key i).mp h1)) h
theorem tl_tx (s : List Nat) : TL.tl (tx s) = s := by simp [TL.tl]
theorem cutAt_in {c : Nat} : ∀ {t : List Nat}, c ∈ t → t = (cutAt c t).1 ++ [c] ++ (cutAt c t).2.2 ∧ (cutAt c t).2.1 = [c] ∧ c ∉ (cutAt c t).1
  | d :: r, h => by
    by_cases e : d = c
    · subst e; simp [cutAt]
    · have hr : c ∈ r := by
        rcases List.mem_cons.mp h with q | q
        · exact absurd q.symm e
        · exact q
      obtain ⟨h1, h2, h3⟩ := cutAt_in hr
      simp only [cutAt, if_neg e]
      refine ⟨?_, h2, ?_⟩
      · rw [List.cons_append, List.cons_append, ← h1]
      · intro z
        rcases List.mem_cons.mp z with q | q
        · exact e q.symm
        · exact h3 q
theorem cutAt_out {c : Nat} : ∀ {t : List Nat}, c ∉ t → cutAt c t = (t, [], [])
  | [], _ => rfl
  | d :: r, h => by
    have e : ¬ d = c := fun e => h (e ▸ List.mem_cons_self)
    rw [cutAt, if_neg e, cutAt_out fun z => h (List.mem_cons_of_mem _ z)]
theorem cutAt_tx (c : Nat) (t : List Nat) : Txt.partition (tx t) (tx [c]) = (tx (cutAt c t).1, tx (cutAt c t).2.1, tx (cutAt c t).2.2) := by
  by_cases h : c ∈ t
  · obtain ⟨h1, h2, h3⟩ := cutAt_in h
    rw [h2]
    have q := TL.partition_app (y := tx [c]) (s := c) (S := []) (tl_tx [c]) (a := tx (cutAt c t).1) (b := tx (cutAt c t).2.2) (by rw [tl_tx]; exact h3)
    rw [tx_append, tx_append, ← h1] at q
    exact q
  · rw [cutAt_out h]
    exact TL.partition_none (y := tx [c]) (s := c) (S := []) (tl_tx [c]) (by rw [tl_tx]; exact h)
def LMt (K : Fg) (m : Mt) : V → List V → Hp → VK → Prop := fun x xs H Q => ∃ P F env σ L d ds C, Sta K P F env σ H L ∧ View K F H d x ∧ ViewAll K F H ds xs ∧ mtS m d ds C ∧ Ret K P F env σ H L C Q
def Mt.ty : Mt → String
  | .join => "str" | .sindex => "str" | .partition => "str" | .find => "str" | .lindex => "list" | .upper => "str"
def Mt.id : Mt → String
  | .join => "str.join" | .sindex => "str.index" | .partition => "str.partition" | .find => "str.find" | .lindex => "list.index" | .upper => "str.upper"
theorem pyL_get : ∀ (ds : List D) (m : Nat), (D.pyL ds)[m]? = (ds[m]?).map D.py
  | [], _ => rfl
  | d :: ds, 0 => rfl
  | d :: ds, m + 1 => by
    show (D.pyL ds)[m]? = _
    rw [pyL_get ds m]; rfl
theorem lidx_sound (hu : X.A.units + 100 < cLine) {pins : List (Addr × Obj)} {s : Shared} {σ σ0 : LSt} {H : Hp} {x y : V} {v uy : Value} {Q : VK} {P : Par} {F : Hp} {env : Env} {L : List Addr} {ys : List D} {d : D} {j : Nat} {z : D} (I : Inv X pins σ H s) (st : Sta X.K P F env σ0 H L) (rx : RelV x v) (ry : RelV y uy) (vx : View X.K F H (.lst ys) x) (vy : View X.K F H d y)
    (hz : ys.length ≤ 100000) (n : d.nd = true) (sh : shallow d ∨ shallow (.lst ys)) (h1 : ys[j]? = some z) (h2 : deq z d = true) (h3 : ∀ (m : Nat) (y' : D), m < j → ys[m]? = some y' → deq y' d = false) (q : Q (.int j) H) :
    wpAny (model X.prog X.w) X.A (call (.builtin "list.index") [v, uy]) (EP X pins σ Q) X.xe s := by
  obtain ⟨as, ra⟩ := vy.reads rfl I st.sub n ry
  obtain ⟨bs, rb⟩ := vx.reads rfl I st.sub rfl rx
  have rb : Reads s.heap v (.list (D.pyL ys)) bs := rb
  cases rb with
  | list g1 g2 g3 g4 =>
    rename_i a ob vs n0 as0
    obtain ⟨cls, dd, data, sls⟩ := ob
    simp only at g2 g3
    subst g2 g3
    have hxs := D.plain_pyL ys
    have hmap := PySem.SeqAt.readsAll_map_plain (D.pyL ys) _ _ hxs g4
    have hlen : vs.toList.length = ys.length := by
      have := congrArg List.length hmap
      rw [List.length_map] at this
      rw [this]
      clear this
      induction ys with
      | nil => rfl
      | cons a r ih => exact congrArg (· + 1) (by
          have : ∀ r : List D, (D.pyL r).length = r.length := fun r => by
            induction r with
            | nil => rfl
            | cons a r ih => exact congrArg (· + 1) ih
          exact this r)
    have hjl : j < ys.length := (List.getElem?_eq_some_iff.mp h1).1
    have at_ : ∀ (m : Nat) (hm : m < vs.size) (y' : D), ys[m]? = some y' → PySem.SeqAt.readOf s.heap vs[m] = y'.py := by
      intro m hm y' hy'
      have e1 : (vs.toList.map (PySem.SeqAt.readOf s.heap))[m]? = some y'.py := by rw [hmap, pyL_get, hy']; rfl
      rw [List.getElem?_map, List.getElem?_eq_getElem (by simpa using hm)] at e1
      have e2 := Option.some.inj e1
      simpa using e2
    have hsz : vs.size = ys.length := by rw [← hlen]; simp
    refine call_meets PySem.F.slot_list_index ⟨_, g1, rfl⟩ PySem.F.entry_list_index (PySem.F.args_list_index_2 _ _)
      (PySem.SeqAt.list_indexAt a vs n0 dd sls uy (fun u => PyData.eqv (PySem.SeqAt.readOf s.heap u) d.py) j (by omega) (by omega) ?_ ?_) ⟨g1, PySem.SeqAt.items_plain g4 ra hxs d.plain_py (in_room hu (shallow_items sh)), ?_⟩
    · show PyData.eqv (PySem.SeqAt.readOf s.heap vs[j]) d.py = true
      rw [at_ j (by omega) z h1]
      exact h2
    · intro m hm hmj
      have hm2 : m < ys.length := by omega
      show PyData.eqv (PySem.SeqAt.readOf s.heap vs[m]) d.py = false
      rw [at_ m hm ys[m] (List.getElem?_eq_getElem hm2)]
      exact h3 m _ hmj (List.getElem?_eq_getElem hm2)
    · exact ⟨.int (j : Nat), H, I.tok _, ⟨_, rfl⟩, q⟩
theorem mt_sound (hu : X.A.units + 100 < cLine) (m : Mt) : MtR X m.id (LMt X.K m) := by
  intro pins s σ H x xs v us Q I rx rs h
  obtain ⟨P, F, env, σ0, L, d, ds, C, st, vd, va, w, k⟩ := h
  unfold mtS at w
  split at w
  · cases vd.str
    obtain ⟨u, rfl, hv⟩ := va.one
    obtain ⟨ts, rfl, hz, c⟩ := w
    obtain ⟨a, xs, rfl, hr, hv⟩ := hv.lst st.sub
    have e := repl_strs (hv.leaves (leafy_strs ts))
    subst e
    refine mt_join pins s σ H _ _ v us Q I rx rs ⟨_, a, ts.map tx, rfl, rfl, .inl (.inl hr), by rw [sum_tx, tx_len, List.length_map]; exact hz, ?_⟩
    rw [join_tx]
    exact ret_va st k c (.str _)
  · cases vd.str
    obtain ⟨u, rfl, hv⟩ := va.one
    obtain ⟨ts, rfl, hz, c⟩ := w
    obtain ⟨a, xs, rfl, hr, hv⟩ := hv.tup st.sub
    have e := repl_strs hv
    subst e
    refine mt_join pins s σ H _ _ v us Q I rx rs ⟨_, a, ts.map tx, rfl, rfl, .inr hr, by rw [sum_tx, tx_len, List.length_map]; exact hz, ?_⟩
    rw [join_tx]
    exact ret_va st k c (.str _)
  · cases vd.str
    obtain ⟨u, rfl, hv⟩ := va.one
    cases hv.str
    obtain ⟨hm, c⟩ := w
    obtain ⟨r, e⟩ := idx_tx hm
    exact mt_sindex pins s σ H _ _ v us Q I rx rs ⟨_, _, _, r, rfl, rfl, e, ret_va st k c (.int _)⟩
  · obtain ⟨u, rfl, hv⟩ := va.one
    obtain ⟨hz, n, sh, j, y, ⟨h1, h2, h3⟩, c⟩ := w
    cases rs with
    | cons ry rt =>
      cases rt
      exact lidx_sound hu I st rx ry vd hv hz n sh h1 h2 h3 (ret_va st k c (.int _))
  · cases vd.str
    obtain ⟨u, rfl, hv⟩ := va.one
    cases hv.str
    refine mt_find pins s σ H _ _ v us Q I rx rs ⟨_, _, rfl, rfl, ?_⟩
    rw [find_tx]
    exact ret_va st k w (.int _)
  · cases vd.str
    cases va
    refine mt_upper pins s σ H _ _ v us Q I rx rs ⟨_, rfl, rfl, by rw [tx_len]; omega, ?_⟩
    exact ret_va st k w.2 (.str _)
  · cases vd.str
    obtain ⟨u, rfl, hv⟩ := va.one
    cases hv.str
    refine mt_partition pins s σ H _ _ v us Q I rx rs ⟨_, _, rfl, rfl, rfl, by rw [tx_len]; exact w.1, fun p hp => ?_⟩
    rw [cutAt_tx]
    exact ret_tup st k w.2 (.cons (n := rfl) (.str _) (.cons (n := rfl) (.str _) (.cons (n := rfl) (.str _) .nil))) hp
  · exact w.elim
theorem mt_ty {K : Fg} {F H : Hp} {m : Mt} {d : D} {x : V} (s : Ext F H) (v : View K F H d x) (h : mtTy m d = true) : tyV K m.ty x H := by
  cases m <;> cases d <;> first | (exact absurd h Bool.false_ne_true) | (cases v.str; rfl) | (obtain ⟨a, xs, rfl, hr, _⟩ := v.lst s; exact .inl ⟨rfl, xs, .inl hr⟩)
end
end PW

namespace PW
open PySem L2 PyProof.Rows

/-! ### readings -/
def LE (K : Fg) (e : E) : TE := fun σ H Q => ∃ (P : Par) (F : Hp) (env : Env) (L : List Addr) (C : R → Env → Prop), Sta K P F env σ H L ∧ wE e env C ∧
  ∀ r env' v F' H' L' fp, C r env' → Po K P F' env' σ H' L' r v fp → (e.qt = true → Ext H H') → Q v H'
def LT (K : Fg) (t : T) : TT := fun σ H Q => ∃ (P : Par) (F : Hp) (env : Env) (L : List Addr) (C : Bool → Env → Prop), Sta K P F env σ H L ∧ wT t env C ∧
  ∀ b env' F' H' L', C b env' → Sta K P F' env' σ H' L' → Q b H'
/-- results in a row -/
inductive RRs (K : Fg) (F H : Hp) (σ : LSt) : List R → List V → List Addr → Prop
  | nil : RRs K F H σ [] [] []
  | cons {r : R} {v : V} {rs : List R} {vs : List V} {fp fq : List Addr} : RQ K F H σ false r v fp → RRs K F H σ rs vs fq → RRs K F H σ (r :: rs) (v :: vs) (fp ++ fq)
def LA (K : Fg) (es : Es) : TA := fun σ H Q => ∃ (P : Par) (F : Hp) (env : Env) (L : List Addr) (C : List R → Env → Prop), Sta K P F env σ H L ∧ wEs es env C ∧
  ∀ rs env' vs F' H' L' fp, C rs env' → Sta K P F' env' σ H' L' → RRs K F' H' σ rs vs fp → (L' ++ fp).Nodup → (∀ z ∈ fp, F' z = none ∧ ¬ P.Z z) → Q vs H'
def LO (K : Fg) (o : OE) : TO := fun σ H Q => ∃ (P : Par) (F : Hp) (env : Env) (L : List Addr) (C : Option Int → Env → Prop), Sta K P F env σ H L ∧ wO o env C ∧
  ∀ i env' F' H' L', C i env' → Sta K P F' env' σ H' L' → Q i H'

/-- two expressions in a row -/
theorem le2 {K : Fg} {a b : E} {P : Par} {F : Hp} {env : Env} {σ : LSt} {H : Hp} {L : List Addr} (st : Sta K P F env σ H L) {C : R → R → Env → Prop} (hw : wE a env fun r e1 => wE b e1 fun u e2 => C r u e2) {G : V → V → Hp → Prop}
    (k : ∀ r u env' x y F' H' L' fp fq, C r u env' → Sta K P F' env' σ H' L' → RQ K F' H' σ b.qt r x fp → RR K F' H' σ u y fq → (L' ++ (fp ++ fq)).Nodup → (∀ z ∈ fp ++ fq, F' z = none ∧ ¬ P.Z z) → ((a.qt && b.qt) = true → Ext H H') → G x y H') :
    LE K a σ H fun x H1 => LE K b σ H1 fun y H2 => G x y H2 := by
  refine ⟨P, F, env, L, _, st, hw, fun r e1 x F1 H1 L1 fp c1 po q1 => ?_⟩
  refine ⟨P.push fp H1 F1, F1, e1, L1, _, po.push, c1, fun u e2 y F2 H2 L2 fq c2 po2 q2 => ?_⟩
  have st2 := po.st.pop po2.st
  refine k r u e2 x y F2 H2 L2 fp fq c2 st2 (po.rr.pushed po2.st q2 fun _ _ => rfl) po2.rr ?_ (fun z hz => ?_) fun e => ?_
  · have n1 := List.nodup_append.mp po.nd
    have n2 := List.nodup_append.mp po2.nd
    rw [List.nodup_append]
    refine ⟨n2.1, List.nodup_append.mpr ⟨n1.2.1, n2.2.1, fun z h1 w h2 e => ?_⟩, fun z h1 w h2 e => ?_⟩
    · subst e; exact (po2.dis z h2).2 (.inr h1)
    · subst e
      rcases List.mem_append.mp h2 with h2 | h2
      · exact (po2.st.dis z h1).2 (.inr h2)
      · exact n2.2.2 z h1 z h2 rfl
  · rcases List.mem_append.mp hz with hz | hz
    · exact ⟨(po2.st.z z (.inr hz)).2.2, (po.dis z hz).2⟩
    · exact ⟨(po2.dis z hz).1, fun w => (po2.dis z hz).2 (.inl w)⟩
  · rw [Bool.and_eq_true] at e
    exact (q1 e.1).trans (q2 e.2)

section
variable {X : Cx} {a b : E} {ea eb : Expr} {pos : Pos}
/-- a two-place operation -/
theorem s_op {sem : D → D → (R → Prop) → Prop} {E0 : E} (hE : ∀ env C, wE E0 env C = wE a env fun r env1 => wE b env1 fun u env2 => rd b.qt env2 r fun x => rd true env2 u fun y => sem x y fun z => C z env2)
    (hq : E0.qt = (a.qt && b.qt)) {x : Expr} (ho : PE X x (tOp (LOp X.K sem) (LE X.K a) (LE X.K b))) : PE X x (LE X.K E0) := by
  refine pe_mono ho fun σ H Q h => ?_
  obtain ⟨P, F, env, L, C, st, w, k⟩ := h
  rw [hE] at w
  refine le2 st w fun r u env' x y F' H' L' fp fq c st' r1 r2 nd dis q => ?_
  obtain ⟨d, vd, c⟩ := rd_view st' r1 c
  obtain ⟨e, ve, c⟩ := rd_view st' (r2.rq true) c
  exact ⟨P, F', env', σ, L', d, e, _, st', vd, ve, c, fun z v F2 H2 fr hc hF hH po => k z env' v F2 H2 L' fr hc po fun e => (q (hq ▸ e)).trans hH⟩
end
end PW
namespace PW
open PySem L2 PyProof.Rows
/-! ### shapes -/
def okShape : Expr → Bool
  | .Starred _ _ => false
  | .Set _ _ _ => false
  | .SetComp _ _ _ _ => false
  | .DictComp _ _ _ _ _ => false
  | .Slice _ _ _ _ => false
  | _ => true
theorem shp {N : List Str} {sc : Scope} : ∀ (e : E) (x : Expr), cE N sc e x = true → okShape x = true
  | .frz _ e, x, h => by
    simp only [cE, Bool.and_eq_true] at h
    exact shp e x h.2
  | .fz e, x, h => shp e x (by simpa only [cE] using h)
  | .fzw e, x, h => shp e x (by simpa only [cE] using h)
  | .unw e, x, h => shp e x (by simpa only [cE] using h)
  | .v i, x, h => by cases x <;> first | rfl | (exfalso; revert h; simp only [cE]; decide)
  | .mv i, x, h => by cases x <;> first | rfl | (exfalso; revert h; simp only [cE]; decide)
  | .non, x, h => by cases x <;> first | rfl | (exfalso; revert h; simp only [cE]; decide)
  | .bl b, x, h => by cases x <;> first | rfl | (exfalso; revert h; simp only [cE]; decide)
  | .int z, x, h => by cases x <;> first | rfl | (exfalso; revert h; simp only [cE]; decide)
  | .str s, x, h => by cases x <;> first | rfl | (exfalso; revert h; simp only [cE]; decide)
  | .gl y d, x, h => by cases x <;> first | rfl | (exfalso; revert h; simp only [cE]; decide)
  | .op o a b, x, h => by cases x <;> first | rfl | (exfalso; revert h; simp only [cE]; decide)
  | .cmp o a b, x, h => by cases x <;> first | rfl | (exfalso; revert h; simp only [cE]; decide)
  | .neg a, x, h => by cases x <;> first | rfl | (exfalso; revert h; simp only [cE]; decide)
  | .nt a, x, h => by cases x <;> first | rfl | (exfalso; revert h; simp only [cE]; decide)
  | .an a b, x, h => by cases x <;> first | rfl | (exfalso; revert h; simp only [cE]; decide)
  | .orr a b, x, h => by cases x <;> first | rfl | (exfalso; revert h; simp only [cE]; decide)
  | .ite t a b, x, h => by cases x <;> first | rfl | (exfalso; revert h; simp only [cE]; decide)
  | .ix a b, x, h => by cases x <;> first | rfl | (exfalso; revert h; simp only [cE]; decide)
  | .sl a lo hi, x, h => by cases x <;> first | rfl | (exfalso; revert h; simp only [cE]; decide)
  | .tup es, x, h => by cases x <;> first | rfl | (exfalso; revert h; simp only [cE]; decide)
  | .lst es, x, h => by cases x <;> first | rfl | (exfalso; revert h; simp only [cE]; decide)
  | .call f sp m es, x, h => by cases x <;> first | rfl | (exfalso; revert h; simp only [cE]; decide)
  | .mt m o es, x, h => by cases x <;> first | rfl | (exfalso; revert h; simp only [cE]; decide)
  | .cb b es, x, h => by cases x <;> first | rfl | (exfalso; revert h; simp only [cE]; decide)
  | .rg _ _ _, x, h => by cases x <;> first | rfl | (exfalso; revert h; simp only [cE]; decide)
  | .isi a ty, x, h => by cases x <;> first | rfl | (exfalso; revert h; simp only [cE]; decide)
  | .chv _ _ _ _ _, x, h => by cases x <;> first | rfl | (exfalso; revert h; simp only [cE]; decide)
  | .dsp1 _ _, x, h => by cases x <;> first | rfl | (exfalso; revert h; simp only [cE]; decide)
  | .dget _ _ _, x, h => by cases x <;> first | rfl | (exfalso; revert h; simp only [cE]; decide)
  | .dnew, x, h => by cases x <;> first | rfl | (exfalso; revert h; simp only [cE]; decide)
  | .flst _, x, h => by cases x <;> first | rfl | (exfalso; revert h; simp only [cE]; decide)
  | .popI _ _, x, h => by cases x <;> first | rfl | (exfalso; revert h; simp only [cE]; decide)
  | .pop _, x, h => by cases x <;> first | rfl | (exfalso; revert h; simp only [cE]; decide)
  | .rv _, x, h => by cases x <;> first | rfl | (exfalso; revert h; simp only [cE]; decide)
  | .lc i it t e, x, h => by cases x <;> first | rfl | (exfalso; revert h; simp only [cE]; decide)
theorem star1 {x : Expr} (h : okShape x = true) (xs : List Expr) (env : PySem.Env) : starEach (x :: xs) env = (false, eval x env) :: starEach xs env := by
  cases x <;> first | rfl | cases h
theorem plainIx {x : Expr} (h : okShape x = true) : PlainIx x := by
  intro o i
  cases x <;> first | rfl | cases h
theorem nomarks {x : Expr} (h : okShape x = true) (op : CmpOp) : behindInMarks op x = false := by
  cases x <;> first | rfl | cases h
theorem nofold {x : Expr} (h : okShape x = true) (env : PySem.Env) (v : Value) : foldedSetIterable x env v = pure v := by
  cases x <;> first | rfl | cases h
theorem noswap {x : Expr} (h : compLike x = false) (t : Option Expr) (l : Nat) (env : PySem.Env) : swapsWith x t l env = pure false := by
  cases x <;> first | rfl | cases h
theorem nostars {env : PySem.Env} : ∀ {xs : List Expr}, xs.all okShape = true → (starEach xs env).any (·.1) = false
  | [], _ => rfl
  | x :: xs, h => by
    rw [List.all_cons, Bool.and_eq_true] at h
    rw [star1 h.1, List.any_cons, nostars h.2]; rfl
theorem nostarsB {env : PySem.Env} {xs : List Expr} (pos : Pos) (h : xs.all okShape = true) : (backTo pos (starEach xs env)).any (·.1) = false := by
  unfold backTo
  rw [List.any_map]
  exact nostars h
theorem shps {N : List Str} {sc : Scope} : ∀ (es : Es) (xs : List Expr), cEs N sc es xs = true → xs.all okShape = true
  | .nil, [], _ => rfl
  | .nil, _ :: _, h => by simp only [cEs] at h; cases h
  | .cons e es, [], h => by simp only [cEs] at h; cases h
  | .cons e es, x :: xs, h => by
    simp only [cEs, Bool.and_eq_true] at h
    rw [List.all_cons, shp e x h.1, shps es xs h.2]; rfl
end PW

namespace PW
open PySem L2 PyProof.Rows

/-! ### what a def promises, over the heap -/
inductive Args (K : Fg) (F H : Hp) : List Bool → List D → List V → List Addr → Prop
  | nil : Args K F H [] [] [] []
  | sh {m : List Bool} {d : D} {v : V} {ds : List D} {vs : List V} {L : List Addr} : Rep K F d v → Args K F H m ds vs L → Args K F H (false :: m) (d :: ds) (v :: vs) L
  | ow {m : List Bool} {d : D} {v : V} {ds : List D} {vs : List V} {fp L : List Addr} : Own K F H d v fp → Args K F H m ds vs L → Args K F H (true :: m) (d :: ds) (v :: vs) (fp ++ L)
inductive Outs (K : Fg) (F H : Hp) : List Bool → List V → List D → List Addr → Prop
  | nil {m : List Bool} : Outs K F H m [] [] []
  | sh {m : List Bool} {v : V} {vs : List V} {ds : List D} {L : List Addr} : Outs K F H m vs ds L → Outs K F H (false :: m) (v :: vs) ds L
  | ow {m : List Bool} {d : D} {v : V} {vs : List V} {ds : List D} {fp L : List Addr} : Own K F H d v fp → Outs K F H m vs ds L → Outs K F H (true :: m) (v :: vs) (d :: ds) (fp ++ L)
def Lift (K : Fg) (sp : PSp) (m : List Bool) : L2.Sp := fun vs H Q _ => ∃ (g : sp.G) (ds : List D) (F : Hp) (L : List Addr), Args K F H m ds vs L ∧ L.Nodup ∧ (∀ a ∈ L, F a = none) ∧ Ext F H ∧ sp.pre g ds ∧
  ∀ r outs, sp.post g r outs → ∀ (v : V) (F' H' : Hp) (L' fp : List Addr), Ext F F' → Ext F' H' → (∀ a, H a ≠ none → F a = none → a ∉ L → H' a = H a ∧ F' a = none ∧ a ∉ L' ++ fp) → Outs K F' H' m vs outs L' → RR K F' H' [] r v fp →
    (L' ++ fp).Nodup → (∀ a ∈ L' ++ fp, F' a = none) → Q v H'

/-- a def of the program, called -/
structure FnS (P : Program) (w : World) (K : Fg) (mg : Str → Option Value) (base : Heap) (k : Nat) (f : Str) (sp : PSp) (m : List Bool) : Prop where
  ex : ∃ (a : Addr) (fd : FuncData) (ps : List Str), mg f = some (.ref a) ∧ PySem.W.keepIn K (.ref a) = true ∧ Binds K fd ps [] ∧ FnOk P w K mg base CX0 k a fd ps (Lift K sp m)

theorem Args.len {K : Fg} {F H : Hp} {m : List Bool} {ds : List D} {vs : List V} {L : List Addr} (h : Args K F H m ds vs L) : vs.length = m.length ∧ ds.length = m.length := by
  induction h with
  | nil => exact ⟨rfl, rfl⟩
  | sh _ _ ih => exact ⟨by rw [List.length_cons, List.length_cons, ih.1], by rw [List.length_cons, List.length_cons, ih.2]⟩
  | ow _ _ ih => exact ⟨by rw [List.length_cons, List.length_cons, ih.1], by rw [List.length_cons, List.length_cons, ih.2]⟩
theorem set_same {α : Type} : ∀ {l : List α} {i : Nat} {x : α}, l[i]? = some x → l.set i x = l
  | [], _, _, e => by simp at e
  | y :: l, 0, x, e => by simp at e; subst e; rfl
  | y :: l, i + 1, x, e => by
    rw [List.set_cons_succ, set_same (l := l) (by simpa using e)]

section
variable {K : Fg} {P : Par} {F F' H H' : Hp} {env env' : Env} {σ : LSt} {L L' fp : List Addr} {r : R} {v : V} {d : D}
/-- an owned slot is emptied -/
theorem Sta.take {i : Nat} (s : Sta K P F env σ H L) (e : env[i]? = some (.ow d)) : ∃ v fp L', σ[i]? = some (some v) ∧ Own K F H d v fp ∧ Sta K P F (env.set i .no) σ H L' ∧ L.Perm (L' ++ fp) := by
  obtain ⟨v, L1, fp, L2, h1, h2, h3, h4⟩ := s.sl.getOw e
  have q := h4 F H .no (some v) [] (Ext.refl _) (fun _ _ => rfl) (.no .nil)
  rw [set_same h1, List.append_nil] at q
  have pm : L.Perm ((L1 ++ L2) ++ fp) := by
    rw [h3, List.append_assoc, List.append_assoc]
    exact List.Perm.append_left L1 List.perm_append_comm
  refine ⟨v, fp, L1 ++ L2, h1, h2, ⟨q, ?_, fun a z => s.dis a (pm.mem_iff.mpr (List.mem_append_left _ z)), s.sub, s.f0, s.z, s.fx⟩, pm⟩
  exact (List.nodup_append.mp (pm.nodup_iff.mp s.nd)).1
/-- an owned tree is put into a slot that holds its root -/
theorem Sta.give {i : Nat} (s : Sta K P F env σ H L) (hi : i < env.length) (hv : σ[i]? = some (some v)) (o : Own K F H d v fp) (nd : (L ++ fp).Nodup) (dis : ∀ a ∈ fp, F a = none ∧ ¬ P.Z a) :
    ∃ L', Sta K P F (env.set i (.ow d)) σ H L' ∧ ∀ a ∈ L', a ∈ L ++ fp := by
  obtain ⟨L1, L2, L0, h1, h2⟩ := s.sl.put hi (.ow d) (some v) fp (by simpa using Slots.ow o .nil)
  rw [set_same hv] at h1
  have mem : ∀ a ∈ L1 ++ fp ++ L2, a ∈ L ++ fp := fun a z => by
    rw [h2]
    simp only [List.mem_append] at z ⊢
    rcases z with (z | z) | z
    · exact .inl (.inl (.inl z))
    · exact .inr z
    · exact .inl (.inr z)
  refine ⟨_, ⟨h1, ?_, fun a z => ?_, s.sub, s.f0, s.z, s.fx⟩, mem⟩
  · rw [h2] at nd
    have n1 := List.nodup_append.mp nd
    have n2 := List.nodup_append.mp n1.1
    have n3 := List.nodup_append.mp n2.1
    have n4 : (L1 ++ L2).Nodup := List.nodup_append.mpr ⟨n3.1, n2.2.1, fun a z b w => n2.2.2 a (List.mem_append_left _ z) b w⟩
    have pm : (L1 ++ fp ++ L2).Perm ((L1 ++ L2) ++ fp) := by
      rw [List.append_assoc, List.append_assoc]
      exact List.Perm.append_left L1 List.perm_append_comm
    refine pm.nodup_iff.mpr (List.nodup_append.mpr ⟨n4, n1.2.1, fun a z b w => n1.2.2 a ?_ b w⟩)
    simp only [List.mem_append] at z ⊢
    rcases z with z | z
    · exact .inl (.inl z)
    · exact .inr z
  · rcases List.mem_append.mp (mem a z) with z | z
    · exact s.dis a z
    · exact dis a z
/-- a frozen value is put into a slot: the state of a store -/
theorem Sta.store {i : Nat} {o : Slot} (s : Sta K P F env σ H L) (hi : i < env.length) (hx : P.fx i = false) (q : Slots K F H [o] [some v] fp) (nd : (L ++ fp).Nodup) (dis : ∀ a ∈ fp, F a = none ∧ ¬ P.Z a) :
    ∃ L', Sta K P F (env.set i o) (σ.set i (some v)) H L' := by
  obtain ⟨L1, L2, L0, h1, h2⟩ := s.sl.put hi o (some v) fp q
  have mem : ∀ a ∈ L1 ++ fp ++ L2, a ∈ L ++ fp := fun a z => by
    rw [h2]
    simp only [List.mem_append] at z ⊢
    rcases z with (z | z) | z
    · exact .inl (.inl (.inl z))
    · exact .inr z
    · exact .inl (.inr z)
  refine ⟨_, ⟨h1, ?_, fun a z => ?_, s.sub, s.f0, s.z, fun j hj => ?_⟩⟩
  · rw [h2] at nd
    have n1 := List.nodup_append.mp nd
    have n2 := List.nodup_append.mp n1.1
    have n3 := List.nodup_append.mp n2.1
    have n4 : (L1 ++ L2).Nodup := List.nodup_append.mpr ⟨n3.1, n2.2.1, fun a z b w => n2.2.2 a (List.mem_append_left _ z) b w⟩
    have pm : (L1 ++ fp ++ L2).Perm ((L1 ++ L2) ++ fp) := by
      rw [List.append_assoc, List.append_assoc]
      exact List.Perm.append_left L1 List.perm_append_comm
    refine pm.nodup_iff.mpr (List.nodup_append.mpr ⟨n4, n1.2.1, fun a z b w => n1.2.2 a ?_ b w⟩)
    simp only [List.mem_append] at z ⊢
    rcases z with z | z
    · exact .inl (.inl z)
    · exact .inr z
  · rcases List.mem_append.mp (mem a z) with z | z
    · exact s.dis a z
    · exact dis a z
  · have ne : i ≠ j := fun e => by subst e; rw [hx] at hj; cases hj
    rw [List.getElem?_set_ne ne]
    exact s.fx j hj
/-- what is owned is frozen -/
def frzd (F H : Hp) (fp : List Addr) : Hp := fun a => if a ∈ fp then H a else F a
theorem frzd_ext (dis : ∀ a ∈ fp, F a = none) : Ext F (frzd F H fp) := fun a o e => by
  unfold frzd
  by_cases h : a ∈ fp
  · rw [dis a h] at e; cases e
  · rw [if_neg h]; exact e
theorem frzd_in {a : Addr} (h : a ∈ fp) : frzd F H fp a = H a := by unfold frzd; rw [if_pos h]
theorem frzd_out {a : Addr} (h : a ∉ fp) : frzd F H fp a = F a := by unfold frzd; rw [if_neg h]
theorem frzd_sub (s : Ext F H) : Ext (frzd F H fp) H := fun a o e => by
  unfold frzd at e
  by_cases h : a ∈ fp
  · rw [if_pos h] at e; exact e
  · rw [if_neg h] at e; exact s a o e
/-- .. and all else goes on -/
theorem Sta.frz (s : Sta K P F env σ H L) (nd : (L ++ fp).Nodup) (dis : ∀ a ∈ fp, F a = none ∧ ¬ P.Z a) : Sta K P (frzd F H fp) env σ H L where
  sl := s.sl.mono (frzd_ext fun a z => (dis a z).1) fun _ _ => rfl
  nd := s.nd
  dis := fun a z => ⟨by rw [frzd_out fun w => (List.nodup_append.mp nd).2.2 a z a w rfl]; exact (s.dis a z).1, (s.dis a z).2⟩
  sub := frzd_sub s.sub
  f0 := s.f0.trans (frzd_ext fun a z => (dis a z).1)
  z := fun a z => ⟨(s.z a z).1, (s.z a z).2.1, by rw [frzd_out fun w => (dis a w).2 z]; exact (s.z a z).2.2⟩
  fx := s.fx

theorem RRs.length {rs : List R} {vs : List V} (h : RRs K F H σ rs vs fp) : rs.length = vs.length := by
  induction h with
  | nil => rfl
  | cons _ _ ih => rw [List.length_cons, List.length_cons, ih]
/-- the arguments as they are handed over: of what was in the hand, fz is frozen, tio is handed over to be changed -/
theorem args_ok : ∀ {m : List Bool} {rs : List R} {vs : List V} {fp : List Addr} {env : Env} {L : List Addr} {k : List D → Env → Prop}, Sta K P F env σ H L → RRs K F H σ rs vs fp → argK m rs env k →
    ∃ ds env' L' Lio fz tio Lx, Sta K P F env' σ H L' ∧ (∀ G : Hp, Ext F G → (∀ a ∈ fz, G a = H a) → Args K G H m ds vs Lx) ∧ k ds env' ∧ L.Perm (L' ++ Lio) ∧ fp.Perm (fz ++ tio) ∧ Lx.Perm (Lio ++ tio) ∧ env'.length = env.length
  | [], [], _, _, env, L, k, s, .nil, w => ⟨[], env, L, [], [], [], [], s, fun _ _ _ => .nil, by simpa only [argK] using w, by simp, by simp, by simp, rfl⟩
  | _ :: _, [], _, _, env, L, k, s, .nil, w => by simp only [argK] at w
  | true :: m, .rf i :: rs, _, _, env, L, k, s, .cons (vs := vs) (fp := fp) (fq := fq) r t, w => by
    simp only [argK] at w
    obtain ⟨s0, e0, w⟩ := getK_iff.mp w
    cases s0 with
    | ow d =>
      obtain ⟨hl, w⟩ := setK_iff.mp w
      obtain ⟨v, fp0, L1, h1, h2, h3, h4⟩ := s.take e0
      obtain ⟨rv, rfl⟩ := r
      rw [h1] at rv; injection rv with rv; injection rv with rv; subst rv
      obtain ⟨ds, env', L', Lio, fz, tio, Lx, q1, q2, q3, q4, q6, q7, q5⟩ := args_ok h3 t w
      refine ⟨d :: ds, env', L', fp0 ++ Lio, fz, tio, fp0 ++ Lx, q1, fun G e hG => .ow (h2.mono e fun _ _ => rfl) (q2 G e hG), q3, ?_, by simpa using q6, ?_, by rw [q5, List.length_set]⟩
      · refine h4.trans ((q4.append_right fp0).trans ?_)
        rw [List.append_assoc]
        exact List.Perm.append_left L' List.perm_append_comm
      · rw [List.append_assoc]; exact List.Perm.append_left _ q7
    | sh d => exact w.elim
    | no => exact w.elim
  | true :: m, .ow d :: rs, _, _, env, L, k, s, .cons (fp := fp) (fq := fq) r t, w => by
    simp only [argK] at w
    obtain ⟨ds, env', L', Lio, fz, tio, Lx, q1, q2, q3, q4, q6, q7, q5⟩ := args_ok s t w
    refine ⟨d :: ds, env', L', Lio, fz, fp ++ tio, fp ++ Lx, q1, fun G e hG => .ow (Own.mono e r fun _ _ => rfl) (q2 G e hG), q3, q4, ?_, ?_, q5⟩
    · refine (q6.append_left fp).trans ?_
      rw [← List.append_assoc, ← List.append_assoc]
      exact List.perm_append_comm.append_right tio
    · refine (q7.append_left fp).trans ?_
      rw [← List.append_assoc, ← List.append_assoc]
      exact List.perm_append_comm.append_right tio
  | false :: m, .va d :: rs, _, _, env, L, k, s, .cons (fp := fp) (fq := fq) r t, w => by
    simp only [argK] at w
    obtain ⟨ds, env', L', Lio, fz, tio, Lx, q1, q2, q3, q4, q6, q7, q5⟩ := args_ok s t w
    obtain ⟨r1, rfl⟩ := r
    exact ⟨d :: ds, env', L', Lio, fz, tio, Lx, q1, fun G e hG => .sh (Rep.mono e r1) (q2 G e hG), q3, q4, by simpa using q6, q7, q5⟩
  | false :: m, .ow d :: rs, _, _, env, L, k, s, .cons (fp := fp) (fq := fq) r t, w => by
    simp only [argK] at w
    obtain ⟨ds, env', L', Lio, fz, tio, Lx, q1, q2, q3, q4, q6, q7, q5⟩ := args_ok s t w
    refine ⟨d :: ds, env', L', Lio, fp ++ fz, tio, Lx, q1, fun G e hG => .sh (Own.freeze e r fun a z => hG a (List.mem_append_left _ z)) (q2 G e fun a z => hG a (List.mem_append_right _ z)), q3, q4, ?_, q7, q5⟩
    rw [List.append_assoc]
    exact q6.append_left fp
  | [], _ :: _, _, _, _, _, _, _, _, w => by simp only [argK] at w
  | true :: _, .va _ :: _, _, _, _, _, _, _, _, w => by simp only [argK] at w
  | true :: _, .al _ :: _, _, _, _, _, _, _, _, w => by simp only [argK] at w
  | false :: _, .rf _ :: _, _, _, _, _, _, _, _, w => by simp only [argK] at w
  | false :: _, .al _ :: _, _, _, _, _, _, _, _, w => by simp only [argK] at w
/-- the slots behind the call -/
theorem outs_ok {F1 H1 : Hp} : ∀ {m : List Bool} {rs : List R} {vs : List V} {outs : List D} {fp : List Addr} {env : Env} {L L' : List Addr} {k : Env → Prop}, Sta K P F env σ H L → RRs K F1 H1 σ rs vs fp → Outs K F H m vs outs L' → outK m rs outs env k →
    (L ++ L').Nodup → (∀ a ∈ L', F a = none ∧ ¬ P.Z a) → ∃ env' L2, Sta K P F env' σ H L2 ∧ k env' ∧ ∀ a ∈ L2, a ∈ L ++ L'
  | _, [], _, _, _, env, L, _, k, s, .nil, .nil, w, nd, dis => ⟨env, L, s, by simpa only [outK] using w, fun a z => by simpa using z⟩
  | true :: m, .rf i :: rs, _, d :: outs, _, env, L, _, k, s, .cons r t, .ow (fp := fp0) (L := L0) o q, w, nd, dis => by
    simp only [outK] at w
    obtain ⟨hl, w⟩ := setK_iff.mp w
    obtain ⟨rv, _⟩ := r
    have nd1 : (L ++ fp0).Nodup := by
      rw [← List.append_assoc] at nd
      exact (List.nodup_append.mp nd).1
    obtain ⟨L1, s1, m1⟩ := s.give hl rv o nd1 fun a z => dis a (List.mem_append_left _ z)
    have nd2 : (L1 ++ L0).Nodup := by
      rw [← List.append_assoc] at nd
      have n := List.nodup_append.mp nd
      exact List.nodup_append.mpr ⟨s1.nd, n.2.1, fun a z b w => n.2.2 a (m1 a z) b w⟩
    obtain ⟨env', L2, h1, h2, h3⟩ := outs_ok s1 t q w nd2 fun a z => dis a (List.mem_append_right _ z)
    refine ⟨env', L2, h1, h2, fun a z => ?_⟩
    rcases List.mem_append.mp (h3 a z) with z | z
    · have := m1 a z
      simp only [List.mem_append] at this ⊢
      rcases this with z | z
      · exact .inl z
      · exact .inr (.inl z)
    · simp only [List.mem_append]; exact .inr (.inr z)
  | false :: m, r0 :: rs, _, outs, _, env, L, _, k, s, .cons r t, .sh q, w, nd, dis => by
    simp only [outK] at w
    exact outs_ok s t q w nd dis
  | true :: m, .rf i :: rs, _, [], _, env, L, _, k, s, .cons r t, o, w, nd, dis => by simp only [outK] at w
  | true :: m, .va i :: rs, _, _, _, env, L, _, k, s, .cons r t, o, w, nd, dis => by simp only [outK] at w
  | true :: m, .ow i :: rs, _, [], _, env, L, _, k, s, .cons r t, o, w, nd, dis => by simp only [outK] at w
  | true :: m, .ow _ :: rs, _, d :: outs, _, env, L, _, k, s, .cons r t, .ow (fp := fp0) (L := L0) o q, w, nd, dis => by
    simp only [outK] at w
    have nd2 : (L ++ L0).Nodup := by
      refine List.Sublist.nodup ?_ nd
      exact List.Sublist.append (List.Sublist.refl _) (List.sublist_append_right _ _)
    obtain ⟨env', L2, h1, h2, h3⟩ := outs_ok s t q w nd2 fun a z => dis a (List.mem_append_right _ z)
    refine ⟨env', L2, h1, h2, fun a z => ?_⟩
    rcases List.mem_append.mp (h3 a z) with z | z
    · exact List.mem_append_left _ z
    · exact List.mem_append_right _ (List.mem_append_right _ z)
  | true :: m, .al i :: rs, _, _, _, env, L, _, k, s, .cons r t, o, w, nd, dis => by simp only [outK] at w
end
end PW

namespace PW
open PySem L2 PyProof.Rows

/-! ### what the code asks of the module -/
structure Gm where
  P : Program
  w : World
  K : Fg
  mg : Str → Option Value
  base : Heap
  k : Nat
abbrev gmOf (X : Cx) (k : Nat) : Gm := ⟨X.prog, X.w, X.K, X.mg, X.base, k⟩
def Gm.fn (g : Gm) (f : Str) (sp : PSp) (m : List Bool) : Prop := FnS g.P g.w g.K g.mg g.base g.k f sp m
structure Gm.Glob (g : Gm) (x : Str) (d : D) : Prop where
  ex : ∃ u v, g.mg x = some u ∧ RelV v u ∧ Rep g.K (fun _ => none) d v
mutual
def okE (g : Gm) : E → Prop
  | .v _ => True
  | .mv _ => True
  | .fz e => okE g e
  | .fzw e => okE g e
  | .unw e => okE g e
  | .non => True
  | .bl _ => True
  | .int _ => True
  | .str _ => True
  | .gl x d => g.Glob x d
  | .op _ a b => okE g a ∧ okE g b
  | .cmp _ a b => okE g a ∧ okE g b
  | .neg a => okE g a
  | .nt a => okE g a
  | .an a b => okE g a ∧ okE g b
  | .orr a b => okE g a ∧ okE g b
  | .ite t a b => okT g t ∧ okE g a ∧ okE g b
  | .ix a b => okE g a ∧ okE g b
  | .sl a lo hi => okE g a ∧ okO g lo ∧ okO g hi
  | .tup es => okEs g es
  | .lst es => okEs g es
  | .call f sp m es => g.fn f sp m ∧ okEs g es
  | .cb b es => g.mg b.nm = none ∧ okEs g es
  | .mt _ o es => okE g o ∧ okEs g es
  | .rg l a b => g.mg (if l then "list" else "tuple") = none ∧ g.mg "range" = none ∧ okE g a ∧ okE g b
  | .isi a ty => g.mg "isinstance" = none ∧ g.mg ty.nm = none ∧ okE g a
  | .lc _ it t e => okI g it ∧ okT g t ∧ okE g e
  | .chv _ _ a b c => okE g a ∧ okE g b ∧ okE g c
  | .rv a => okE g a
  | .pop _ => True
  | .popI _ e => okE g e
  | .frz _ e => okE g e
  | .flst es => okEs g es
  | .dnew => True
  | .dsp1 a b => okE g a ∧ okE g b
  | .dget a b c => okE g a ∧ okE g b ∧ okE g c
def okO (g : Gm) : OE → Prop
  | .no => True
  | .so e => okE g e
def okEs (g : Gm) : Es → Prop
  | .nil => True
  | .cons e es => okE g e ∧ okEs g es
def okT (g : Gm) : T → Prop
  | .yes => True
  | .tr e => okE g e
  | .cmp _ a b => okE g a ∧ okE g b
  | .ch _ _ a b c => okE g a ∧ okE g b ∧ okE g c
  | .an a b => okT g a ∧ okT g b
  | .orr a b => okT g a ∧ okT g b
  | .nt a => okT g a
def okI (g : Gm) : It → Prop
  | .sq e => okE g e
  | .sl _ => True
  | .r1 a => g.mg "range" = none ∧ okE g a
  | .r2 a b => g.mg "range" = none ∧ okE g a ∧ okE g b
  | .zip es => g.mg "zip" = none ∧ okEs g es
  | .en es => g.mg "enumerate" = none ∧ okEs g es
  | .rr a => g.mg "reversed" = none ∧ g.mg "range" = none ∧ okE g a
  | .rl a => g.mg "reversed" = none ∧ okE g a
  | .r3 a b c => g.mg "range" = none ∧ okE g a ∧ okE g b ∧ okE g c
end
mutual
def okS (g : Gm) : S → Prop
  | .asg _ e => okE g e
  | .ex e => okE g e
  | .ret e => okE g e
  | .retN => True
  | .ifs t a b => okT g t ∧ okSs g a ∧ okSs g b
  | .for _ it b => okI g it ∧ okSs g b
  | .fors _ _ b => okSs g b
  | .whl t b => okT g t ∧ okSs g b
  | .brk => True
  | .cont => True
  | .pass => True
  | .app _ e => okE g e
  | .set _ k e => okE g k ∧ okE g e
  | .setP _ a k e => okE g a ∧ okE g k ∧ okE g e
  | .rev _ => True
  | .frz _ s => okS g s
  | .appP _ a e => okE g a ∧ okE g e
  | .augS _ k e => okE g k ∧ okE g e
  | .appPP _ _ a b e => okE g a ∧ okE g b ∧ okE g e
  | .clrP _ a b => okE g a ∧ okE g b
  | .mset _ _ _ => True
  | .ext _ e => okE g e
  | .augN _ e => okE g e
  | .par _ _ a b => okE g a ∧ okE g b
  | .unl _ e => okE g e
  | .ins _ a e => okE g a ∧ okE g e
  | .dput _ k e => okE g k ∧ okE g e
  | .frzP _ s => okS g s
  | .sdf _ k e => okE g k ∧ okE g e
  | .sdApp _ k e => okE g k ∧ okE g e
  | .augSub _ k e => okE g k ∧ okE g e
  | .dinc _ k e => okE g k ∧ okE g e
def okSs (g : Gm) : Ss → Prop
  | .nil => True
  | .cons s ss => okS g s ∧ okSs g ss
  | .bor _ _ k ss => okE g k ∧ okSs g ss
end

structure Cok (X : Cx) (N : List Str) (sc : Scope) (k : Nat) : Prop where
  n : X.N = N
  nd : N.Nodup
  sc : X.env.scope = sc
  calm : X.calm = true
  room : Room k X.A
section
variable {X : Cx} {N : List Str} {sc : Scope} {k : Nat}
theorem Cok.un (c : Cok X N sc k) : X.A.units + 100 < cLine := by have := c.room.un; omega
theorem Cok.hu (c : Cok X N sc k) : X.A.units + 1 < cLine := hu_of c.room
theorem vis_ok (c : Cok X N sc k) {i : Nat} {x : Str} (h : visB N sc i x = true) {pos : Pos} : PE X (.Name x pos) (tVar i) := by
  unfold visB at h
  simp only [Bool.and_eq_true, decide_eq_true_eq] at h
  obtain ⟨⟨⟨h1, h2⟩, h3⟩, h4⟩ := h
  refine pe_var (by rw [c.n]; exact h1) ?_ (by simpa using h3) (by simpa using h4)
  unfold Vis
  rw [c.sc]
  split at h2 <;> first | exact .inl (by assumption) | exact .inr (.inl (by assumption)) | exact .inr (.inr (by assumption)) | cases h2
theorem gl_ok (c : Cok X N sc k) {x : Str} (h : glB sc x = true) : Gl X x ∧ (x == ("__debug__" : Str)) = false ∧ x ≠ "__name__" := by
  unfold glB at h
  simp only [Bool.and_eq_true, decide_eq_true_eq] at h
  obtain ⟨⟨h1, h2⟩, h3⟩ := h
  refine ⟨?_, by simpa using h2, h3⟩
  show X.env.scope.names.lookup x = _
  rw [c.sc]; exact h1
theorem loc_ok (c : Cok X N sc k) {i : Nat} {x : Str} (h : locB N sc i x = true) : X.N[i]? = some x ∧ L2.Loc X.env.scope x := by
  unfold locB at h
  simp only [Bool.and_eq_true, decide_eq_true_eq] at h
  obtain ⟨h1, h2⟩ := h
  refine ⟨by rw [c.n]; exact h1, ?_⟩
  unfold L2.Loc
  rw [c.sc]
  split at h2 <;> first | exact .inl (by assumption) | exact .inr (by assumption) | cases h2

theorem po_va {K : Fg} {P : Par} {F H : Hp} {env : PW.Env} {σ : LSt} {L : List Addr} {d : D} {v : V} (st : Sta K P F env σ H L) (r : Rep K F d v) : Po K P F env σ H L (.va d) v [] :=
  ⟨st, ⟨r, rfl⟩, by simpa using st.nd, fun _ z => nomatch z⟩
theorem s_v (c : Cok X N sc k) {i : Nat} {x : Str} (h : visB N sc i x = true) {pos : Pos} : PE X (.Name x pos) (LE X.K (.v i)) := by
  refine pe_mono (vis_ok c h) fun σ H Q w => ?_
  obtain ⟨P, F, env, L, C, st, w, k⟩ := w
  simp only [wE] at w
  obtain ⟨s0, e0, w⟩ := getK_iff.mp w
  cases s0 with
  | sh d =>
    obtain ⟨v, e, r⟩ := st.sl.getSh e0
    exact ⟨v, e, k _ _ _ _ _ _ _ w (po_va st r) fun _ => Ext.refl _⟩
  | ow d =>
    obtain ⟨v, L1, fp, L2, e, _⟩ := st.sl.getOw e0
    exact ⟨v, e, k _ _ _ _ _ _ [] w ⟨st, ⟨e, rfl⟩, by simpa using st.nd, fun _ z => nomatch z⟩ fun _ => Ext.refl _⟩
  | no => exact w.elim
theorem s_mv (c : Cok X N sc k) {i : Nat} {x : Str} (h : visB N sc i x = true) {pos : Pos} : PE X (.Name x pos) (LE X.K (.mv i)) := by
  refine pe_mono (vis_ok c h) fun σ H Q w => ?_
  obtain ⟨P, F, env, L, C, st, w, k⟩ := w
  simp only [wE] at w
  obtain ⟨s0, e0, w⟩ := getK_iff.mp w
  cases s0 with
  | sh d =>
    obtain ⟨v, e, r⟩ := st.sl.getSh e0
    exact ⟨v, e, k _ _ _ _ _ _ _ w (po_va st r) fun e => nomatch e⟩
  | ow d =>
    obtain ⟨hl, w⟩ := setK_iff.mp w
    obtain ⟨v, fp, L', h1, h2, h3, h4⟩ := st.take e0
    exact ⟨v, h1, k _ _ _ _ _ _ fp w ⟨h3, h2, h4.nodup_iff.mp st.nd, fun a z => st.dis a (h4.mem_iff.mpr (List.mem_append_right _ z))⟩ fun e => nomatch e⟩
  | no => exact w.elim
theorem s_fz {e : E} {x : Expr} (h : PE X x (LE X.K e)) : PE X x (LE X.K (.fz e)) := by
  refine pe_mono h fun σ H Q w => ?_
  obtain ⟨P, F, env, L, C, st, w, k⟩ := w
  simp only [wE] at w
  refine ⟨P, F, env, L, _, st, w, fun r env' v F' H' L' fp c po _ => ?_⟩
  cases r with
  | va d => exact k _ _ _ _ _ _ _ c po fun e => nomatch e
  | ow d =>
    have o : Own X.K F' H' d v fp := po.rr
    have e : Ext F' (frzd F' H' fp) := frzd_ext fun a z => (po.dis a z).1
    exact k _ _ _ _ _ _ [] c (po_va (po.st.frz po.nd po.dis) (o.freeze e fun a z => frzd_in z)) fun e => nomatch e
  | rf i => exact c.elim
  | al d => exact c.elim
theorem le_fzw {K : Fg} {e : E} {σ : LSt} {H : Hp} {Q : VK} (w : LE K (.fzw e) σ H Q) : LE K e σ H Q := by
  obtain ⟨P, F, env, L, C, st, w, k⟩ := w
  simp only [wE] at w
  refine ⟨P, F, env, L, _, st, w, fun r env' v F' H' L' fp c po _ => ?_⟩
  cases r with
  | va d =>
    cases d with
    | lst ds =>
      have rr := po.rr
      obtain ⟨r1, e⟩ := rr
      subst e
      cases r1 with
      | lst q r => exact k _ _ _ _ _ _ [] c (po_va po.st (.flz q r)) fun e => nomatch e
    | _ => exact c.elim
  | ow d =>
    cases d with
    | lst ds =>
      have o : Own K F' H' (.lst ds) v fp := po.rr
      have e : Ext F' (frzd F' H' fp) := frzd_ext fun a z => (po.dis a z).1
      have r1 := o.freeze e fun a z => frzd_in z
      cases r1 with
      | lst q r => exact k _ _ _ _ _ _ [] c (po_va (po.st.frz po.nd po.dis) (.flz q r)) fun e => nomatch e
    | _ => exact c.elim
  | rf i => exact c.elim
  | al d => exact c.elim
theorem le_unw {K : Fg} {e : E} {σ : LSt} {H : Hp} {Q : VK} (w : LE K (.unw e) σ H Q) : LE K e σ H Q := by
  obtain ⟨P, F, env, L, C, st, w, k⟩ := w
  simp only [wE] at w
  refine ⟨P, F, env, L, _, st, w, fun r env' v F' H' L' fp c po _ => ?_⟩
  cases r with
  | va d =>
    cases d with
    | flz ds =>
      have rr := po.rr
      obtain ⟨r1, e⟩ := rr
      subst e
      cases r1 with
      | flz q r => exact k _ _ _ _ _ _ [] c (po_va po.st (.lst q r)) fun e => nomatch e
    | _ => exact c.elim
  | ow d => exact c.elim
  | rf i => exact c.elim
  | al d => exact c.elim
theorem s_const {e : E} {x : Expr} {d : D} {v : V} (hp : PE X x (tC v)) (hE : ∀ env C, wE e env C = C (.va d) env) (hr : ∀ F, Rep X.K F d v) : PE X x (LE X.K e) := by
  refine pe_mono hp fun σ H Q w => ?_
  obtain ⟨P, F, env, L, C, st, w, k⟩ := w
  rw [hE] at w
  exact k _ _ _ _ _ _ _ w (po_va st (hr F)) fun _ => Ext.refl _
theorem s_gl (c : Cok X N sc k) {x : Str} {d : D} (h : glB sc x = true) (g : (gmOf X k).Glob x d) {pos : Pos} : PE X (.Name x pos) (LE X.K (.gl x d)) := by
  obtain ⟨u, v, h1, h2, h3⟩ := g.ex
  obtain ⟨g1, g2, _⟩ := gl_ok c h
  exact s_const (pe_glob g1 h1 h2 g2) (fun _ _ => by simp only [wE]) fun F => h3.mono fun _ _ e => by cases e
end
end PW

namespace PW
open PySem L2 PyProof.Rows
theorem and_l {p q : Bool} (h : (p && q) = true) : p = true := (Bool.and_eq_true_iff.mp h).1
theorem and_r {p q : Bool} (h : (p && q) = true) : q = true := (Bool.and_eq_true_iff.mp h).2
section
variable {X : Cx} {N : List Str} {sc : Scope} {k : Nat} {a b : E} {ea eb : Expr} {pos : Pos}
/-- one result, read -/
theorem le1 {K : Fg} {P : Par} {F : Hp} {env : PW.Env} {σ : LSt} {H : Hp} {L : List Addr} (st : Sta K P F env σ H L) {C : D → PW.Env → Prop} (hw : wE a env fun r e1 => rd true e1 r fun d => C d e1) {G : V → Hp → Prop}
    (kk : ∀ d env' x F' H' L', C d env' → Sta K P F' env' σ H' L' → View K F' H' d x → (a.qt = true → Ext H H') → G x H') : LE K a σ H G := by
  refine ⟨P, F, env, L, _, st, hw, fun r e1 x F1 H1 L1 fp c po q => ?_⟩
  obtain ⟨d, v, c⟩ := rd_view po.st (po.rr.rq true) c
  exact kk d e1 x F1 H1 L1 c po.st v q
theorem s_neg (ha : PE X ea (LE X.K a)) : PE X (.UnaryOp .USub ea pos) (LE X.K (.neg a)) := by
  refine pe_mono (pe_un un_neg ha) fun σ H Q h => ?_
  obtain ⟨P, F, env, L, C, st, w, k⟩ := h
  simp only [wE] at w
  refine le1 st w fun d env' x F' H' L' c st' v q => ?_
  split at c
  · cases v.int
    exact ⟨_, rfl, k _ _ _ _ _ _ _ c (po_va st' (.int _)) q⟩
  · exact c.elim
theorem s_nt (ha : PE X ea (LE X.K a)) : PE X (.UnaryOp .Not ea pos) (LE X.K (.nt a)) := by
  refine pe_mono (pe_not ha) fun σ H Q h => ?_
  obtain ⟨P, F, env, L, C, st, w, k⟩ := h
  simp only [wE] at w
  refine le1 st w fun d env' x F' H' L' c st' v q => ?_
  split at c
  · cases v.bl
    exact ⟨_, rfl, k _ _ _ _ _ _ _ c (po_va st' (.bl _)) q⟩
  · exact c.elim
theorem s_an {m : Expr} {r : List Expr} (ha : PE X ea (LE X.K a)) (hb : PE X (.BoolOp .And (m :: r) pos) (LE X.K b)) : PE X (.BoolOp .And (ea :: m :: r) pos) (LE X.K (.an a b)) := by
  refine pe_mono (pe_and ha hb) fun σ H Q h => ?_
  obtain ⟨P, F, env, L, C, st, w, k⟩ := h
  simp only [wE] at w
  refine le1 st w fun d env' x F' H' L' c st' v q => ?_
  split at c
  · rename_i cc
    cases v.bl
    refine ⟨cc, rfl, ?_⟩
    cases cc with
    | true => exact ⟨P, F', env', L', C, st', c.1 rfl, fun r e v F2 H2 L2 fp c po q2 => k r e v F2 H2 L2 fp c po fun z => (q (and_l (show (a.qt && b.qt) = true from z))).trans (q2 (and_r (show (a.qt && b.qt) = true from z)))⟩
    | false => exact k _ _ _ _ _ _ _ (c.2 rfl) (po_va st' (.bl _)) fun z => q (and_l (show (a.qt && b.qt) = true from z))
  · exact c.elim
theorem s_or {m : Expr} {r : List Expr} (ha : PE X ea (LE X.K a)) (hb : PE X (.BoolOp .Or (m :: r) pos) (LE X.K b)) : PE X (.BoolOp .Or (ea :: m :: r) pos) (LE X.K (.orr a b)) := by
  refine pe_mono (pe_or ha hb) fun σ H Q h => ?_
  obtain ⟨P, F, env, L, C, st, w, k⟩ := h
  simp only [wE] at w
  refine le1 st w fun d env' x F' H' L' c st' v q => ?_
  split at c
  · rename_i cc
    cases v.bl
    refine ⟨cc, rfl, ?_⟩
    cases cc with
    | false => exact ⟨P, F', env', L', C, st', c.2 rfl, fun r e v F2 H2 L2 fp c po q2 => k r e v F2 H2 L2 fp c po fun z => (q (and_l (show (a.qt && b.qt) = true from z))).trans (q2 (and_r (show (a.qt && b.qt) = true from z)))⟩
    | true => exact k _ _ _ _ _ _ _ (c.1 rfl) (po_va st' (.bl _)) fun z => q (and_l (show (a.qt && b.qt) = true from z))
  · exact c.elim
theorem s_ite {t : T} {ec : Expr} (hc : PT X ec (LT X.K t)) (ha : PE X ea (LE X.K a)) (hb : PE X eb (LE X.K b)) : PE X (.IfExp ec ea eb pos) (LE X.K (.ite t a b)) := by
  refine pe_mono (pe_ifExp hc ha hb) fun σ H Q h => ?_
  obtain ⟨P, F, env, L, C, st, w, k⟩ := h
  simp only [wE] at w
  refine ⟨P, F, env, L, _, st, w, fun c env' F' H' L' cc st' => ?_⟩
  cases c with
  | true => exact ⟨P, F', env', L', C, st', cc.1 rfl, fun r e v F2 H2 L2 fp c po _ => k r e v F2 H2 L2 fp c po fun z => nomatch z⟩
  | false => exact ⟨P, F', env', L', C, st', cc.2 rfl, fun r e v F2 H2 L2 fp c po _ => k r e v F2 H2 L2 fp c po fun z => nomatch z⟩
theorem s_ix (ha : PE X ea (LE X.K a)) (hb : PE X eb (LE X.K b)) (hs : okShape eb = true) : PE X (.Subscript ea eb pos) (LE X.K (.ix a b)) := by
  refine pe_mono (pe_ix ix_sound ha hb (plainIx hs)) fun σ H Q h => ?_
  obtain ⟨P, F, env, L, C, st, w, k⟩ := h
  simp only [wE] at w
  refine le2 st w fun r u env' x y F' H' L' fp fq c st' r1 r2 nd dis q => ?_
  have hf : frz r = true → ∀ d, rd b.qt env' r (fun x => x = d) → Rep X.K F' d x := fun e d w => by
    cases r with
    | va d' => have w : d' = d := w; subst w; exact r1.1
    | _ => cases e
  have key : ∃ d, View X.K F' H' d x ∧ (frz r = true → Rep X.K F' d x) ∧ rd true env' u (fun y => ixS (frz r) d y fun z => C z env') := by
    cases r with
    | va d' => exact ⟨d', .inl r1.1, fun _ => r1.1, c⟩
    | ow d' => obtain ⟨d, v, c⟩ := rd_view st' r1 c; exact ⟨d, v, (fun e => nomatch e), c⟩
    | rf d' => obtain ⟨d, v, c⟩ := rd_view st' r1 c; exact ⟨d, v, (fun e => nomatch e), c⟩
    | al d' => obtain ⟨d, v, c⟩ := rd_view st' r1 c; exact ⟨d, v, (fun e => nomatch e), c⟩
  obtain ⟨d, vd, hfd, c⟩ := key
  obtain ⟨e, ve, c⟩ := rd_view st' (r2.rq true) c
  exact ⟨P, F', env', σ, L', d, e, _, frz r, st', vd, hfd, ve, c, fun z v F2 H2 fr hc hF hH po => k z env' v F2 H2 L' fr hc po fun e => (q e).trans hH⟩
theorem s_O {o : OE} {x : Option Expr} (h : ∀ e y, o = .so e → x = some y → PE X y (LE X.K e)) (h0 : o = .no → x = none) (h1 : ∀ e, o = .so e → ∃ y, x = some y) : PO X x (LO X.K o) := by
  cases o with
  | no =>
    rw [h0 rfl]
    exact ⟨fun pins s σ H Q I w => po_none.run pins s σ H Q I (by
      obtain ⟨P, F, env, L, C, st, w, k⟩ := w
      simp only [wO] at w
      exact k _ _ _ _ _ w st)⟩
  | so e =>
    obtain ⟨y, hy⟩ := h1 e rfl
    subst hy
    exact ⟨fun pins s σ H Q I w => (po_some (h e y rfl rfl)).run pins s σ H Q I (by
      obtain ⟨P, F, env, L, C, st, w, k⟩ := w
      simp only [wO] at w
      refine ⟨P, F, env, L, _, st, w, fun r env' v F' H' L' fp c po _ => ?_⟩
      split at c
      · obtain ⟨r1, _⟩ := po.rr
        cases r1
        exact ⟨_, rfl, k _ _ _ _ _ c po.st⟩
      · exact c.elim)⟩
theorem s_sl {lo hi : OE} {x y : Option Expr} {p2 : Pos} (ha : PE X ea (LE X.K a)) (hl : PO X x (LO X.K lo)) (hh : PO X y (LO X.K hi)) : PE X (.Subscript ea (.Slice x y none p2) pos) (LE X.K (.sl a lo hi)) := by
  refine pe_mono (pe_slice sl_sound ha hl hh) fun σ H Q h => ?_
  obtain ⟨P, F, env, L, C, st, w, k⟩ := h
  simp only [wE] at w
  refine ⟨P, F, env, L, _, st, w, fun r e1 v F1 H1 L1 fp c po _ => ?_⟩
  refine ⟨P.push fp H1 F1, F1, e1, L1, _, po.push, c, fun l e2 F2 H2 L2 c2 st2 => ?_⟩
  have q2 := po.rr.pushed (q := false) st2 (fun e => nomatch e) fun _ _ => rfl
  refine ⟨P.push fp H1 F1, F2, e2, L2, _, st2, c2, fun h e3 F3 H3 L3 c3 st3 => ?_⟩
  have st3' := po.st.pop st3
  have q3 := po.rr.pushed (q := false) st3 (fun e => nomatch e) fun _ _ => rfl
  obtain ⟨d, vd, c⟩ := rd_view st3' q3 c3
  exact ⟨P, F3, e3, σ, L3, d, _, st3', vd, c, fun z v F4 H4 fr hc hF hH po => k z e3 v F4 H4 L3 fr hc po fun e => nomatch e⟩
end
end PW

namespace PW
open PySem L2 PyProof.Rows
section
variable {K : Fg} {P : Par} {F F' G H H' : Hp} {env env' : Env} {σ : LSt} {L L' fp : List Addr} {r : R} {v : V} {d : D}
theorem nd_push {L1 L2 fp fq : List Addr} (n1 : (L1 ++ fp).Nodup) (n2 : (L2 ++ fq).Nodup) (h1 : ∀ a ∈ fq, a ∉ fp) (h2 : ∀ a ∈ L2, a ∉ fp) : (L2 ++ (fp ++ fq)).Nodup := by
  have m1 := List.nodup_append.mp n1
  have m2 := List.nodup_append.mp n2
  refine List.nodup_append.mpr ⟨m2.1, List.nodup_append.mpr ⟨m1.2.1, m2.2.1, fun z z1 w w1 e => ?_⟩, fun z z1 w w1 e => ?_⟩
  · subst e; exact h1 z w1 z1
  · subst e
    rcases List.mem_append.mp w1 with w1 | w1
    · exact h2 z z1 w1
    · exact m2.2.2 z z1 z w1 rfl
theorem RQ.rr0 (h : RR K F H σ r v fp) : RQ K F H σ false r v fp := h.q false
theorem tupK_ok (e : Ext F G) : ∀ {rs : List R} {vs : List V} {fp : List Addr} {k : List D → Prop}, RRs K F H σ rs vs fp → (∀ a ∈ fp, G a = H a) → tupK rs k → ∃ ds, RepL K G ds vs ∧ k ds
  | [], _, _, k, .nil, _, w => ⟨[], .nil, by simpa only [tupK] using w⟩
  | .va d :: rs, _, _, k, .cons r t, hG, w => by
    simp only [tupK] at w
    obtain ⟨nn, w⟩ := ndK_nd w
    obtain ⟨ds, q1, q2⟩ := tupK_ok e t (fun a z => hG a (List.mem_append_right _ z)) w
    exact ⟨d :: ds, .cons (n := nn) (Rep.mono e r.1) q1, q2⟩
  | .ow d :: rs, _, _, k, .cons r t, hG, w => by
    simp only [tupK] at w
    obtain ⟨nn, w⟩ := ndK_nd w
    obtain ⟨ds, q1, q2⟩ := tupK_ok e t (fun a z => hG a (List.mem_append_right _ z)) w
    exact ⟨d :: ds, .cons (n := nn) (Own.freeze e r fun a z => hG a (List.mem_append_left _ z)) q1, q2⟩
  | .rf _ :: _, _, _, _, _, _, w => by simp only [tupK] at w
  | .al _ :: _, _, _, _, _, _, w => by simp only [tupK] at w
theorem lstK_ok : ∀ {rs : List R} {vs : List V} {fp : List Addr} {k : List D → Prop}, RRs K F H σ rs vs fp → lstK rs k → ∃ ds, OwnL K F H ds vs fp ∧ k ds
  | [], _, _, k, .nil, w => ⟨[], .nil, by simpa only [lstK] using w⟩
  | .va d :: rs, _, _, k, .cons r t, w => by
    simp only [lstK] at w
    obtain ⟨ds, q1, q2⟩ := lstK_ok t w.2
    obtain ⟨r1, r2⟩ := r
    subst r2
    exact ⟨d :: ds, .cons (n := D.leafy_nd w.1) (.leaf w.1 r1) q1, q2⟩
  | .ow d :: rs, _, _, k, .cons r t, w => by
    simp only [lstK] at w
    obtain ⟨nn, w⟩ := ndK_nd w
    obtain ⟨ds, q1, q2⟩ := lstK_ok t w
    exact ⟨d :: ds, .cons (n := nn) r q1, q2⟩
  | .rf _ :: _, _, _, _, _, w => by simp only [lstK] at w
  | .al _ :: _, _, _, _, _, w => by simp only [lstK] at w
theorem rdL_ok (s : Sta K P F env σ H L) : ∀ {rs : List R} {vs : List V} {fp : List Addr} {k : List D → Prop}, RRs K F H σ rs vs fp → rdL env rs k → ∃ ds, ViewAll K F H ds vs ∧ k ds
  | [], _, _, k, .nil, w => ⟨[], .nil, by simpa only [rdL] using w⟩
  | r :: rs, _, _, k, .cons q t, w => by
    simp only [rdL] at w
    obtain ⟨d, vd, w⟩ := rd_view s q w
    obtain ⟨ds, q1, q2⟩ := rdL_ok s t w
    exact ⟨d :: ds, .cons vd q1, q2⟩
end
section
variable {X : Cx} {N : List Str} {sc : Scope} {k : Nat} {a b : E} {ea eb : Expr} {pos : Pos}
theorem s_Es0 : PA X [] (LA X.K .nil) := ⟨fun ps pins s σ H Q I w => pa_nil.run ps pins s σ H Q I (by
  obtain ⟨P, F, env, L, C, st, w, k⟩ := w
  simp only [wEs] at w
  exact k _ _ _ _ _ _ [] w st .nil (by simpa using st.nd) fun _ z => nomatch z)⟩
theorem s_Es1 {es : Es} {x : Expr} {xs : List Expr} (hs : okShape x = true) (ha : PE X x (LE X.K a)) (hr : PA X xs (LA X.K es)) : PA X (x :: xs) (LA X.K (.cons a es)) :=
  ⟨fun ps pins s σ H Q I w => (pa_cons ha hr (star1 hs xs X.env)).run ps pins s σ H Q I (by
    obtain ⟨P, F, env, L, C, st, w, k⟩ := w
    simp only [wEs] at w
    refine ⟨P, F, env, L, _, st, w, fun r e1 v F1 H1 L1 fp c po _ => ?_⟩
    refine ⟨P.push fp H1 F1, F1, e1, L1, _, po.push, c, fun rs e2 vs F2 H2 L2 fq c2 st2 q2 nd2 dis2 => ?_⟩
    have q := po.rr.pushed (q := false) st2 (fun e => nomatch e) fun _ _ => rfl
    refine k _ e2 _ F2 H2 L2 _ c2 (po.st.pop st2) (.cons q q2) (nd_push po.nd nd2 (fun a z w => (dis2 a z).2 (.inr w)) fun a z w => (st2.dis a z).2 (.inr w)) fun z hz => ?_
    rcases List.mem_append.mp hz with hz | hz
    · exact ⟨(st2.z z (.inr hz)).2.2, (po.dis z hz).2⟩
    · exact ⟨(dis2 z hz).1, fun w => (dis2 z hz).2 (.inl w)⟩)⟩
theorem s_tup {es : Es} {xs : List Expr} {kk : Nat} (h : PA X xs (LA X.K es)) : PE X (.Tuple xs kk pos) (LE X.K (.tup es)) := by
  refine pe_mono (pe_tup h) fun σ H Q w => ?_
  obtain ⟨P, F, env, L, C, st, w, k⟩ := w
  simp only [wE] at w
  refine ⟨P, F, env, L, _, st, w, fun rs e1 vs F1 H1 L1 fp c st1 q nd dis => ?_⟩
  obtain ⟨ds, q1, hl, c⟩ := tupK_ok (frzd_ext fun a z => (dis a z).1) q (fun a z => frzd_in z) c
  refine ⟨by rw [← q1.length]; exact hl, fun p hp => ?_⟩
  exact ret_tup (C := fun r => C r e1) (st1.frz nd dis) (fun r v F2 H2 fq c _ _ po => k r e1 v F2 H2 L1 fq c po fun e => nomatch e) c q1 hp
theorem s_lst {es : Es} {xs : List Expr} (h : PA X xs (LA X.K es)) : PE X (.List xs pos) (LE X.K (.lst es)) := by
  refine pe_mono (pe_lst h) fun σ H Q w => ?_
  obtain ⟨P, F, env, L, C, st, w, k⟩ := w
  simp only [wE] at w
  refine ⟨P, F, env, L, _, st, w, fun rs e1 vs F1 H1 L1 fp c st1 q nd dis => ?_⟩
  obtain ⟨ds, q1, hl, c⟩ := lstK_ok q c
  refine ⟨by rw [← q1.length]; exact hl, fun p hp => ?_⟩
  exact ret_lst (C := fun r => C r e1) st1 (fun r v F2 H2 fq c _ _ po => k r e1 v F2 H2 L1 fq c po fun e => nomatch e) c q1 nd dis hp

theorem RRs.there {K : Fg} {F H : Hp} {σ : LSt} {rs : List R} {vs : List V} {fp : List Addr} (h : RRs K F H σ rs vs fp) : ∀ a ∈ fp, ∃ o, H a = some o := by
  induction h with
  | nil => exact fun _ z => nomatch z
  | cons q _ ih => exact fun a z => (List.mem_append.mp z).elim (fun z => q.there a z) fun z => ih a z
theorem RR.noσ {K : Fg} {F H : Hp} {σ : LSt} {r : R} {v : V} {fp : List Addr} (h : RR K F H [] r v fp) : RR K F H σ r v fp := by
  cases r with
  | va d => exact h
  | ow d => exact h
  | al d => exact h
  | rf i => obtain ⟨h, _⟩ := h; simp at h
/-- the call -/
theorem call_core {sp : PSp} {m : List Bool} {es : Es} {σ : LSt} {H : Hp} {Q : VK} {f : Str} {E : XK} (h : LE X.K (.call f sp m es) σ H Q) :
    LA X.K es σ H fun vs H1 => Lift X.K sp m (vs ++ []) H1 Q E := by
  obtain ⟨P, F, env, L, C, st, w, k⟩ := h
  simp only [wE] at w
  refine ⟨P, F, env, L, _, st, w, fun rs e1 vs F1 H1 L1 fp c st1 q nd dis => ?_⟩
  show Lift X.K sp m (vs ++ []) H1 Q E
  rw [List.append_nil]
  obtain ⟨ds, e2, L2, Lio, fz, tio, Lx, s2, ar, ⟨g, hpre, hpost⟩, pm, pf, px, _⟩ := args_ok st1 q c
  have zf : ∀ a ∈ fz, a ∈ fp := fun a z => pf.mem_iff.mpr (List.mem_append_left _ z)
  have zt : ∀ a ∈ tio, a ∈ fp := fun a z => pf.mem_iff.mpr (List.mem_append_right _ z)
  have zn : ∀ a ∈ tio, a ∉ fz := fun a z w => (List.nodup_append.mp (pf.nodup_iff.mp (List.nodup_append.mp nd).2.1)).2.2 a w a z rfl
  have eG : Ext F1 (frzd F1 H1 fz) := frzd_ext fun a z => (dis a (zf a z)).1
  have ndL : (L2 ++ Lio).Nodup := pm.nodup_iff.mp st1.nd
  have inL : ∀ a ∈ Lio, a ∈ L1 := fun a z => pm.mem_iff.mpr (List.mem_append_right _ z)
  have outfp : ∀ a ∈ L1, a ∉ fp := fun a z w => (List.nodup_append.mp nd).2.2 a z a w rfl
  have s2L : ∀ a ∈ L2, a ∈ L1 := fun a z => pm.mem_iff.mpr (List.mem_append_left _ z)
  have ndx : Lx.Nodup := px.nodup_iff.mpr (List.nodup_append.mpr ⟨(List.nodup_append.mp ndL).2.1, (List.nodup_append.mp (pf.nodup_iff.mp (List.nodup_append.mp nd).2.1)).2.1, fun a z b w e => outfp a (inL a z) (e ▸ zt b w)⟩)
  refine ⟨g, ds, frzd F1 H1 fz, Lx, ar _ eG (fun a z => frzd_in z), ndx, fun a z => ?_, frzd_sub st1.sub, hpre, fun r outs hp v F' H' L' fr hF hH hk ho hr hn hd => ?_⟩
  · rcases List.mem_append.mp (px.mem_iff.mp z) with z | z
    · rw [frzd_out fun w => outfp a (inL a z) (zf a w)]
      exact (st1.dis a (inL a z)).1
    · rw [frzd_out (zn a z)]
      exact (dis a (zt a z)).1
  · -- behind the call
    have kept : ∀ a, H1 a ≠ none → F1 a = none → a ∉ fp → a ∉ Lio → H' a = H1 a ∧ F' a = none ∧ a ∉ L' ++ fr := fun a h1 h2 h3 h4 => hk a h1 (by rw [frzd_out fun w => h3 (zf a w)]; exact h2) fun w => (List.mem_append.mp (px.mem_iff.mp w)).elim h4 fun w => h3 (zt a w)
    have kL2 : ∀ a ∈ L2, H' a = H1 a ∧ F' a = none ∧ a ∉ L' ++ fr := fun a z => by
      obtain ⟨xs, e⟩ := s2.sl.there a z
      exact kept a (by rw [e]; simp) (s2.dis a z).1 (outfp a (s2L a z)) fun w => (List.nodup_append.mp ndL).2.2 a z a w rfl
    have kZ : ∀ a, P.Z a → H' a = H1 a ∧ F' a = none ∧ a ∉ L' ++ fr := fun a z => by
      obtain ⟨_, h1, h2⟩ := s2.z a z
      exact kept a h1 h2 (fun w => (dis a w).2 z) fun w => (st1.dis a (inL a w)).2 z
    have eF : Ext F1 F' := eG.trans hF
    have s3 : Sta X.K P F' e2 σ H' L2 :=
      ⟨s2.sl.mono eF fun a z => (kL2 a z).1, s2.nd, fun a z => ⟨(kL2 a z).2.1, (s2.dis a z).2⟩, hH, s2.f0.trans eF, fun a z => ⟨(kZ a z).1.trans (s2.z a z).1, by rw [(kZ a z).1]; exact (s2.z a z).2.1, (kZ a z).2.1⟩, s2.fx⟩
    have nd3 : (L2 ++ (L' ++ fr)).Nodup := List.nodup_append.mpr ⟨s2.nd, hn, fun a z b w e => (kL2 a z).2.2 (e ▸ w)⟩
    have nd4 : (L2 ++ L').Nodup := by
      rw [← List.append_assoc] at nd3
      exact (List.nodup_append.mp nd3).1
    have dO : ∀ a ∈ L' ++ fr, F' a = none ∧ ¬ P.Z a := fun a z => ⟨hd a z, fun w => (kZ a w).2.2 z⟩
    obtain ⟨e3, L3, s4, c3, m3⟩ := outs_ok s3 q ho (hpost r outs hp) nd4 fun a z => dO a (List.mem_append_left _ z)
    refine k r e3 v F' H' L3 fr c3 ⟨s4, hr.noσ, ?_, fun a z => dO a (List.mem_append_right _ z)⟩ fun e => nomatch e
    refine List.nodup_append.mpr ⟨s4.nd, (List.nodup_append.mp hn).2.1, fun a z b w e => ?_⟩
    subst e
    rw [← List.append_assoc] at nd3
    exact (List.nodup_append.mp nd3).2.2 a (m3 a z) a w rfl
theorem Es.isNil : ∀ {es : Es}, cEs N sc es [] = true → es = .nil
  | .nil, _ => rfl
  | .cons e es, h => by simp only [cEs] at h; cases h
theorem la_nil {K : Fg} {σ : LSt} {H : Hp} {G : List V → Hp → Prop} (h : LA K .nil σ H G) : G [] H := by
  obtain ⟨P, F, env, L, C, st, w, k⟩ := h
  simp only [wEs] at w
  exact k _ _ _ _ _ _ [] w st .nil (by simpa using st.nd) fun _ z => nomatch z
theorem s_call {sp : PSp} {m : List Bool} {es : Es} {xs : List Expr} {f : Str} {p : Pos} (c : Cok X N sc k) (hg : glB sc f = true) (F : (gmOf X k).fn f sp m) (hc : cEs N sc es xs = true) (ha : PA X xs (LA X.K es)) : PE X (.Call (.Name f p) xs [] pos) (LE X.K (.call f sp m es)) := by
  obtain ⟨a, fd, ps, h1, h2, h3, h4⟩ := F.ex
  obtain ⟨g1, g2, _⟩ := gl_ok c hg
  have hx := shps es xs hc
  cases xs with
  | nil =>
    have e := Es.isNil hc
    subst e
    exact pe_mono (pe_call0 (pos := pos) h4 c.room g1 h1 h2 h3 (.nil : Vals [] []) (pass0 (X := X)) g2) fun σ H Q w => la_nil (G := fun vs H1 => Lift X.K sp m (vs ++ []) H1 Q E0) (call_core (E := E0) w)
  | cons x xs =>
    rw [List.all_cons, Bool.and_eq_true] at hx
    exact pe_mono (pe_call (pos := pos) h4 c.room g1 h1 h2 h3 (.nil : Vals [] []) (pass0 (X := X)) ha g2 (star1 hx.1 xs X.env) (nostarsB pos hx.2)) fun σ H Q w => call_core w

/-- a built-in function -/
theorem Bi.boot (b : Bi) : bootBuiltins b.nm = some b.val := by
  cases b <;> decide +kernel
theorem s_cb {bi : Bi} {es : Es} {x : Expr} {xs : List Expr} {p : Pos} {T : TA} (c : Cok X N sc k) (hg : glB sc bi.nm = true) (hm : X.mg bi.nm = none) (hx : (x :: xs).all okShape = true) (ha : PA X (x :: xs) T)
    (key : ∀ {σ : LSt} {H : Hp} {Q : VK}, LE X.K (.cb bi es) σ H Q → tCB (LBi X.K bi) T σ H Q) :
    PE X (.Call (.Name bi.nm p) (x :: xs) [] pos) (LE X.K (.cb bi es)) := by
  obtain ⟨g1, g2, g3⟩ := gl_ok c hg
  rw [List.all_cons, Bool.and_eq_true] at hx
  have h := bi_sound bi c.calm
  have hb := Bi.boot bi
  have s1 := star1 hx.1 xs X.env
  have s2 := nostarsB (env := X.env) pos hx.2
  cases bi
  all_goals first
    | exact pe_mono (pe_callB (pos := pos) h g1 hm hb ha g3 g2 s1 s2) fun σ H Q w => key w
    | exact pe_mono (pe_callTy (pos := pos) h g1 hm hb ha g3 g2 s1 s2) fun σ H Q w => key w
theorem cb_key2 {bi : Bi} {es : Es} {σ : LSt} {H : Hp} {Q : VK} (hes : ∀ (env : PW.Env) (C : List D → PW.Env → Prop), wEs es env (fun rs env1 => rdL1 env1 rs fun ds => C ds env1) → wEs es env (fun rs env1 => rdL env1 rs fun ds => C ds env1)) (w : LE X.K (.cb bi es) σ H Q) : tCB (LBi X.K bi) (LA X.K es) σ H Q := by
  obtain ⟨P, F, env, L, C, st, w, k⟩ := w
  simp only [wE] at w
  refine ⟨P, F, env, L, _, st, hes env (fun ds env1 => biS bi ds fun z => C z env1) w, fun rs e1 vs F1 H1 L1 fp c st1 q nd dis => ?_⟩
  obtain ⟨ds, vd, c⟩ := rdL_ok st1 q c
  exact ⟨P, F1, e1, σ, L1, ds, fun r => C r e1, st1, vd, c, fun r v F2 H2 fq c _ _ po => k r e1 v F2 H2 L1 fq c po fun e => nomatch e⟩
theorem cb_key1 {bi : Bi} {σ : LSt} {H : Hp} {Q : VK} (w : LE X.K (.cb bi (.cons a .nil)) σ H Q) : tCB (LBi X.K bi) (tCons (LE X.K a) tNil) σ H Q := by
  obtain ⟨P, F, env, L, C, st, w, k⟩ := w
  simp only [wE, wEs] at w
  refine ⟨P, F, env, L, _, st, w, fun r e1 v F1 H1 L1 fp c po _ => ?_⟩
  obtain ⟨d, vd, c⟩ := rd_view po.st (po.rr.rq true) c
  exact ⟨P, F1, e1, σ, L1, [d], fun r => C r e1, po.st, .cons vd .nil, c, fun r v F2 H2 fq c _ _ po => k r e1 v F2 H2 L1 fq c po fun e => nomatch e⟩

theorem mt_key {m : Mt} {o : E} {es : Es} {σ : LSt} {H : Hp} {Q : VK} (w : LE X.K (.mt m o es) σ H Q) : LE X.K o σ H fun x H1 => tyV X.K m.ty x H1 ∧ LA X.K es σ H1 fun xs H2 => LMt X.K m x xs H2 Q := by
  obtain ⟨P, F, env, L, C, st, w, k⟩ := w
  simp only [wE] at w
  refine ⟨P, F, env, L, _, st, w, fun r e1 v F1 H1 L1 fp c po _ => ?_⟩
  obtain ⟨d0, v0, ht, c⟩ := rd_view po.st (po.rr.rq true) c
  refine ⟨mt_ty po.st.sub v0 ht, P.push fp H1 F1, F1, e1, L1, _, po.push, c, fun rs e2 vs F2 H2 L2 fq c2 st2 q2 nd2 dis2 => ?_⟩
  have q := po.rr.pushed (q := false) st2 (fun e => nomatch e) fun _ _ => rfl
  have st3 := po.st.pop st2
  obtain ⟨d, vd, c3⟩ := rd_view st3 q c2
  obtain ⟨ds, va, c4⟩ := rdL_ok st3 q2 c3
  exact ⟨P, F2, e2, σ, L2, d, ds, fun z => C z e2, st3, vd, va, c4, fun z v F3 H3 fr c5 _ _ po3 => k z e2 v F3 H3 L2 fr c5 po3 fun e => nomatch e⟩
theorem Mt.facts (m : Mt) : PlainAttrs m.ty ∧ PySem.Slot m.ty m.nm m.id ∧ typeOf (.builtin m.id) = pure (.type "method_descriptor") := by
  cases m
  · exact ⟨PySem.F.plainAttrs_str, PySem.F.slot_str_join, PySem.F.type_str_join⟩
  · exact ⟨PySem.F.plainAttrs_str, PySem.F.slot_str_index, PySem.F.type_str_index⟩
  · exact ⟨PySem.F.plainAttrs_str, PySem.F.slot_str_partition, PySem.F.type_str_partition⟩
  · exact ⟨PySem.F.plainAttrs_str, PySem.F.slot_str_find, PySem.F.type_str_find⟩
  · exact ⟨PySem.F.plainAttrs_list, PySem.F.slot_list_index, PySem.F.type_list_index⟩
  · exact ⟨PySem.F.plainAttrs_str, PySem.F.slot_str_upper, PySem.F.type_str_upper⟩
theorem nobase {y : Expr} (h : notC0 y = true) (n : Str) (env : PySem.Env) (w : Sem Value) : attributeBase y n env w = w := by
  unfold attributeBase
  split
  · cases h
  · rfl
theorem few_ok {xs : List Expr} (hs : xs.all okShape = true) (hn : xs.length < 20) (cp : Pos) (env : PySem.Env) :
    ((backTo cp (starEach xs env)).all (fun x => !x.1) && (backToKw cp (keywordEach [] env)).all (fun x => x.1.isSome) && decide (xs.length + ([] : List Keyword).length + (if ([] : List Keyword).isEmpty then 0 else 1) < 30)) = true := by
  have h1 := nostarsB (env := env) cp hs
  have h2 : (backTo cp (starEach xs env)).all (fun x => !x.1) = true := by
    rw [List.all_eq_true]
    intro p hp
    cases e : p.1 with
    | false => rfl
    | true =>
      have : (backTo cp (starEach xs env)).any (·.1) = true := List.any_eq_true.mpr ⟨p, hp, e⟩
      rw [h1] at this; cases this
  rw [h2]
  have h3 : xs.length + ([] : List Keyword).length + (if ([] : List Keyword).isEmpty then 0 else 1) < 30 := by
    simp only [List.isEmpty_nil, List.length_nil, if_true]
    omega
  rw [decide_eq_true h3]
  rfl
theorem s_mt {m : Mt} {o : E} {es : Es} {y : Expr} {xs : List Expr} {ap cp : Pos} (c : Cok X N sc k) (hl : (ap.endLine == cp.line) = true) (hn : xs.length < 20) (hc0 : notC0 y = true) (hy : okShape y = true) (hx : cEs N sc es xs = true) (ho : PE X y (LE X.K o)) (ha : PA X xs (LA X.K es)) :
    PE X (.Call (.Attribute y m.nm ap) xs [] cp) (LE X.K (.mt m o es)) := by
  obtain ⟨f1, f2, f3⟩ := m.facts
  have hs := shps es xs hx
  have hb := nobase hc0 m.nm X.env (eval y X.env)
  cases xs with
  | nil =>
    have e := Es.isNil hx
    subst e
    refine pe_mono (pe_bm0 f1 f2 f3 (mt_sound c.un m) ho hb hl) fun σ H Q w => ?_
    obtain ⟨P, F, env, L, C, st, w, k⟩ := mt_key w
    exact ⟨P, F, env, L, C, st, w, fun r e v F' H' L' fp c po q => ⟨(k r e v F' H' L' fp c po q).1, la_nil (G := fun xs H2 => LMt X.K m v xs H2 Q) (k r e v F' H' L' fp c po q).2⟩⟩
  | cons x xs =>
    have few := few_ok hs hn cp X.env
    rw [List.all_cons, Bool.and_eq_true] at hs
    exact pe_mono (pe_bm f1 f2 f3 (mt_sound c.un m) ho ha hb few hl (star1 hs.1 xs X.env) (nostarsB cp hs.2)) fun σ H Q w => mt_key w

/-! ### isinstance -/
def tyS : D → String
  | .non => "NoneType" | .bl _ => "bool" | .int _ => "int" | .str _ => "str" | .tup _ => "tuple" | .lst _ => "list" | .dct _ _ => "dict" | .scr _ => "list" | .flz _ => "list"
theorem kit_isTy (d : D) (ty : Ty) : kitB (tyS d) ty.st = some (isTy d ty) := by
  cases d <;> cases ty <;> simp only [tyS, Ty.st, isTy] <;> decide +kernel
theorem rep_ty {K : Fg} {H : Hp} {d : D} {x : V} (h : Rep K H d x) : TyX K H x (.type (tyS d)) := by
  cases h with
  | non => exact .base .non
  | bl b => exact .base (.bl b)
  | int i => exact .base (.int i)
  | str s => exact .base (.str _)
  | tup q r =>
    rcases q with (q | ⟨o, q⟩) | ⟨o, its, n, q, c, _⟩
    · exact .base (.tup q)
    · exact .fTuple q
    · exact .kTuple q c
  | lst q r =>
    rcases q with q | ⟨o, q⟩
    · exact .base (.lst q)
    · exact .base (.frz q)
  | flz q r =>
    rcases q with q | ⟨o, q⟩
    · exact .base (.lst q)
    · exact .base (.frz q)
  | scr ns q =>
    rcases q with (q | ⟨o, q⟩) | ⟨o, its, n, q, c, _⟩
    · exact .base (.lst q)
    · exact .base (.frz q)
    · exact .kList q c
  | dct q n r =>
    rcases q with q | ⟨o, q⟩
    · exact .base (.dK q)
    · exact .fDict q
theorem Ty.boot (t : Ty) : bootBuiltins t.nm = some (.type t.st) := by
  cases t <;> decide +kernel
theorem s_isi {ty : Ty} {p1 p2 : Pos} (c : Cok X N sc k) (hg : glB sc "isinstance" = true) (hm : X.mg "isinstance" = none) (hg2 : glB sc ty.nm = true) (hm2 : X.mg ty.nm = none) (hs : okShape ea = true) (ha : PE X ea (LE X.K a)) :
    PE X (.Call (.Name "isinstance" p1) [ea, .Name ty.nm p2] [] pos) (LE X.K (.isi a ty)) := by
  obtain ⟨g1, g2, g3⟩ := gl_ok c hg
  obtain ⟨t1, t2, t3⟩ := gl_ok c hg2
  have ht : PE X (.Name ty.nm p2) (tC (.ty ty.st)) := pe_bltn t1 hm2 (Ty.boot ty) rfl t3 t2
  have hp : PA X [ea, .Name ty.nm p2] (tCons (LE X.K a) (tCons (tC (.ty ty.st)) tNil)) := pa_cons ha (pa_cons ht pa_nil) (star1 hs _ X.env)
  have hall : ([.Name ty.nm p2] : List Expr).all okShape = true := rfl
  refine pe_mono (pe_callB (pos := pos) call_isi g1 hm boot_isinstance hp g3 g2 (star1 hs _ X.env) (nostarsB pos hall)) fun σ H Q w => ?_
  obtain ⟨P, F, env, L, C, st, w, k⟩ := w
  simp only [wE] at w
  refine le1 st w fun d env' x F' H' L' c st' v q => ?_
  exact ⟨x, _, _, _, _, rfl, .ty _, rep_ty (v.rep st'.sub), kit_ty (kit_isTy d ty), k _ _ _ _ _ _ _ c (po_va st' (.bl _)) q⟩
end
end PW

namespace PW
open PySem L2 PyProof.Rows
theorem not_emp {α β : Type} {ds : List α} {xs : List β} (h : ds.length = xs.length) : (!ds.isEmpty) = !xs.isEmpty := by
  cases ds <;> cases xs <;> first | rfl | cases h
theorem len_ne {s : List Nat} : (!s.isEmpty) = ((((tx s).length : Nat) : Int) != 0) := by
  rw [tx_len]
  cases s with
  | nil => rfl
  | cons a t => simp; omega
theorem tru_view {K : Fg} {F H : Hp} {d : D} {x : V} {C : Bool → Prop} (s : Ext F H) (v : View K F H d x) (w : truS d C) : ∃ b, TruV K x H b ∧ C b := by
  cases d with
  | non => cases v.non; exact ⟨false, rfl, w⟩
  | bl b => cases v.bl; exact ⟨b, rfl, w⟩
  | int i => cases v.int; exact ⟨i != 0, rfl, w⟩
  | str t => cases v.str; exact ⟨_, ⟨by rw [tx_len]; exact w.1, len_ne⟩, w.2⟩
  | tup ds =>
    obtain ⟨a, xs, rfl, h, r⟩ := v.tup s
    exact ⟨_, .inr (.inl ⟨xs, h, not_emp r.length⟩), w⟩
  | lst ds =>
    obtain ⟨a, xs, rfl, h, r⟩ := v.lst s
    exact ⟨_, .inl ⟨xs, .inl h, not_emp r.length⟩, w⟩
  | dct ks ds => exact w.elim
  | flz kv => exact w.elim
  | scr ns =>
    obtain ⟨a, rfl, h⟩ := v.scr s
    exact ⟨_, .inl ⟨_, h, not_emp (ds := ns) (by rw [List.length_map])⟩, w⟩
theorem truth_plain {x : Expr} (h : plainT x = true) (env : PySem.Env) (whole : Sem Value) : isTrue x env whole = (do let v ← whole; standAt x.pos; holding [v] (truthy v)) := by
  cases x with
  | UnaryOp op a p => cases op <;> first | rfl | cases h
  | BoolOp op vs p => cases h
  | IfExp a b c p => cases h
  | Compare a b c p => cases h
  | _ => rfl
theorem nolast {b c : Expr} (hb : okShape b = true) (hc : okShape c = true) {o o' : CmpOp} : lastMarks [o, o'] [b, c] = false := by
  simp [lastMarks, nomarks hb, nomarks hc]
section
variable {X : Cx} {N : List Str} {sc : Scope} {k : Nat} {a b : E} {t u : T} {ea eb : Expr} {pos : Pos}
theorem t_tr (hp : plainT ea = true) (ha : PE X ea (LE X.K a)) : PT X ea (LT X.K (.tr a)) := by
  refine pt_mono (pt_truth ha (truth_plain hp X.env)) fun σ H Q w => ?_
  obtain ⟨P, F, env, L, C, st, w, k⟩ := w
  simp only [wT] at w
  refine le1 st w fun d env' x F' H' L' c st' v q => ?_
  obtain ⟨b, hb, c⟩ := tru_view st'.sub v c
  exact ⟨b, hb, k _ _ _ _ _ c st'⟩
def cB (C : Bool → Prop) : R → Prop
  | .va (.bl z) => C z
  | _ => False
theorem cB_inv {C : Bool → Prop} {r : R} (h : cB C r) : ∃ z, r = .va (.bl z) ∧ C z := by
  unfold cB at h
  split at h
  · exact ⟨_, rfl, h⟩
  · exact h.elim
theorem t_cmp {o : CmpOp} (c : Cok X N sc k) (ha : PE X ea (LE X.K a)) (hb : PE X eb (LE X.K b)) (hs : okShape eb = true) : PT X (.Compare ea [o] [eb] pos) (LT X.K (.cmp o a b)) := by
  refine pt_mono (pt_cmpR (cmp_sound o c.un) ha hb (nomarks hs o)) fun σ H Q w => ?_
  obtain ⟨P, F, env, L, C, st, w, k⟩ := w
  simp only [wT] at w
  refine le2 st w fun r u env' x y F' H' L' fp fq c st' r1 r2 nd dis q => ?_
  obtain ⟨d, vd, c⟩ := rd_view st' r1 c
  obtain ⟨e, ve, c⟩ := rd_view st' (r2.rq true) c
  refine ⟨P, F', env', σ, L', d, e, cB fun z => C z env', st', vd, ve, c, fun r v F2 H2 fr hc hF hH po => ?_⟩
  obtain ⟨z, rfl, c⟩ := cB_inv hc
  obtain ⟨r3, _⟩ := po.rr
  cases r3
  exact ⟨z, rfl, k _ _ _ _ _ c po.st⟩
theorem rd_self {q : Bool} {env : PW.Env} {r : R} {k : D → Prop} : rd q env r k → rd q env r fun d => k d := fun h => h
theorem t_ch {o o' : CmpOp} {c' : E} {ec : Expr} (c : Cok X N sc k) (ha : PE X ea (LE X.K a)) (hb : PE X eb (LE X.K b)) (hc : PE X ec (LE X.K c')) (hs : okShape eb = true) (hs' : okShape ec = true) :
    PT X (.Compare ea [o, o'] [eb, ec] pos) (LT X.K (.ch o o' a b c')) := by
  refine pt_mono (pt_chain (cmp_sound o c.un) (cmp_sound o' c.un) ha hb hc (nolast hs hs')) fun σ H Q w => ?_
  obtain ⟨P, F, env, L, C, st, w, k⟩ := w
  simp only [wT] at w
  refine le2 st w fun r u env' x y F' H' L' fp fq c st' r1 r2 nd dis q => ?_
  obtain ⟨d, vd, c⟩ := rd_view st' r1 c
  obtain ⟨e, ve, c⟩ := rd_view st' (r2.rq true) c
  have stp : Sta X.K (P.push (fp ++ fq) H' F') F' env' σ H' L' := st'.par (Ext.refl _) (fun a z => by
      rcases z with z | z
      · exact ⟨rfl, (st'.z a z).2⟩
      · have ⟨xs, e⟩ := (List.mem_append.mp z).elim (fun z => r1.there a z) fun z => r2.there a z
        exact ⟨rfl, by rw [e]; simp, (dis a z).1⟩) (fun a z => by
      rintro (w | w)
      · exact (st'.dis a z).2 w
      · exact (List.nodup_append.mp nd).2.2 a z a w rfl) st'.fx
  refine ⟨_, F', env', σ, L', d, e, cB _, stp, vd, ve, c, fun r v F2 H2 fr hc hF hH po => ?_⟩
  obtain ⟨z, rfl, c⟩ := cB_inv hc
  obtain ⟨r3, _⟩ := po.rr
  cases r3
  refine ⟨z, rfl, ?_⟩
  cases z with
  | false => exact ⟨false, rfl, k _ _ _ _ _ (c.2 rfl) (st'.pop po.st)⟩
  | true =>
    -- the middle value is still in the hand
    refine ⟨_, F2, env', L', _, po.st, c.1 rfl, fun w env3 x3 F3 H3 L3 fw c3 po3 q3 => ?_⟩
    have st3 := st'.pop (po.st.par (P' := P.push (fp ++ fq) H' F') po.st.f0 po.st.z (fun a z => (po.st.dis a z).2) po.st.fx)
    have p3 : Sta X.K (P.push (fp ++ fq) H' F') F3 env3 σ H3 L3 := po3.st
    have rq : RQ X.K F3 H3 σ c'.qt u y fq := by
      cases u with
      | va d => exact ⟨r2.1.mono p3.f0, r2.2⟩
      | ow d => exact Own.mono (K := X.K) p3.f0 r2 fun a z => (p3.z a (.inr (List.mem_append_right _ z))).1
      | rf i => exact r2
      | al d => exact ⟨fun e => r2.1.ext p3.f0 (hH.trans (q3 e)), r2.2⟩
    obtain ⟨y3, vy, c4⟩ := rd_view p3 rq c3
    obtain ⟨x4, vx, c5⟩ := rd_view p3 (po3.rr.rq true) c4
    refine ⟨_, F3, env3, σ, L3, y3, x4, cB _, p3, vy, vx, c5, fun r v F4 H4 fr4 hc4 _ _ po4 => ?_⟩
    obtain ⟨z, rfl, c⟩ := cB_inv hc4
    obtain ⟨r4, _⟩ := po4.rr
    cases r4
    exact ⟨z, rfl, k _ _ _ _ _ c (st'.pop po4.st)⟩
theorem repl_rev {K : Fg} {F : Hp} : ∀ {ds : List D} {xs : List V}, RepL K F ds xs → RepL K F ds.reverse xs.reverse
  | [], _, .nil => .nil
  | d :: ds, _, .cons (n := nn) h r => by
    rw [List.reverse_cons, List.reverse_cons]
    exact (repl_rev r).append (.cons (n := nn) h .nil)
theorem s_chv {o o' : CmpOp} {c' : E} {ec : Expr} (c : Cok X N sc k) (ha : PE X ea (LE X.K a)) (hb : PE X eb (LE X.K b)) (hc : PE X ec (LE X.K c')) (hs : okShape eb = true) (hs' : okShape ec = true) :
    PE X (.Compare ea [o, o'] [eb, ec] pos) (LE X.K (.chv o o' a b c')) := by
  refine pe_mono (pe_chain (cmp_sound o c.un) (cmp_sound o' c.un) ha hb hc (nolast hs hs')) fun σ H Q w => ?_
  obtain ⟨P, F, env, L, C, st, w, k⟩ := w
  simp only [wE] at w
  refine le2 st w fun r u env' x y F' H' L' fp fq c st' r1 r2 nd dis q => ?_
  obtain ⟨d, vd, c⟩ := rd_view st' r1 c
  obtain ⟨e, ve, c⟩ := rd_view st' (r2.rq true) c
  have stp : Sta X.K (P.push (fp ++ fq) H' F') F' env' σ H' L' := st'.par (Ext.refl _) (fun a z => by
      rcases z with z | z
      · exact ⟨rfl, (st'.z a z).2⟩
      · have ⟨xs, e⟩ := (List.mem_append.mp z).elim (fun z => r1.there a z) fun z => r2.there a z
        exact ⟨rfl, by rw [e]; simp, (dis a z).1⟩) (fun a z => by
      rintro (w | w)
      · exact (st'.dis a z).2 w
      · exact (List.nodup_append.mp nd).2.2 a z a w rfl) st'.fx
  refine ⟨_, F', env', σ, L', d, e, cB _, stp, vd, ve, c, fun r v F2 H2 fr hc hF hH po => ?_⟩
  obtain ⟨z, rfl, c⟩ := cB_inv hc
  obtain ⟨r3, _⟩ := po.rr
  cases r3
  refine ⟨z, rfl, ?_⟩
  cases z with
  | false => exact k _ _ _ _ _ _ [] (c.2 rfl) (po_va (st'.pop po.st) (.bl _)) fun e => nomatch e
  | true =>
    -- the middle value is still in the hand
    refine ⟨_, F2, env', L', _, po.st, c.1 rfl, fun w env3 x3 F3 H3 L3 fw c3 po3 q3 => ?_⟩
    have st3 := st'.pop (po.st.par (P' := P.push (fp ++ fq) H' F') po.st.f0 po.st.z (fun a z => (po.st.dis a z).2) po.st.fx)
    have p3 : Sta X.K (P.push (fp ++ fq) H' F') F3 env3 σ H3 L3 := po3.st
    have rq : RQ X.K F3 H3 σ c'.qt u y fq := by
      cases u with
      | va d => exact ⟨r2.1.mono p3.f0, r2.2⟩
      | ow d => exact Own.mono (K := X.K) p3.f0 r2 fun a z => (p3.z a (.inr (List.mem_append_right _ z))).1
      | rf i => exact r2
      | al d => exact ⟨fun e => r2.1.ext p3.f0 (hH.trans (q3 e)), r2.2⟩
    obtain ⟨y3, vy, c4⟩ := rd_view p3 rq c3
    obtain ⟨x4, vx, c5⟩ := rd_view p3 (po3.rr.rq true) c4
    refine ⟨_, F3, env3, σ, L3, y3, x4, cB _, p3, vy, vx, c5, fun r v F4 H4 fr4 hc4 _ _ po4 => ?_⟩
    obtain ⟨z, rfl, c⟩ := cB_inv hc4
    obtain ⟨r4, _⟩ := po4.rr
    cases r4
    exact k _ _ _ _ _ _ [] c (po_va (st'.pop po4.st) (.bl _)) fun e => nomatch e
/-- a[::-1] -/
theorem s_rv {k0 : Nat} {p1 p2 p3 : Pos} (ha : PE X ea (LE X.K a)) : PE X (.Subscript ea (.Slice none none (some (.UnaryOp .USub (.Constant (.int 1) k0 p1) p2)) p3) pos) (LE X.K (.rv a)) := by
  refine pe_mono (pe_rev2 ha) fun σ H Q w => ?_
  obtain ⟨P, F, env, L, C, st, w, k⟩ := w
  simp only [wE] at w
  refine le1 st w fun d env' x F' H' L' c st' v q => ?_
  unfold rvS at c
  split at c
  rotate_left
  · obtain ⟨a, xs, rfl, hr, hv⟩ := v.tup st'.sub
    refine .inr ⟨a, xs, rfl, hr, fun p hp => ?_⟩
    exact ret_tup (C := fun r => C r env') st' (fun r v F2 H2 fq c _ _ po => k r env' v F2 H2 L' fq c po fun e => nomatch e) c (repl_rev hv) hp
  · obtain ⟨a, xs, rfl, hr, hv⟩ := v.flz st'.sub
    refine .inl ⟨a, xs, rfl, .inl hr, fun p hp => ?_⟩
    exact ret_lstF (C := fun r => C r env') st' (fun r v F2 H2 fq c _ _ po => k r env' v F2 H2 L' fq c po fun e => nomatch e) c (repl_rev hv) hp
  · exact c.elim
  · obtain ⟨a, xs, rfl, hr, hv⟩ := v.lst st'.sub
    refine .inl ⟨a, xs, rfl, .inl hr, fun p hp => ?_⟩
    have r := hv.leaves c.1
    refine ret_lst (C := fun r => C r env') st' (fun r v F2 H2 fq c _ _ po => k r env' v F2 H2 L' fq c po fun e => nomatch e) c.2 (OwnL_of (repl_rev r) ?_) (by simpa using st'.nd) (fun _ z => nomatch z) hp
    rw [List.all_eq_true]
    intro d hd
    exact List.all_eq_true.mp c.1 d (List.mem_reverse.mp hd)
theorem rng_repl {K : Fg} {F : Hp} (i : Int) : ∀ ns : List Nat, RepL K F (ns.map fun (n : Nat) => D.int (i + n)) (ns.map fun (n : Nat) => V.int (i + n))
  | [] => .nil
  | n :: ns => .cons (n := rfl) (.int _) (rng_repl i ns)
theorem rng_leafy (i : Int) (ns : List Nat) : (ns.map fun (n : Nat) => D.int (i + n)).all D.leafy = true := by
  rw [List.all_eq_true]
  intro d hd
  obtain ⟨m, _, rfl⟩ := List.mem_map.mp hd
  rfl
theorem rgS_inv {l : Bool} {x y : D} {C : R → Prop} (h : rgS l x y C) : ∃ i j, x = .int i ∧ y = .int j ∧ (-(2 ^ 62) ≤ i ∧ i < 2 ^ 62 ∧ -(2 ^ 62) ≤ j ∧ j < 2 ^ 62 ∧ (j - i).toNat ≤ 16777216) ∧ (l = true → C (.ow (.lst ((List.range (j - i).toNat).map fun (n : Nat) => D.int (i + n))))) ∧
    (l = false → C (.va (.tup ((List.range (j - i).toNat).map fun (n : Nat) => D.int (i + n))))) := by
  cases x with
  | int i => cases y with
    | int j => exact ⟨i, j, rfl, rfl, h.1, fun e => by subst e; exact h.2, fun e => by subst e; exact h.2⟩
    | _ => exact (show False from h).elim
  | _ => exact (show False from h).elim
theorem s_rg {l : Bool} {p1 p2 p3 : Pos} (c : Cok X N sc k) (hg : glB sc (if l then "list" else "tuple") = true) (hm : X.mg (if l then "list" else "tuple") = none) (hg2 : glB sc "range" = true) (hm2 : X.mg "range" = none) (hs1 : okShape ea = true) (hs2 : okShape eb = true) (ha : PE X ea (LE X.K a)) (hb : PE X eb (LE X.K b)) :
    PE X (.Call (.Name (if l then "list" else "tuple") p1) [.Call (.Name "range" p2) [ea, eb] [] p3] [] pos) (LE X.K (.rg l a b)) := by
  have go : ∀ {σ : LSt} {H : Hp} {Q : VK} (_ : LE X.K (.rg l a b) σ H Q), LE X.K a σ H fun x H1 => LE X.K b σ H1 fun y H2 => ∃ i j, x = .int i ∧ y = .int j ∧ RgOk i j ∧ ∀ q, H2 q = none → Q (.ref q) (upd H2 q (if l then .lst (rgV i j) else .tup (rgV i j))) := by
    intro σ H Q h
    obtain ⟨P, F, env, L, C, st, w, k⟩ := h
    simp only [wE] at w
    refine le2 st w fun r u env' x y F' H' L' fp fq c st' r1 r2 nd dis q => ?_
    obtain ⟨d, vd, c⟩ := rd_view st' r1 c
    obtain ⟨e, ve, c⟩ := rd_view st' (r2.rq true) c
    obtain ⟨i, j, rfl, rfl, ⟨c1, c2, c3, c4, c5⟩, c⟩ := rgS_inv c
    · cases vd.int; cases ve.int
      refine ⟨i, j, rfl, rfl, ⟨c1, c2, c3, c4, c5⟩, fun q hq => ?_⟩
      cases l with
      | true =>
        have hown : OwnL X.K F' H' ((List.range (j - i).toNat).map fun (n : Nat) => D.int (i + n)) (rgV i j) [] := (rng_repl i _).own (rng_leafy i _)
        exact ret_lst (C := fun r => C r env') st' (fun r v F2 H2 fq c _ _ po => k r env' v F2 H2 L' fq c po fun e => nomatch e) (c.1 rfl) hown (by simpa using st'.nd) (fun _ z => nomatch z) hq
      | false => exact ret_tup (C := fun r => C r env') st' (fun r v F2 H2 fq c _ _ po => k r env' v F2 H2 L' fq c po fun e => nomatch e) (c.2 rfl) (rng_repl i _) hq
  cases l with
  | true => exact pe_mono (pe_listRg c.calm (gl_ok c hg).1 hm (prg_2 (gl_ok c hg2).1 hm2 ha hb (star1 hs1 [eb] X.env) (star1 hs2 [] X.env) (nostarsB p3 (by simp [hs2])))) fun σ H Q h => go h
  | false => exact pe_mono (pe_tupRg c.calm (gl_ok c hg).1 hm (prg_2 (gl_ok c hg2).1 hm2 ha hb (star1 hs1 [eb] X.env) (star1 hs2 [] X.env) (nostarsB p3 (by simp [hs2])))) fun σ H Q h => go h
theorem pt_pw {op : BoolOp} {vs : List Expr} {tt : TT} (h : PT X (.BoolOp op vs pos) tt) : PW X (.BoolOp op vs pos) tt := ⟨fun _ pins s σ H Q I w => h.run pins s σ H Q I w⟩
theorem lt2 {σ : LSt} {H : Hp} {G : Bool → Hp → Prop} {P : Par} {F : Hp} {env : PW.Env} {L : List Addr} (st : Sta X.K P F env σ H L) {C : Bool → PW.Env → Prop} (w : wT t env C)
    (k : ∀ b env' F' H' L', C b env' → Sta X.K P F' env' σ H' L' → G b H') : LT X.K t σ H G := ⟨P, F, env, L, C, st, w, k⟩
theorem t_an {m : Expr} {r : List Expr} (ha : PT X ea (LT X.K t)) (hb : PW X (.BoolOp .And (m :: r) pos) (LT X.K u)) : PT X (.BoolOp .And (ea :: m :: r) pos) (LT X.K (.an t u)) := by
  refine pt_mono (pw_and ha hb).pt fun σ H Q w => ?_
  obtain ⟨P, F, env, L, C, st, w, k⟩ := w
  simp only [wT] at w
  refine lt2 st w fun b env' F' H' L' c st' => ?_
  cases b with
  | true => exact lt2 st' (c.1 rfl) k
  | false => exact k _ _ _ _ _ (c.2 rfl) st'
theorem t_or {m : Expr} {r : List Expr} (ha : PT X ea (LT X.K t)) (hb : PW X (.BoolOp .Or (m :: r) pos) (LT X.K u)) : PT X (.BoolOp .Or (ea :: m :: r) pos) (LT X.K (.orr t u)) := by
  refine pt_mono (pw_or ha hb).pt fun σ H Q w => ?_
  obtain ⟨P, F, env, L, C, st, w, k⟩ := w
  simp only [wT] at w
  refine lt2 st w fun b env' F' H' L' c st' => ?_
  cases b with
  | true => exact k _ _ _ _ _ (c.1 rfl) st'
  | false => exact lt2 st' (c.2 rfl) k
theorem t_nt (ha : PT X ea (LT X.K t)) : PT X (.UnaryOp .Not ea pos) (LT X.K (.nt t)) := by
  refine pt_mono (pt_not ha) fun σ H Q w => ?_
  obtain ⟨P, F, env, L, C, st, w, k⟩ := w
  simp only [wT] at w
  exact lt2 st w fun b env' F' H' L' c st' => k _ _ _ _ _ c st'
end
end PW

namespace PW
open PySem L2 PyProof.Rows

/-! ### enumerate of a tuple -/
abbrev tupIt (t : Addr) : Obj := { cls := .type "tuple_iterator", data := .fields #[.ref t, .int 0 0] }
abbrev enOf (p : Addr) : Obj := { cls := .type "enumerate", data := .fields #[.none, .bool false, .ref p, rawInt 0, .none, .none] }
set_option maxHeartbeats 1000000 in
theorem meets_enT (t : Addr) (xs : Array Value) :
    Meets (Builtin.«enumerate.__new__» ⟨[.type "enumerate", .ref t], []⟩) (fun _ R s => s.heap.IsTuple t xs ∧ R (.ok (.ret (.ref (s.heap.push (tupIt t)).objs.size))) { s with heap := (s.heap.push (tupIt t)).push (enOf s.heap.objs.size) }) :=
  .of_wp fun prog w A R s ht => by
    obtain ⟨h0, gs, dr, tk, os⟩ := s
    obtain ⟨hB, ht⟩ := ht
    have sb := sub_enumerate
    have it1 : ∀ {A' : Around} {E Q : Value → Shared → Prop}, Q (.ref h0.objs.size) ⟨h0.push (tupIt t), gs, dr, tk, os⟩ → wpAny (model prog w) A' (pyIter (.ref t)) Q E ⟨h0, gs, dr, tk, os⟩ :=
      fun q => (begins_tuple t xs).iter prog w _ _ ⟨h0, gs, dr, tk, os⟩ _ hB q
    wp_walk using it1
    refine wpAny_stack_any fun _ => wpAny_pure ?_
    split
    · rename_i cl _ _ _ _ _
      cases cl == Value.type "enumerate" <;> (wp_walk using it1; exact ⟨_, rfl, ht⟩)
    · (wp_walk using it1; exact ⟨_, rfl, ht⟩)
section
variable {prog : Program} {w : World} {A : Around} {E : Value → Shared → Prop} {s : Shared}
theorem call_enT {t : Addr} {xs : Array Value} {Q : Value → Shared → Prop} (hB : s.heap.IsTuple t xs)
    (k : ∀ h', IsEnum h' (s.heap.objs.size + 1) s.heap.objs.size 0 .none → h'.IsTupleIter s.heap.objs.size t 0 → (∀ b o, s.heap.get? b = some o → h'.get? b = some o) → Q (.ref (s.heap.objs.size + 1)) { s with heap := h' }) :
    wpAny (model prog w) A (call (.type "enumerate") [.ref t]) Q E s := by
  apply callType_new F.called_enumerate (by decide) (F.typeCall_enumerate_1 _) (F.newCall_enumerate_1 _) (fun obj => F.args_object_init_2 obj _) F.entry_enumerate_new (meets_enT t xs)
  have z1 : (s.heap.push (tupIt t)).objs.size = s.heap.objs.size + 1 := Heap.size_push ..
  refine ⟨hB, ?_⟩
  show _ ∧ _
  rw [z1]
  have e1 : IsEnum ((s.heap.push (tupIt t)).push (enOf s.heap.objs.size)) (s.heap.objs.size + 1) s.heap.objs.size 0 .none := by
    have q := Heap.get?_push_size (s.heap.push (tupIt t)) (o := enOf s.heap.objs.size) rfl
    rwa [z1] at q
  exact ⟨⟨_, e1, rfl⟩, k _ e1 ⟨_, Heap.get?_push_of_some _ (Heap.get?_push_size _ rfl), rfl, rfl⟩ fun b o q => Heap.get?_push_of_some _ (Heap.get?_push_of_some _ q)⟩
end
def IteT (K : Fg) (a : Addr) : L2.It :=
  ⟨fun i H => ∃ (xs : List V) (x : V), SqT K H a xs ∧ xs[i]? = some x, fun i H v H' => ∃ T x, v = .ref T ∧ H T = none ∧ H' = upd H T (.tup [.int (i : Nat), x]) ∧ ∀ xs, SqT K H a xs → xs[i]? = some x, fun i H => ∃ xs : List V, SqT K H a xs ∧ i = xs.length⟩
theorem turn_enT {P : Program} {w : World} {K : Fg} {elts : List Expr} {kk : Nat} {tpos : Pos} (a e it : Addr) (hai : a ≠ it) (hae : e ≠ a) :
    Turn P w K (.Tuple elts kk tpos) (IteT K a) [e, it] e (fun i h => (∃ old, IsEnum h e it ((i : Nat) : Int) old) ∧ h.IsTupleIter it a i ∧ e ≠ it) where
  mem := by simp
  obj := fun i h ⟨⟨old, he⟩, ⟨o, ho, hc, hd⟩, _⟩ b hb => by
    rcases (show b = e ∨ b = it by simpa using hb) with rfl | rfl
    · exact ⟨_, he, fun v q => nomatch q⟩
    · exact ⟨o, ho, fun v q => by rw [hd] at q; cases q⟩
  keep := fun i h h' ⟨⟨old, he⟩, hi, hne⟩ k => ⟨⟨old, k e (by simp) _ he⟩, hi.at fun o q => k it (by simp) o q, hne⟩
  item := by
    rintro X rfl rfl rfl hc i pins s σ H E I hf ⟨⟨old, he⟩, hit, hne⟩ ⟨xs, x, hq, hx⟩
    obtain ⟨its, rv, p, hz⟩ := I.tuple hq
    obtain ⟨u, hu, ru⟩ := rv.get hx
    have hel : e < s.heap.objs.size := Heap.lt_size he
    have hil : it < s.heap.objs.size := by obtain ⟨_, q, _⟩ := hit; exact Heap.lt_size q
    have hi : i < its.toArray.size := by
      have := (List.getElem?_eq_some_iff.mp hu).1
      simpa using this
    refine wpAny_pyNext_enum_itemD (Draws.tuple (A := X.A.in1) (I.ok.hd hc) it a hai its.toArray) he ⟨hit, p⟩ hi hne (by simp [hne, hae]) fun x' h' tk hx' ho hst hT hsz hk => ?_
    have hxu : x' = u := by
      have : its[i]? = some x' := by simpa using hx'
      rw [hu] at this; injection this with this; exact this.symm
    subst hxu
    refine ⟨_, rfl, wpAny_letOwnedTupleGo_enum (s := { s with heap := h', toks := tk + 1 }) ho fun h2 he2 sb => ?_⟩
    have hT2 : h2.get? s.heap.objs.size = some { cls := .type "tuple", data := .seq #[.int i tk, x'] } := (sb.2 _ (Nat.ne_of_gt hel)).trans hT
    have new : ObjOk X.prog X.w (upd H s.heap.objs.size (.tup [.int (i : Nat), x])) h2 s.heap.objs.size (.tup [.int (i : Nat), x]) :=
      ⟨by show 2 ≤ sizeLine; decide, [.int i tk, x'], .cons ⟨_, rfl⟩ (.cons ru .nil), ⟨_, hT2, rfl, _, rfl⟩⟩
    have I1 : Inv X pins σ (upd H s.heap.objs.size (.tup [.int (i : Nat), x])) { s with heap := h2, toks := tk + 1 } :=
      I.turnedNew (ch := [e, it]) (fun b ob hb q => (sb.2 b (fun z => hb (by simp [z]))).trans (hk b ob (fun z => hb (by simp [z])) (fun z => hb (by simp [z])) q)) hf (Nat.le_refl _) new
    refine ⟨.ref s.heap.objs.size, _, I1, rfl, ⟨_, x, rfl, I.hok.fresh (Nat.le_refl _), rfl, fun ys hy => by rw [I.tuple_inj hy hq]; exact hx⟩, ⟨⟨x', ?_⟩, hst.1.at fun o q => (sb.2 it (Ne.symm hne)).trans q, hne⟩, fun b hb => ?_⟩
    · rw [show ((i + 1 : Nat) : Int) = (i : Int) + 1 from rfl]; exact he2
    · have lt : b < s.heap.objs.size := by
        rcases (show b = e ∨ b = it by simpa using hb) with rfl | rfl
        · exact hel
        · exact hil
      rw [upd_ne (Nat.ne_of_lt lt)]
      exact (hf b hb).1
  done := by
    rintro X rfl rfl rfl hc i pins s σ H E I hf ⟨⟨old, he⟩, hit, hne⟩ ⟨xs, hq, hx⟩
    obtain ⟨its, rv, p, hz⟩ := I.tuple hq
    obtain ⟨f0, f1, f2, f3, f4, f5⟩ := hf it (by simp)
    have hl := rv.length
    have en : i = its.toArray.size := by simp; omega
    subst en
    exact wpAny_pyNext_enum_endD (Draws.tuple (A := X.A.in1) (I.ok.hd hc) it a hai its.toArray) he ⟨hit, p⟩ fun h' eb => ⟨rfl, I.turned (t' := s.toks) (fun b o hb q => eb b o hb q) f0 f1 f3 f4 f5⟩
  self := fun A i s Q E ⟨⟨_, he⟩, _⟩ h => wpAny_pyIter_enum he h
/-- what enumerate walks: a list, a tuple -/
def iEnA (K : Fg) (ta : TA) : TI := fun σ H R => ta σ H fun vs H1 => ∃ a xs, vs = [.ref a] ∧ ((SqL K H1 a xs ∧ R (Ite K a) H1) ∨ (SqT K H1 a xs ∧ R (IteT K a) H1))
theorem pi_enA {X : Cx} {e : Expr} {ta : TA} {p pos tpos : Pos} {elts : List Expr} {kk : Nat} (hg : Gl X "enumerate") (hm : X.mg "enumerate" = none) (ha : PA X [e] ta) (hs : starEach [e] X.env = [(false, eval e X.env)]) :
    PI X (.Tuple elts kk tpos) (.Call (.Name "enumerate" p) [e] [] pos) (iEnA X.K ta) := by
  constructor
  intro pins s σ H R I h
  refine Call_ (ld_blt I hg hm boot_enumerate (PyProof.Rows.callWith_type1 (thn (ha.run pos pins s σ H _ I h) fun us s1 ⟨vs, H1, I1, r1, a, xs, ex, hq⟩ => ?_) hs rfl))
  subst ex
  cases r1 with
  | cons r rr =>
    cases rr
    cases r
    have fp : ∀ b ∈ [s1.heap.objs.size + 1, s1.heap.objs.size], FpOk X pins H1 b := fun b hb => by
      have le : s1.heap.objs.size ≤ b := by
        rcases (show b = s1.heap.objs.size + 1 ∨ b = s1.heap.objs.size by simpa using hb) with rfl | rfl
        · exact Nat.le_add_right _ _
        · exact Nat.le_refl _
      exact I1.fpOk le (I1.hok.fresh le)
    rcases hq with ⟨hq, q⟩ | ⟨hq, q⟩
    · obtain ⟨its, rv, pl, hz⟩ := I1.list hq
      refine call_enumerate_list pl.isList fun h2 en li _ kp => wpAny_pyIter_enum en ?_
      exact ⟨s1.heap.objs.size + 1, [s1.heap.objs.size + 1, s1.heap.objs.size], _, _, H1, rfl, I1.kept (t' := s1.toks) kp, turn_enum a (s1.heap.objs.size + 1) s1.heap.objs.size, ⟨⟨.none, en⟩, li, Nat.succ_ne_self _⟩, fp, q⟩
    · obtain ⟨its, rv, p', hz⟩ := I1.tuple hq
      have p2 : s1.heap.IsTuple a its.toArray := p'
      have al : a < s1.heap.objs.size := by obtain ⟨o, q, _⟩ := p2; exact Heap.lt_size q
      refine call_enT p2 fun h2 en ti kp => wpAny_pyIter_enum en ?_
      exact ⟨s1.heap.objs.size + 1, [s1.heap.objs.size + 1, s1.heap.objs.size], _, _, H1, rfl, I1.kept (t' := s1.toks) kp, turn_enT a (s1.heap.objs.size + 1) s1.heap.objs.size (Nat.ne_of_lt al) (Nat.ne_of_gt (Nat.lt_succ_of_lt al)), ⟨⟨.none, en⟩, ti, Nat.succ_ne_self _⟩, fp, q⟩
end PW

namespace PW
open PySem L2 PyProof.Rows

def It.slot : PW.It → Option Nat
  | .sl i => some i
  | _ => none
def WalkOk (K : Fg) (F1 : Hp) (s1 : LSt) (sl : Option Nat) (gd : PW.Env → Prop) (ds : List D) (J : L2.It) : Prop :=
  ∀ (i : Nat) (P : Par) (F : Hp) (env : PW.Env) (σ : LSt) (H : Hp) (L : List Addr), Sta K P F env σ H L → Ext F1 F → (∀ j, sl = some j → σ[j]? = s1[j]?) → gd env →
    (i < ds.length → J.go i H) ∧ (ds.length = i → J.stop i H) ∧ ∀ d x H', ds[i]? = some d → J.yld i H x H' → ∃ F', Sta K P F' env σ H' L ∧ (∀ a, H a ≠ none → H' a = H a ∧ F' a = F a) ∧ Rep K F' d x
def LI (K : Fg) (it : PW.It) : TI := fun σ H R => ∃ (P : Par) (F : Hp) (env : PW.Env) (L : List Addr) (C : (PW.Env → Prop) → List D → PW.Env → Prop), Sta K P F env σ H L ∧ wI it env C ∧
  ∀ gd ds env' J F' H' L', C gd ds env' → Sta K P F' env' σ H' L' → WalkOk K F' σ it.slot gd ds J → (∀ (env : PW.Env) s i, (∀ j, it.slot = some j → j ≠ i) → gd env → gd (env.set i s)) → R J H'

section
variable {X : Cx} {N : List Str} {sc : Scope} {k : Nat} {a b : E} {t u : T} {ea eb tg : Expr} {pos : Pos}
theorem go_some {α : Type} {xs : List α} {i : Nat} (h : i < xs.length) : ∃ x, xs[i]? = some x := ⟨xs[i], by simp [h]⟩
theorem walk_lst {K : Fg} {F : Hp} {s1 : LSt} {ds : List D} {xs : List V} {a : Addr} (h : Rd F a (.lst xs)) (r : RepL K F ds xs) {sl : Option Nat} : WalkOk K F s1 sl (fun _ => True) ds (Itl K a) := by
  intro i P F2 env σ H L st e _ _
  have q : SqL K H a xs := .inl ((e.trans st.sub).rd h)
  have hl := r.length
  refine ⟨fun hi => ?_, fun hi => ⟨xs, q, by omega⟩, fun d x H' hd hy => ?_⟩
  · obtain ⟨x, hx⟩ := go_some (xs := xs) (i := i) (by omega)
    exact ⟨xs, x, q, hx⟩
  · obtain ⟨rfl, hy⟩ := hy
    obtain ⟨v, hv, rv⟩ := r.get hd
    have := hy xs q
    rw [hv] at this; injection this with this; subst this
    exact ⟨F2, st, fun _ _ => ⟨rfl, rfl⟩, rv.mono e⟩
theorem walk_scr {K : Fg} {F : Hp} {s1 : LSt} {ns : List Int} {a : Addr} (h : SqL K F a (ns.map V.int)) {sl : Option Nat} : WalkOk K F s1 sl (fun _ => True) (ns.map D.int) (Itl K a) := by
  intro i P F2 env σ H L st e _ _
  have q : SqL K H a (ns.map V.int) := (e.trans st.sub).sqL h
  refine ⟨fun hi => ?_, fun hi => ⟨_, q, Nat.le_of_eq (by simpa using hi)⟩, fun d x H' hd hy => ?_⟩
  · obtain ⟨x, hx⟩ := go_some (xs := ns.map V.int) (i := i) (by simpa using hi)
    exact ⟨_, x, q, hx⟩
  · obtain ⟨rfl, hy⟩ := hy
    have := hy _ q
    rw [List.getElem?_map] at hd this
    cases e : ns[i]? with
    | none => rw [e] at hd; cases hd
    | some n =>
      rw [e] at hd this
      cases hd
      cases this
      exact ⟨F2, st, fun _ _ => ⟨rfl, rfl⟩, .int n⟩
theorem walk_tup {K : Fg} {F : Hp} {s1 : LSt} {ds : List D} {xs : List V} {a : Addr} (h : SqT K F a xs) (r : RepL K F ds xs) {sl : Option Nat} : WalkOk K F s1 sl (fun _ => True) ds (Itt K a) := by
  intro i P F2 env σ H L st e _ _
  have q : SqT K H a xs := (e.trans st.sub).sqT h
  have hl := r.length
  refine ⟨fun hi => ?_, fun hi => ⟨xs, q, by omega⟩, fun d x H' hd hy => ?_⟩
  · obtain ⟨x, hx⟩ := go_some (xs := xs) (i := i) (by omega)
    exact ⟨xs, x, q, hx⟩
  · obtain ⟨rfl, hy⟩ := hy
    obtain ⟨v, hv, rv⟩ := r.get hd
    have := hy xs q
    rw [hv] at this; injection this with this; subst this
    exact ⟨F2, st, fun _ _ => ⟨rfl, rfl⟩, rv.mono e⟩
theorem walk_str {K : Fg} {F : Hp} {s1 : LSt} {s : List Nat} {sl : Option Nat} : WalkOk K F s1 sl (fun _ => True) (s.map fun c => D.str [c]) (Its (tx s)) := by
  intro i P F2 env σ H L st e _ _
  have hl : (tx s).cps.size = s.length := by simp
  refine ⟨fun hi => ?_, fun hi => ?_, fun d x H' hd hy => ?_⟩
  · show i < (tx s).cps.size
    simpa using hi
  · show (tx s).cps.size ≤ i
    exact Nat.le_of_eq (by simpa using hi)
  · obtain ⟨rfl, c, hc, rfl⟩ := hy
    have hc' : s[i]? = some c := by simpa using hc
    rw [List.getElem?_map, hc'] at hd
    injection hd with hd
    subst hd
    exact ⟨F2, st, fun _ _ => ⟨rfl, rfl⟩, .str [c]⟩
theorem walk_rng {K : Fg} {F : Hp} {s1 : LSt} {lo : Int} {n : Nat} {sl : Option Nat} : WalkOk K F s1 sl (fun _ => True) (rangeD lo n) (Itr lo n) := by
  intro i P F2 env σ H L st e _ _
  have hl : (rangeD lo n).length = n := by simp [rangeD]
  refine ⟨fun hi => ?_, fun hi => ?_, fun d x H' hd hy => ?_⟩
  · show i < n
    omega
  · show n ≤ i
    omega
  · obtain ⟨rfl, rfl⟩ := hy
    have hi : i < n := by rw [← hl]; exact (List.getElem?_eq_some_iff.mp hd).1
    have : d = D.int (lo + i) := by
      simp [rangeD, hi] at hd
      exact hd.symm
    subst this
    exact ⟨F2, st, fun _ _ => ⟨rfl, rfl⟩, .int _⟩
/-- a new pair at each turn -/
theorem pair_turn {K : Fg} {P : Par} {F H : Hp} {env : PW.Env} {σ : LSt} {L : List Addr} {x y : V} {d e : D} {T : Addr} (nx : d.nd = true) (ny : e.nd = true) (st : Sta K P F env σ H L) (hT : H T = none) (rx : Rep K F d x) (ry : Rep K F e y) :
    ∃ F', Sta K P F' env σ (upd H T (.tup [x, y])) L ∧ (∀ a, H a ≠ none → upd H T (.tup [x, y]) a = H a ∧ F' a = F a) ∧ Rep K F' (.tup [d, e]) (.ref T) := by
  have hF : F T = none := by
    cases q : F T with
    | none => rfl
    | some o => rw [st.sub _ _ q] at hT; cases hT
  have ex : Ext F (upd F T (.tup [x, y])) := Ext.new hF
  refine ⟨upd F T (.tup [x, y]), ?_, fun a ha => ?_, ?_⟩
  · refine st.grow ex (Ext.new hT) (fun a o z => ?_) fun a z => ?_
    · by_cases ha : a = T
      · subst ha; rw [upd_same] at z ⊢; exact z
      · rw [upd_ne ha] at z ⊢; exact st.sub _ _ z
    · by_cases ha : a = T
      · subst ha; exact .inr hT
      · rw [upd_ne ha] at z; exact .inl z
  · have ne : a ≠ T := fun q => ha (q ▸ hT)
    exact ⟨upd_ne ne, upd_ne ne⟩
  · exact .tup (SqT.of upd_same) (.cons (n := nx) (rx.mono ex) (.cons (n := ny) (ry.mono ex) .nil))
theorem walk_zipL {K : Fg} {F : Hp} {s1 : LSt} {ds es : List D} {xs ys : List V} {a b : Addr} (h1 : Rd F a (.lst xs)) (h2 : Rd F b (.lst ys)) (r1 : RepL K F ds xs) (r2 : RepL K F es ys) {sl : Option Nat} :
    WalkOk K F s1 sl (fun _ => True) (List.zipWith (fun x y => .tup [x, y]) ds es) (Itz K a b) := by
  intro i P F2 env σ H L st e _ _
  have q1 : SqL K H a xs := .inl ((e.trans st.sub).rd h1)
  have q2 : SqL K H b ys := .inl ((e.trans st.sub).rd h2)
  have l1 := r1.length
  have l2 := r2.length
  refine ⟨fun hi => ?_, fun hi => ⟨xs, ys, q1, q2, by rw [List.length_zipWith] at hi; omega⟩, fun d x H' hd hy => ?_⟩
  · rw [List.length_zipWith] at hi
    obtain ⟨x, hx⟩ := go_some (xs := xs) (i := i) (by omega)
    obtain ⟨y, hy⟩ := go_some (xs := ys) (i := i) (by omega)
    exact ⟨xs, ys, x, y, q1, q2, hx, hy⟩
  · obtain ⟨T, x, y, rfl, hT, rfl, hx, hy⟩ := hy
    obtain ⟨d1, d2, g1, g2, rfl⟩ := List.getElem?_zipWith_eq_some.mp hd
    obtain ⟨v, hv, rv⟩ := r1.get g1
    obtain ⟨u, hu, ru⟩ := r2.get g2
    have k1 := hx xs q1
    rw [hv] at k1; injection k1 with k1; subst k1
    have k2 := hy ys q2
    rw [hu] at k2; injection k2 with k2; subst k2
    exact pair_turn (all_get r1.nd g1) (all_get r2.nd g2) st hT (rv.mono e) (ru.mono e)
theorem walk_zipT {K : Fg} {F : Hp} {s1 : LSt} {ds es : List D} {xs ys : List V} {a b : Addr} (h1 : SqT K F a xs) (h2 : SqT K F b ys) (r1 : RepL K F ds xs) (r2 : RepL K F es ys) {sl : Option Nat} :
    WalkOk K F s1 sl (fun _ => True) (List.zipWith (fun x y => .tup [x, y]) ds es) (RZ.ItzT K a b) := by
  intro i P F2 env σ H L st e _ _
  have q1 : SqT K H a xs := (e.trans st.sub).sqT h1
  have q2 : SqT K H b ys := (e.trans st.sub).sqT h2
  have l1 := r1.length
  have l2 := r2.length
  refine ⟨fun hi => ?_, fun hi => ⟨xs, ys, q1, q2, by rw [List.length_zipWith] at hi; omega⟩, fun d x H' hd hy => ?_⟩
  · rw [List.length_zipWith] at hi
    obtain ⟨x, hx⟩ := go_some (xs := xs) (i := i) (by omega)
    obtain ⟨y, hy⟩ := go_some (xs := ys) (i := i) (by omega)
    exact ⟨xs, ys, x, y, q1, q2, hx, hy⟩
  · obtain ⟨T, x, y, rfl, hT, rfl, hx, hy⟩ := hy
    obtain ⟨d1, d2, g1, g2, rfl⟩ := List.getElem?_zipWith_eq_some.mp hd
    obtain ⟨v, hv, rv⟩ := r1.get g1
    obtain ⟨u, hu, ru⟩ := r2.get g2
    have k1 := hx xs q1
    rw [hv] at k1; injection k1 with k1; subst k1
    have k2 := hy ys q2
    rw [hu] at k2; injection k2 with k2; subst k2
    exact pair_turn (all_get r1.nd g1) (all_get r2.nd g2) st hT (rv.mono e) (ru.mono e)
theorem walk_en {K : Fg} {F : Hp} {s1 : LSt} {ds : List D} {xs : List V} {a : Addr} (h1 : Rd F a (.lst xs)) (r1 : RepL K F ds xs) {sl : Option Nat} : WalkOk K F s1 sl (fun _ => True) (enD ds) (Ite K a) := by
  intro i P F2 env σ H L st e _ _
  have q1 : SqL K H a xs := .inl ((e.trans st.sub).rd h1)
  have l1 := r1.length
  have le : (enD ds).length = ds.length := by simp [enD]
  refine ⟨fun hi => ?_, fun hi => ⟨xs, q1, by omega⟩, fun d x H' hd hy => ?_⟩
  · obtain ⟨x, hx⟩ := go_some (xs := xs) (i := i) (by omega)
    exact ⟨xs, x, q1, hx⟩
  · obtain ⟨T, x, rfl, hT, rfl, hx⟩ := hy
    have hi : i < ds.length := by rw [← le]; exact (List.getElem?_eq_some_iff.mp hd).1
    have ed : d = .tup [.int i, ds[i]] := by
      simp [enD, hi] at hd
      exact hd.symm
    subst ed
    obtain ⟨v, hv, rv⟩ := r1.get (List.getElem?_eq_getElem hi)
    have k1 := hx xs q1
    rw [hv] at k1; injection k1 with k1; subst k1
    exact pair_turn rfl (all_get r1.nd (List.getElem?_eq_getElem hi)) st hT (.int _) (rv.mono e)
theorem walk_enT {K : Fg} {F : Hp} {s1 : LSt} {ds : List D} {xs : List V} {a : Addr} (h1 : SqT K F a xs) (r1 : RepL K F ds xs) {sl : Option Nat} : WalkOk K F s1 sl (fun _ => True) (enD ds) (IteT K a) := by
  intro i P F2 env σ H L st e _ _
  have q1 : SqT K H a xs := (e.trans st.sub).sqT h1
  have l1 := r1.length
  have le : (enD ds).length = ds.length := by simp [enD]
  refine ⟨fun hi => ?_, fun hi => ⟨xs, q1, by omega⟩, fun d x H' hd hy => ?_⟩
  · obtain ⟨x, hx⟩ := go_some (xs := xs) (i := i) (by omega)
    exact ⟨xs, x, q1, hx⟩
  · obtain ⟨T, x, rfl, hT, rfl, hx⟩ := hy
    have hi : i < ds.length := by rw [← le]; exact (List.getElem?_eq_some_iff.mp hd).1
    have ed : d = .tup [.int i, ds[i]] := by
      simp [enD, hi] at hd
      exact hd.symm
    subst ed
    obtain ⟨v, hv, rv⟩ := r1.get (List.getElem?_eq_getElem hi)
    have k1 := hx xs q1
    rw [hv] at k1; injection k1 with k1; subst k1
    exact pair_turn rfl (all_get r1.nd (List.getElem?_eq_getElem hi)) st hT (.int _) (rv.mono e)
theorem walk_slot {K : Fg} {F1 : Hp} {s1 : LSt} {ds : List D} {j : Nat} {p : Addr} (h : s1[j]? = some (some (.ref p))) (l : ds.all D.leafy = true) : WalkOk K F1 s1 (some j) (fun e => e[j]? = some (.ow (.lst ds))) ds (Itl K p) := by
  intro i P F2 env σ H L st e hs hg
  obtain ⟨v, L1, fp, L2, h1, h2, _⟩ := st.sl.getOw hg
  rw [hs j rfl, h] at h1
  injection h1 with h1; injection h1 with h1; subst h1
  obtain ⟨a, xs, fq, ha, hr, ho, _⟩ := h2.lst_inv
  cases ha
  obtain ⟨r, _⟩ := ho.leaves l
  have q : SqL K H p xs := SqL.of hr
  have hl := r.length
  refine ⟨fun hi => ?_, fun hi => ⟨xs, q, by omega⟩, fun d x H' hd hy => ?_⟩
  · obtain ⟨x, hx⟩ := go_some (xs := xs) (i := i) (by omega)
    exact ⟨xs, x, q, hx⟩
  · obtain ⟨rfl, hy⟩ := hy
    obtain ⟨v, hv, rv⟩ := r.get hd
    have := hy xs q
    rw [hv] at this; injection this with this; subst this
    exact ⟨_, st, fun _ _ => ⟨rfl, rfl⟩, rv⟩

/-- what a list, a tuple, a text is walked by -/
def iAny (K : Fg) (tl : TE) : TI := fun σ H R => tl σ H fun x H1 =>
  (∃ a, x = .ref a ∧ (∃ xs, SqL K H1 a xs) ∧ R (Itl K a) H1) ∨ (∃ a, x = .ref a ∧ (∃ xs, SqT K H1 a xs) ∧ R (Itt K a) H1) ∨ ∃ y, x = .str y ∧ R (Its y) H1
theorem fp1 {pins : List (Addr × Obj)} {σ : LSt} {H : Hp} {s : Shared} (I : Inv X pins σ H s) : ∀ b ∈ [s.heap.objs.size], FpOk X pins H b := fun b hb => by
  rw [List.mem_singleton] at hb
  rw [hb]
  exact I.fpOk (Nat.le_refl _) I.fresh
theorem push_kept {pins : List (Addr × Obj)} {σ : LSt} {H : Hp} {s : Shared} (I : Inv X pins σ H s) (o : Obj) : Inv X pins σ H { s with heap := s.heap.push o } := I.kept (t' := s.toks) fun _ _ e => Heap.get?_push_of_some _ e
theorem pi_any {l : Expr} {tl : TE} (hl : PE X l tl) : PI X tg l (iAny X.K tl) := by
  refine ⟨fun pins s σ H R I h => thn (hl.run pins s σ H _ I h) ?_⟩
  rintro v s1 ⟨x, H1, I1, r1, (⟨a, rfl, ⟨xs, hq⟩, q⟩ | ⟨a, rfl, ⟨xs, hq⟩, q⟩ | ⟨y, rfl, q⟩)⟩
  · cases r1
    have ⟨its, _, p, _⟩ := I1.list hq
    exact wpAny_pyIter_list p.isList ⟨s1.heap.objs.size, [s1.heap.objs.size], _, _, H1, rfl, push_kept I1 _, turn_list a _, ⟨_, Heap.get?_push_size _ rfl, rfl, rfl⟩, fp1 I1, q⟩
  · cases r1
    have ⟨its, _, p, _⟩ := I1.tuple hq
    have p' : s1.heap.IsTuple a its.toArray := p
    exact wpAny_pyIter_tuple p' ⟨s1.heap.objs.size, [s1.heap.objs.size], _, _, H1, rfl, push_kept I1 _, turn_tuple a _, ⟨_, Heap.get?_push_size _ rfl, rfl, rfl⟩, fp1 I1, q⟩
  · obtain ⟨t, rfl⟩ := r1
    by_cases ha : y.cps.all (· < 128) = true
    · exact wpAny_pyIter_ascii ha (pi_one (tk := s1.toks) I1 _ (turn_str _ y t _ (.inl rfl)) ⟨_, Heap.get?_push_size _ rfl, rfl, rfl⟩ q)
    · exact wpAny_pyIter_wide (by simpa using ha) (pi_one (tk := s1.toks) I1 _ (turn_str _ y t _ (.inr rfl)) ⟨_, Heap.get?_push_size _ rfl, rfl, rfl⟩ q)
theorem itemsOf_walk {K : Fg} {F H : Hp} {σ : LSt} {d : D} {x : V} {C : List D → Prop} (s : Ext F H) (r : Rep K F d x) (w : itemsOf d C) {R : L2.It → Hp → Prop} (k : ∀ ds J, C ds → WalkOk K F σ none (fun _ => True) ds J → R J H) :
    (∃ a, x = .ref a ∧ (∃ xs, SqL K H a xs) ∧ R (Itl K a) H) ∨ (∃ a, x = .ref a ∧ (∃ xs, SqT K H a xs) ∧ R (Itt K a) H) ∨ ∃ y, x = .str y ∧ R (Its y) H := by
  cases r with
  | lst q r => exact .inl ⟨_, rfl, ⟨_, .inl (s.rd q)⟩, k _ _ w (walk_lst q r)⟩
  | tup q r => exact .inr (.inl ⟨_, rfl, ⟨_, s.sqT q⟩, k _ _ w (walk_tup q r)⟩)
  | str t => exact .inr (.inr ⟨_, rfl, k _ _ w walk_str⟩)
  | non => exact w.elim
  | bl b => exact w.elim
  | int i => exact w.elim
  | scr ns q => exact .inl ⟨_, rfl, ⟨_, s.sqL q⟩, k _ _ w (walk_scr q)⟩
  | flz _ _ => exact w.elim
  | dct _ _ _ => exact w.elim
theorem pi_mono {tg e : Expr} {t t' : TI} (h : PI X tg e t) (k : ∀ σ H Q, t' σ H Q → t σ H Q) : PI X tg e t' := ⟨fun pins s σ H Q I w => h.run pins s σ H Q I (k _ _ _ w)⟩
theorem i_sq (ha : PE X ea (LE X.K a)) : PI X tg ea (LI X.K (.sq a)) := by
  refine pi_mono (pi_any ha) fun σ H Q w => ?_
  obtain ⟨P, F, env, L, C, st, w, k⟩ := w
  simp only [wI] at w
  refine ⟨P, F, env, L, _, st, w, fun r env' v F' H' L' fp c po _ => ?_⟩
  cases r with
  | va d =>
    exact itemsOf_walk (σ := σ) po.st.sub po.rr.1 c fun ds J c w => k _ _ _ _ _ _ _ c po.st w fun _ _ _ _ g => g
  | ow d =>
    have o : Own X.K F' H' d v fp := po.rr
    have e : Ext F' (frzd F' H' fp) := frzd_ext fun a z => (po.dis a z).1
    have s2 := po.st.frz po.nd po.dis
    exact itemsOf_walk (σ := σ) s2.sub (o.freeze e fun a z => frzd_in z) c fun ds J c w => k _ _ _ _ _ _ _ c s2 w fun _ _ _ _ g => g
  | rf i => exact c.elim
  | al d => exact c.elim
theorem i_sl (c : Cok X N sc k) {i : Nat} {x : Str} (h : visB N sc i x = true) : PI X tg (.Name x pos) (LI X.K (.sl i)) := by
  refine pi_mono (pi_list (vis_ok c h)) fun σ H Q w => ?_
  obtain ⟨P, F, env, L, C, st, w, k⟩ := w
  simp only [wI] at w
  obtain ⟨s0, e0, w⟩ := getK_iff.mp w
  split at w
  · rename_i ds
    obtain ⟨v, L1, fp, L2, h1, h2, _⟩ := st.sl.getOw e0
    obtain ⟨a, xs, fq, rfl, hr, ho, _⟩ := h2.lst_inv
    exact ⟨_, h1, a, rfl, ⟨xs, SqL.of hr⟩, k _ _ _ _ _ _ _ w.2 st (walk_slot h1 w.1) fun e s j hj g => by rw [List.getElem?_set_ne (Ne.symm (hj i rfl))]; exact g⟩
  · exact w.elim
theorem i_r1 {p : Pos} (c : Cok X N sc k) (hg : glB sc "range" = true) (hm : X.mg "range" = none) (hs : okShape ea = true) (ha : PE X ea (LE X.K a)) : PI X tg (.Call (.Name "range" p) [ea] [] pos) (LI X.K (.r1 a)) := by
  obtain ⟨g1, g2, g3⟩ := gl_ok c hg
  refine pi_mono (pi_range1 g1 hm (pa_cons ha pa_nil (star1 hs _ _)) (star1 hs _ _)) fun σ H Q w => ?_
  obtain ⟨P, F, env, L, C, st, w, k⟩ := w
  simp only [wI] at w
  refine ⟨P, F, env, L, _, st, w, fun r env' v F' H' L' fp c po _ => ?_⟩
  split at c
  · obtain ⟨r1, _⟩ := po.rr
    cases r1
    exact ⟨_, rfl, c.1.1, c.1.2, k _ _ _ _ _ _ _ c.2 po.st walk_rng fun _ _ _ _ g => g⟩
  · exact c.elim
theorem i_r2 {p : Pos} (c : Cok X N sc k) (hg : glB sc "range" = true) (hm : X.mg "range" = none) (hs : okShape ea = true) (hs' : okShape eb = true) (ha : PE X ea (LE X.K a)) (hb : PE X eb (LE X.K b)) :
    PI X tg (.Call (.Name "range" p) [ea, eb] [] pos) (LI X.K (.r2 a b)) := by
  obtain ⟨g1, g2, g3⟩ := gl_ok c hg
  refine pi_mono (pi_range2 g1 hm (pa_cons ha (pa_cons hb pa_nil (star1 hs' _ _)) (star1 hs _ _)) (by rw [star1 hs, star1 hs']; rfl) (star1 hs' _ _)) fun σ H Q w => ?_
  obtain ⟨P, F, env, L, C, st, w, k⟩ := w
  simp only [wI] at w
  refine le2 st w fun r u env' x y F' H' L' fp fq c st' r1 r2 nd dis q => ?_
  split at c
  · obtain ⟨r1, _⟩ := r1
    cases r1
    obtain ⟨r2, _⟩ := r2
    cases r2
    exact ⟨_, _, rfl, c.1, k _ _ _ _ _ _ _ c.2 st' walk_rng fun _ _ _ _ g => g⟩
  · exact c.elim
theorem i_zip {es : Es} {p q : Pos} {elts : List Expr} {kk : Nat} {tp : Pos} (c : Cok X N sc k) (hg : glB sc "zip" = true) (hm : X.mg "zip" = none) (hs : okShape ea = true) (hs' : okShape eb = true) (ha : PA X [ea, eb] (LA X.K es)) :
    PI X (.Tuple elts kk tp) (.Call (.Name "zip" p) [ea, eb] [] q) (LI X.K (.zip es)) := by
  obtain ⟨g1, g2, g3⟩ := gl_ok c hg
  refine pi_mono (RZ.pi_zipA g1 hm ha (star1 hs _ _) (nostarsB q (by rw [List.all_cons, hs']; rfl))) fun σ H Q w => ?_
  obtain ⟨P, F, env, L, C, st, w, k⟩ := w
  simp only [wI] at w
  refine ⟨P, F, env, L, _, st, w, fun rs e1 vs F1 H1 L1 fp c st1 q nd dis => ?_⟩
  unfold zipI at c
  split at c
  · cases q with
    | cons h1 t1 =>
      cases t1 with
      | cons h2 t2 =>
        cases t2
        obtain ⟨r1, _⟩ := h1
        obtain ⟨r2, _⟩ := h2
        cases r1 with
        | lst x1 y1 =>
          cases r2 with
          | lst x2 y2 => exact ⟨_, _, _, _, rfl, .inl ⟨.inl (st1.sub.rd x1), .inl (st1.sub.rd x2), k _ _ _ _ _ _ _ c st1 (walk_zipL x1 x2 y1 y2) fun _ _ _ _ g => g⟩⟩
  · cases q with
    | cons h1 t1 =>
      cases t1 with
      | cons h2 t2 =>
        cases t2
        obtain ⟨r1, _⟩ := h1
        obtain ⟨r2, _⟩ := h2
        cases r1 with
        | tup x1 y1 =>
          cases r2 with
          | tup x2 y2 => exact ⟨_, _, _, _, rfl, .inr ⟨st1.sub.sqT x1, st1.sub.sqT x2, k _ _ _ _ _ _ _ c st1 (walk_zipT x1 x2 y1 y2) fun _ _ _ _ g => g⟩⟩
  · exact c.elim
theorem i_en {es : Es} {p q : Pos} {elts : List Expr} {kk : Nat} {tp : Pos} (c : Cok X N sc k) (hg : glB sc "enumerate" = true) (hm : X.mg "enumerate" = none) (hs : okShape ea = true) (ha : PA X [ea] (LA X.K es)) :
    PI X (.Tuple elts kk tp) (.Call (.Name "enumerate" p) [ea] [] q) (LI X.K (.en es)) := by
  obtain ⟨g1, g2, g3⟩ := gl_ok c hg
  refine pi_mono (pi_enA g1 hm ha (star1 hs _ _)) fun σ H Q w => ?_
  obtain ⟨P, F, env, L, C, st, w, k⟩ := w
  simp only [wI] at w
  refine ⟨P, F, env, L, _, st, w, fun rs e1 vs F1 H1 L1 fp c st1 q nd dis => ?_⟩
  unfold enI at c
  split at c
  · cases q with
    | cons h1 t1 =>
      cases t1
      obtain ⟨r1, _⟩ := h1
      cases r1 with
      | lst x1 y1 => exact ⟨_, _, rfl, .inl ⟨.inl (st1.sub.rd x1), k _ _ _ _ _ _ _ c st1 (walk_en x1 y1) fun _ _ _ _ g => g⟩⟩
  · cases q with
    | cons h1 t1 =>
      cases t1
      obtain ⟨r1, _⟩ := h1
      cases r1 with
      | tup x1 y1 => exact ⟨_, _, rfl, .inr ⟨st1.sub.sqT x1, k _ _ _ _ _ _ _ c st1 (walk_enT x1 y1) fun _ _ _ _ g => g⟩⟩
  · exact c.elim
end
end PW

namespace PW
open PySem L2 PyProof.Rows

theorem set_len {α : Type} {l : List α} {i : Nat} {x : α} : (l.set i x).length = l.length := List.length_set
theorem wipe1 (σ : LSt) (i : Nat) : wipe σ [i] = σ.set i none := rfl
theorem set_back {σ : LSt} {i : Nat} {o : Option V} (h : σ[i]? = some o) : (σ.set i none).set i o = σ := by rw [List.set_set, set_same h]

section
variable {K : Fg} {P : Par} {F F' H H' : Hp} {env env' : PW.Env} {σ σ' : LSt} {L L' fp : List Addr} {r : R} {v : V} {d : D}
/-- the state with something held in the hand -/
theorem Sta.hold {fp : List Addr} (s : Sta K P F env σ H L) (nd : (L ++ fp).Nodup) (dis : ∀ a ∈ fp, F a = none ∧ ¬ P.Z a) (th : ∀ a ∈ fp, H a ≠ none) : Sta K (P.push fp H F) F env σ H L :=
  s.par (Ext.refl _) (fun a z => by
    rcases z with z | z
    · exact ⟨rfl, (s.z a z).2⟩
    · exact ⟨rfl, th a z, (dis a z).1⟩) (fun a z => by
    rintro (w | w)
    · exact (s.dis a z).2 w
    · exact (List.nodup_append.mp nd).2.2 a z a w rfl) s.fx
/-- a slot is forgotten; no wish about fixed slots -/
theorem Sta.forget {i : Nat} (s : Sta K P F env σ H L) (hi : i < env.length) (o : Option V) (s0 : LSt) : ∃ L', Sta K ⟨P.Z, H, F, fun _ => false, s0⟩ F (env.set i .no) (σ.set i o) H L' ∧ ∀ a ∈ L', a ∈ L := by
  obtain ⟨L1, L2, L0, h1, h2⟩ := s.sl.put hi .no o [] (.no .nil)
  rw [List.append_nil] at h1
  have nd := s.nd
  rw [h2] at nd
  have n1 := List.nodup_append.mp nd
  have n2 := List.nodup_append.mp n1.1
  have mem : ∀ a ∈ L1 ++ L2, a ∈ L := fun a z => by
    rw [h2]
    simp only [List.mem_append] at z ⊢
    rcases z with z | z
    · exact .inl (.inl z)
    · exact .inr z
  refine ⟨_, ⟨h1, List.nodup_append.mpr ⟨n2.1, n1.2.1, fun a z b w => n1.2.2 a (List.mem_append_left _ z) b w⟩, fun a z => s.dis a (mem a z), s.sub, Ext.refl _, fun a z => ⟨rfl, (s.z a z).2⟩, fun j hj => by cases hj⟩, mem⟩
/-- the object at D is changed, nobody else knows it -/
theorem Sta.upd {D : Addr} {o : HO} (s : Sta K P F env σ H L) (hL : D ∉ L) (hF : F D = none) (hZ : ¬ P.Z D) : Sta K P F env σ (upd H D o) L where
  sl := s.sl.mono (Ext.refl _) fun a z => upd_ne fun e => hL (e ▸ z)
  nd := s.nd
  dis := s.dis
  sub := fun a x e => by
    have ne : a ≠ D := fun q => by subst q; rw [hF] at e; cases e
    rw [upd_ne ne]; exact s.sub a x e
  f0 := s.f0
  z := fun a z => by
    have ne : a ≠ D := fun q => by subst q; exact hZ z
    rw [upd_ne ne]; exact s.z a z
  fx := s.fx
end

/-! ### a comprehension's own slots -/
def clr : List Nat → PW.Env → PW.Env
  | [], e => e
  | i :: is, e => (clr is e).set i .no
theorem clr_len : ∀ (is : List Nat) (e : PW.Env), (clr is e).length = e.length
  | [], _ => rfl
  | i :: is, e => by show ((clr is e).set i .no).length = _; rw [List.length_set, clr_len is e]
theorem clrK_iff : ∀ {is : List Nat} {env : PW.Env} {k : PW.Env → Prop}, clrK is env k ↔ (∀ i ∈ is, i < env.length) ∧ k (clr is env)
  | [], env, k => ⟨fun h => ⟨fun _ z => (nomatch z), h⟩, fun h => h.2⟩
  | i :: is, env, k => by
    show clrK is env (fun e => setK e i .no k) ↔ _
    rw [clrK_iff, setK_iff, clr_len]
    constructor
    · rintro ⟨h1, h2, h3⟩
      exact ⟨fun j hj => by rcases List.mem_cons.mp hj with e | hj; exact e ▸ h2; exact h1 j hj, h3⟩
    · rintro ⟨h1, h2⟩
      exact ⟨fun j hj => h1 j (List.mem_cons_of_mem _ hj), h1 i List.mem_cons_self, h2⟩
inductive Saved (env : PW.Env) : List Nat → List Slot → Prop
  | nil : Saved env [] []
  | cons {i : Nat} {s : Slot} {is : List Nat} {ss : List Slot} : env[i]? = some s → Saved env is ss → Saved env (i :: is) (s :: ss)
theorem savK_iff : ∀ {is : List Nat} {env : PW.Env} {k : List Slot → Prop}, savK is env k → ∃ ss, Saved env is ss ∧ k ss
  | [], _, k, h => ⟨[], .nil, h⟩
  | i :: is, env, k, h => by
    obtain ⟨s, e, h⟩ := getK_iff.mp (show getK env i _ from h)
    obtain ⟨ss, h1, h2⟩ := savK_iff h
    exact ⟨s :: ss, .cons e h1, h2⟩
theorem clr_get : ∀ (is : List Nat) (e : PW.Env) (j : Nat), (clr is e)[j]? = if j ∈ is then e[j]?.map (fun _ => .no) else e[j]?
  | [], e, j => by simp [clr]
  | i :: is, e, j => by
    show ((clr is e).set i .no)[j]? = _
    by_cases h : i = j
    · subst h
      rw [List.getElem?_set]
      simp only [if_true, clr_len, List.mem_cons_self]
      by_cases hl : i < e.length
      · simp [hl, List.getElem?_eq_getElem hl]
      · simp [hl]
    · rw [List.getElem?_set_ne h, clr_get is e j]
      have : j ∈ i :: is ↔ j ∈ is := by simp [Ne.symm h]
      simp only [this]
theorem wipe_get : ∀ (is : List Nat) (e : LSt) (j : Nat), (wipe e is)[j]? = if j ∈ is then e[j]?.map (fun _ => none) else e[j]?
  | [], e, j => by simp [wipe]
  | i :: is, e, j => by
    show ((wipe e is).set i none)[j]? = _
    by_cases h : i = j
    · subst h
      rw [List.getElem?_set]
      simp only [if_true, wipe_length, List.mem_cons_self]
      by_cases hl : i < e.length
      · simp [hl, List.getElem?_eq_getElem hl]
      · simp [hl]
    · rw [List.getElem?_set_ne h, wipe_get is e j]
      have : j ∈ i :: is ↔ j ∈ is := by simp [Ne.symm h]
      simp only [this]
theorem clr_clr (is : List Nat) (e : PW.Env) : clr is (clr is e) = clr is e := by
  apply List.ext_getElem?
  intro j
  rw [clr_get, clr_get]
  split
  · cases e[j]? <;> rfl
  · rfl
theorem wipe_wipe (is : List Nat) (e : LSt) : wipe (wipe e is) is = wipe e is := by
  apply List.ext_getElem?
  intro j
  rw [wipe_get, wipe_get]
  split
  · cases e[j]? <;> rfl
  · rfl
/-- where only own slots differ -/
theorem wipe_same {is : List Nat} {e e' : LSt} (hl : e'.length = e.length) (h : ∀ j, j ∉ is → e'[j]? = e[j]?) : wipe e' is = wipe e is := by
  apply List.ext_getElem?
  intro j
  rw [wipe_get, wipe_get]
  split
  · by_cases q : j < e.length
    · rw [List.getElem?_eq_getElem q, List.getElem?_eq_getElem (by omega)]; rfl
    · rw [List.getElem?_eq_none (by omega), List.getElem?_eq_none (by omega)]
  · rename_i q; exact h j q
theorem clr_out {is : List Nat} {e : PW.Env} {i : Nat} {s : Slot} (h : i ∉ is) : clr is (e.set i s) = (clr is e).set i s := by
  apply List.ext_getElem?
  intro j
  rw [clr_get, List.getElem?_set, List.getElem?_set, clr_get, clr_len]
  by_cases q : i = j
  · subst q
    simp [h]
  · simp [q]
section
variable {K : Fg} {P : Par} {F F' H H' : Hp} {env env' : PW.Env} {σ σ' : LSt} {L L' fp : List Addr}
theorem Sta.forgetL : ∀ (is : List Nat), Sta K P F env σ H L → (∀ i ∈ is, i < env.length) → ∀ (s0 : LSt), ∃ L', Sta K ⟨P.Z, H, F, fun _ => false, s0⟩ F (clr is env) (wipe σ is) H L' ∧ ∀ a ∈ L', a ∈ L
  | [], s, _, s0 => ⟨L, s.par (Ext.refl _) (fun a z => ⟨rfl, (s.z a z).2⟩) (fun a z => (s.dis a z).2) (fun j hj => by cases hj), fun _ z => z⟩
  | i :: is, s, hi, s0 => by
    obtain ⟨L1, s1, m1⟩ := Sta.forgetL is s (fun j hj => hi j (List.mem_cons_of_mem _ hj)) s0
    obtain ⟨L2, s2, m2⟩ := s1.forget (i := i) (by rw [clr_len]; exact hi i List.mem_cons_self) none s0
    exact ⟨L2, s2, fun a z => m1 a (m2 a z)⟩
/-- an outer name holds again what it held -/
theorem Sta.back1 {i : Nat} {s0 : Slot} {o : Option V} (s : Sta K P F env σ H L) (hfx : ∀ j, P.fx j = false) (hi : i < env.length) (h : ∀ d, s0 = .sh d → ∃ v, o = some v ∧ Rep K F d v) : ∃ L', Sta K P F (env.set i s0.keep) (σ.set i o) H L' ∧ ∀ a ∈ L', a ∈ L := by
  have key : ∀ s1 : Slot, Slots K F H [s1] [o] [] → ∃ L', Sta K P F (env.set i s1) (σ.set i o) H L' ∧ ∀ a ∈ L', a ∈ L := fun s1 z => by
    obtain ⟨L1', L2', L0', z1, z2⟩ := s.sl.put hi s1 o [] z
    rw [List.append_nil] at z1
    have nd := s.nd
    rw [z2] at nd
    have n1 := List.nodup_append.mp nd
    have n2 := List.nodup_append.mp n1.1
    have mem : ∀ a ∈ L1' ++ L2', a ∈ L := fun a z => by
      rw [z2]
      simp only [List.mem_append] at z ⊢
      rcases z with z | z
      · exact .inl (.inl z)
      · exact .inr z
    exact ⟨_, ⟨z1, List.nodup_append.mpr ⟨n2.1, n1.2.1, fun a z b w => n1.2.2 a (List.mem_append_left _ z) b w⟩, fun a z => s.dis a (mem a z), s.sub, s.f0, s.z, fun j hj => by rw [hfx j] at hj; cases hj⟩, mem⟩
  cases s0 with
  | sh d =>
    obtain ⟨v, rfl, r⟩ := h d rfl
    exact key (.sh d) (.sh r .nil)
  | ow d => exact key .no (.no .nil)
  | no => exact key .no (.no .nil)
theorem Sta.backL {e1 : PW.Env} {σ1 : LSt} {F1 H1 : Hp} {L1 : List Addr} {P1 : Par} (s1 : Sta K P1 F1 e1 σ1 H1 L1) (hF : Ext F1 F) (hfx : ∀ j, P.fx j = false) : ∀ {is : List Nat} {ss : List Slot} {env : PW.Env} {L : List Addr} {C : PW.Env → Prop}, is.Nodup → Saved e1 is ss → Sta K P F (clr is env) (wipe σ1 is) H L → rstK is ss env C →
    ∃ env' L', C env' ∧ Sta K P F env' σ1 H L' ∧ ∀ a ∈ L', a ∈ L
  | [], _, env, L, C, _, .nil, s, w => ⟨env, L, w, s, fun _ z => z⟩
  | i :: is, _, env, L, C, nd, .cons (s := s0) e sv, s, w => by
    have nd := List.nodup_cons.mp nd
    obtain ⟨hi, w⟩ := setK_iff.mp (show setK env i s0.keep _ from w)
    have hl : i < σ1.length := by
      rw [← s1.sl.length]
      exact (List.getElem?_eq_some_iff.mp e).1
    obtain ⟨o, ho⟩ := go_some hl
    have s : Sta K P F ((clr is env).set i .no) ((wipe σ1 is).set i none) H L := s
    obtain ⟨L2, s2, m2⟩ := s.back1 (i := i) (s0 := s0) (o := o) hfx (by rw [List.length_set, clr_len]; exact hi) fun d hd => by
      subst hd
      obtain ⟨v, hv, r⟩ := s1.sl.getSh e
      rw [ho] at hv
      exact ⟨v, by injection hv, r.mono hF⟩
    have q : (wipe σ1 is)[i]? = some o := by rw [wipe_get, if_neg nd.1]; exact ho
    rw [List.set_set, List.set_set, set_same q, ← clr_out nd.1] at s2
    obtain ⟨env', L3, h1, h2, h3⟩ := Sta.backL s1 hF hfx nd.2 sv s2 w
    exact ⟨env', L3, h1, h2, fun a z => m2 a (h3 a z)⟩
end
/-- a target -/
def LGw (K : Fg) (g : G) : TG := fun v σ H Q => ∃ (P : Par) (F : Hp) (env : PW.Env) (L : List Addr) (d : D) (C : PW.Env → Prop), (∀ j, P.fx j = false) ∧ Sta K P F env σ H L ∧ Rep K F d v ∧ tgt g d env C ∧
  ∀ env' σ' L', C env' → Sta K P F env' σ' H L' → σ'.length = σ.length → (∀ j, j ∉ g.sl → σ'[j]? = σ[j]?) → Q σ' H
def puts : List Nat → List D → PW.Env → PW.Env
  | i :: is, d :: ds, e => puts is ds (e.set i (.sh d))
  | _, _, e => e
theorem go_iff : ∀ {is : List Nat} {ds : List D} {env : PW.Env} {C : PW.Env → Prop}, ds.length = is.length → (tgt.go is ds env C ↔ (∀ i ∈ is, i < env.length) ∧ C (puts is ds env))
  | [], [], env, C, _ => ⟨fun h => ⟨fun _ z => (nomatch z), h⟩, fun h => h.2⟩
  | [], _ :: _, _, _, h => by simp at h
  | _ :: _, [], _, _, h => by simp at h
  | i :: is, d :: ds, env, C, hl => by
    show setK env i (.sh d) (fun env' => tgt.go is ds env' C) ↔ _
    rw [setK_iff, go_iff (by simpa using hl), List.length_set]
    constructor
    · rintro ⟨h1, h2, h3⟩
      exact ⟨fun j hj => by rcases List.mem_cons.mp hj with e | hj; exact e ▸ h1; exact h2 j hj, h3⟩
    · rintro ⟨h1, h2⟩
      exact ⟨h1 i List.mem_cons_self, fun j hj => h1 j (List.mem_cons_of_mem _ hj), h2⟩
theorem puts_congr : ∀ {is : List Nat} {ds : List D} {e e' : PW.Env}, ds.length = is.length → e.length = e'.length → (∀ j, j ∉ is → e[j]? = e'[j]?) → puts is ds e = puts is ds e'
  | [], [], e, e', _, _, h => List.ext_getElem? fun j => h j (by simp)
  | [], _ :: _, _, _, h, _, _ => by simp at h
  | _ :: _, [], _, _, h, _, _ => by simp at h
  | i :: is, d :: ds, e, e', hl, hn, h => by
    refine puts_congr (is := is) (ds := ds) (by simpa using hl) (by rw [List.length_set, List.length_set, hn]) fun j hj => ?_
    rw [List.getElem?_set, List.getElem?_set, hn]
    by_cases q : i = j
    · simp [q]
    · simp only [if_neg q]
      exact h j (by simp [hj, Ne.symm q])
theorem tgt_clr {d : D} {C : PW.Env → Prop} {env : PW.Env} : ∀ {g : G}, tgt g d env C → tgt g d (clr g.sl env) C
  | .nm i, h => by
    obtain ⟨hi, w⟩ := setK_iff.mp (show setK env i (.sh d) C from h)
    refine setK_iff.mpr ⟨by rw [clr_len]; exact hi, ?_⟩
    show C ((env.set i .no).set i (.sh d))
    rw [List.set_set]; exact w
  | .tp is, h => by
    cases d with
    | tup ds =>
      obtain ⟨hl, w⟩ := (show _ ∧ _ from h)
      refine (show _ ∧ _ from ⟨hl, ?_⟩)
      obtain ⟨h1, h2⟩ := (go_iff hl).mp w
      refine (go_iff hl).mpr ⟨fun i hi => by show i < (clr is env).length; rw [clr_len]; exact h1 i hi, ?_⟩
      show C (puts is ds (clr is env))
      rw [puts_congr (e' := env) hl (clr_len _ _) fun j hj => by rw [clr_get, if_neg hj]]
      exact h2
    | _ => exact h.elim

/-- between two turns of a comprehension: the list so far is in the hand -/
structure LcI (K : Fg) (P P' : Par) (is : List Nat) (σ : LSt) (q0 : Addr) (body : List D → PW.Env → Prop) (H F2 : Hp) (env2 : PW.Env) (L2 : List Addr) (acc : List D) (xs : List V) (fa : List Addr) : Prop where
  len : ∀ i ∈ is, i < env2.length
  st : Sta K P' F2 (clr is env2) (wipe σ is) H L2
  hx : H q0 = some (.lst xs)
  ho : OwnL K F2 H acc xs fa
  nd : (L2 ++ (q0 :: fa)).Nodup
  dis : ∀ a ∈ q0 :: fa, F2 a = none ∧ ¬ P.Z a
  go : body acc env2
section
variable {X : Cx}
theorem own1 {K : Fg} {F H : Hp} {ds : List D} {v : V} {fp : List Addr} (h : OwnL K F H ds [v] fp) : ∃ d, ds = [d] ∧ Own K F H d v fp := by
  generalize e : [v] = vs at h
  cases h with
  | nil => cases e
  | cons a t =>
    cases e
    cases t
    rw [List.append_nil]
    exact ⟨_, rfl, a⟩
theorem lstK1 {K : Fg} {F H : Hp} {σ : LSt} {r : R} {v : V} {fp : List Addr} {k : List D → Prop} (h : RR K F H σ r v fp) (w : lstK [r] k) : ∃ d, Own K F H d v fp ∧ d.nd = true ∧ k [d] := by
  have q : RRs K F H σ [r] [v] (fp ++ []) := .cons (h.q false) .nil
  obtain ⟨ds, h1, h2⟩ := lstK_ok q w
  rw [List.append_nil] at h1
  obtain ⟨d, rfl, a⟩ := own1 h1
  exact ⟨d, a, all_get (i := 0) h1.nd rfl, h2⟩
theorem le_lc {g : G} {it : PW.It} {t : T} {e : E} {σ : LSt} {H : Hp} {Q : VK} (hne : ∀ j, it.slot = some j → j ∉ g.sl) (hnd : g.sl.Nodup) (h : LE X.K (.lc g it t e) σ H Q) : tLc (LI X.K it) (LGw X.K g) (LT X.K t) (LE X.K e) g.sl σ H Q := by
  obtain ⟨P, F, env, L, C, st, w, k⟩ := h
  simp only [wE] at w
  refine ⟨P, F, env, L, _, st, w, fun gd ds e1 J F1 H1 L1 c st1 wk gset q0 hD => ?_⟩
  obtain ⟨ss, sv, c⟩ := savK_iff c
  obtain ⟨hi, c⟩ := clrK_iff.mp c
  have hlσ : e1.length = σ.length := st1.sl.length
  obtain ⟨L2, st2, m2⟩ := st1.forgetL g.sl hi σ
  have fD : F1 q0 = none := by
    cases q : F1 q0 with
    | none => rfl
    | some o => rw [st1.sub _ _ q] at hD; cases hD
  have zD : ¬ P.Z q0 := fun z => (st1.z q0 z).2.1 hD
  have lD : q0 ∉ L2 := fun z => by obtain ⟨_, q⟩ := st2.sl.there q0 z; rw [hD] at q; cases q
  have gsetL : ∀ {env : PW.Env}, gd env → gd (clr g.sl env) := fun {env} hg => by
    have : ∀ is : List Nat, (∀ j, it.slot = some j → j ∉ is) → gd (clr is env) := by
      intro is
      induction is with
      | nil => exact fun _ => hg
      | cons i is ih => exact fun h => gset _ _ _ (fun j hj e => h j hj (e ▸ List.mem_cons_self)) (ih fun j hj z => h j hj (List.mem_cons_of_mem _ z))
    exact this g.sl hne
  -- the invariant
  let P' : Par := ⟨P.Z, H1, F1, fun _ => false, σ⟩
  let body : Nat → List D → PW.Env → Prop := fun n acc env2 => lcK gd g (wT t) (wE e) (ds.drop n) acc env2 (fun acc env3 => rstK g.sl ss env3 fun env4 => C (.ow (.lst acc)) env4)
  refine ⟨fun n m H => m = ds.length - n ∧ n ≤ ds.length ∧ ∃ F2 env2 L2 acc xs fa, LcI X.K P P' g.sl σ q0 (body n) H F2 env2 L2 acc xs fa, ⟨ds.length, by simp, Nat.zero_le _, F1, clr g.sl e1, L2, [], [], [], (fun j hj => by rw [clr_len]; exact hi j hj), ?_, upd_same, .nil, ?_, ?_, by simpa [body] using c⟩, ?_⟩
  · have q := st2.upd (o := .lst []) lD fD zD
    rw [clr_clr]
    exact q.par (Ext.refl _) (fun a z => ⟨upd_ne fun e => zD (e ▸ z), (q.z a z).2⟩) (fun a z => (q.dis a z).2) fun j hj => by cases hj
  · exact List.nodup_append.mpr ⟨st2.nd, by simp, fun a z b w e => by
      rw [List.mem_singleton] at w
      subst w; subst e
      exact lD z⟩
  · intro a z
    rw [List.mem_singleton] at z
    subst z
    exact ⟨fD, zD⟩
  · rintro n m H2 ⟨rfl, hn, F2, env2, L2, acc, xs, fa, hl2, s2, hx, ho, nd2, dis2, c2⟩
    have sig : ∀ j, it.slot = some j → (wipe σ g.sl)[j]? = σ[j]? := fun j hj => by rw [wipe_get, if_neg (hne j hj)]
    by_cases hlt : n < ds.length
    · -- one turn
      right
      simp only [body] at c2
      rw [List.drop_eq_getElem_cons hlt] at c2
      simp only [lcK_nil, lcK_cons] at c2
      obtain ⟨g2, c2⟩ := c2
      have wk2 := wk n P' F2 _ _ H2 L2 s2 s2.f0 sig (gsetL g2)
      refine ⟨wk2.1 hlt, fun H => ∃ F2 env2 L2 acc xs fa, LcI X.K P P' g.sl σ q0 (body (n + 1)) H F2 env2 L2 acc xs fa, fun H' h => ⟨ds.length - (n + 1), by omega, rfl, hlt, h⟩, fun x H' hy => ?_⟩
      obtain ⟨F2', s2', fr, rx⟩ := wk2.2.2 _ x H' (List.getElem?_eq_getElem hlt) hy
      have th0 : ∀ a ∈ q0 :: fa, H2 a ≠ none := fun a z => by
        rcases List.mem_cons.mp z with q | q
        · rw [q, hx]; simp
        · obtain ⟨_, q⟩ := ho.there a q; rw [q]; simp
      have ex : Ext F2 F2' := fun a o e => by rw [(fr a (by rw [s2.sub a o e]; simp)).2]; exact e
      have hx : H' q0 = some (.lst xs) := by rw [(fr q0 (th0 q0 List.mem_cons_self)).1]; exact hx
      have ho : OwnL X.K F2' H' acc xs fa := ho.mono ex fun a z => (fr a (th0 a (List.mem_cons_of_mem _ z))).1
      have dis2 : ∀ a ∈ q0 :: fa, F2' a = none ∧ ¬ P.Z a := fun a z => ⟨by rw [(fr a (th0 a z)).2]; exact (dis2 a z).1, (dis2 a z).2⟩
      have th : ∀ a ∈ q0 :: fa, H' a ≠ none := fun a z => by rw [(fr a (th0 a z)).1]; exact th0 a z
      have s2 := s2'
      have s3 := s2.hold nd2 (fun a z => ⟨(dis2 a z).1, (dis2 a z).2⟩) th
      refine ⟨P'.push (q0 :: fa) H' F2', F2', clr g.sl env2, L2, ds[n], _, (fun _ => rfl), s3, rx, tgt_clr c2, fun env4 σ2 L4 c2 s4 hlen hout => ?_⟩
      have hw : wipe σ2 g.sl = wipe σ g.sl := (wipe_same hlen hout).trans (wipe_wipe _ _)
      have hl2' : σ2.length = σ.length := by rw [hlen, wipe_length]
      refine ⟨hw, ?_⟩
      refine lt2 s4 c2 fun b env5 F5 H5 L5 c5 s5 => ?_
      -- behind the test, behind the element
      have fin : ∀ {env5 : PW.Env} {F5 H5 : Hp} {L5 : List Addr}, Sta X.K (P'.push (q0 :: fa) H' F2') F5 env5 σ2 H5 L5 → (∀ i ∈ g.sl, i < env5.length) ∧ H5 q0 = some (.lst xs) ∧ OwnL X.K F5 H5 acc xs fa ∧ (L5 ++ (q0 :: fa)).Nodup ∧
          (∀ a ∈ q0 :: fa, F5 a = none ∧ ¬ P.Z a) ∧ ∃ L6, Sta X.K P' F5 (clr g.sl env5) (wipe σ g.sl) H5 L6 ∧ ∀ a ∈ L6, a ∈ L5 := fun {env5 F5 H5 L5} s => by
        have hl : ∀ i ∈ g.sl, i < env5.length := fun i hi' => by rw [s.sl.length, hl2', ← hlσ]; exact hi i hi'
        obtain ⟨L6, s6, m6⟩ := (s2.pop s).forgetL g.sl hl σ
        rw [hw] at s6
        refine ⟨hl, ((s.z q0 (.inr List.mem_cons_self)).1).trans hx, ho.mono s.f0 fun a z => (s.z a (.inr (List.mem_cons_of_mem _ z))).1,
          List.nodup_append.mpr ⟨s.nd, (List.nodup_append.mp nd2).2.1, fun a z b w e => (s.dis a z).2 (.inr (e ▸ w))⟩, fun a z => ⟨(s.z a (.inr z)).2.2, (dis2 a z).2⟩, L6, ?_, m6⟩
        have s7 := s2.pop s
        exact s6.par s7.f0 s7.z (fun a z => (s7.dis a (m6 a z)).2) fun j hj => by cases hj
      cases b with
      | false =>
        -- the test says no
        obtain ⟨hl, k1, k2, k3, k4, L6, s6, m6⟩ := fin s5
        refine ⟨F5, env5, L6, acc, xs, fa, hl, s6, k1, k2, ?_, k4, c5.2 rfl⟩
        exact List.nodup_append.mpr ⟨s6.nd, (List.nodup_append.mp k3).2.1, fun a z b w => (List.nodup_append.mp k3).2.2 a (m6 a z) b w⟩
      | true =>
        refine ⟨_, F5, env5, L5, _, s5, c5.1 rfl, fun r env8 y F8 H8 L8 fp ⟨hz, c8⟩ po _ => ?_⟩
        obtain ⟨hl, k1, k2, k3, k4, L6, s6, m6⟩ := fin po.st
        obtain ⟨d8, o8, n8, c9⟩ := lstK1 po.rr c8
        refine ⟨xs, k1, by rw [← k2.length]; exact hz, ?_⟩
        have fq : ∀ a ∈ fp, a ∉ q0 :: fa := fun a z w => (po.dis a z).2 (.inr w)
        have l6q : ∀ a ∈ L6, a ∉ q0 :: fa := fun a z w => (List.nodup_append.mp k3).2.2 a (m6 a z) a w rfl
        have q0fa : q0 ∉ fa := (List.nodup_cons.mp (List.nodup_append.mp k3).2.1).1
        have s9 := s6.upd (o := .lst (xs ++ [y])) (fun z => l6q _ z List.mem_cons_self) (k4 _ List.mem_cons_self).1 (fun z => (k4 _ List.mem_cons_self).2 z)
        refine ⟨F8, env8, L6, acc ++ [d8], xs ++ [y], fa ++ (fp ++ []), hl, s9, upd_same, ?_, ?_, ?_, c9⟩
        · exact (k2.mono (Ext.refl _) fun a z => upd_ne (b := a) fun (e : a = q0) => q0fa (e ▸ z)).append (.cons (n := n8) (o8.mono (Ext.refl _) fun a z => upd_ne (b := a) fun (e : a = q0) => fq a z (e ▸ List.mem_cons_self)) .nil)
        · rw [List.append_nil]
          have n1 := List.nodup_append.mp k3
          have n2 := List.nodup_append.mp po.nd
          refine List.nodup_append.mpr ⟨s6.nd, ?_, fun a z b w e => ?_⟩
          · rw [← List.cons_append]
            exact List.nodup_append.mpr ⟨n1.2.1, n2.2.1, fun a z b w e => fq b w (e ▸ z)⟩
          · subst e
            rw [← List.cons_append] at w
            rcases List.mem_append.mp w with w | w
            · exact l6q a z w
            · exact n2.2.2 a (m6 a z) a w rfl
        · intro a z
          rw [List.append_nil, ← List.cons_append] at z
          rcases List.mem_append.mp z with z | z
          · exact k4 a z
          · exact ⟨(po.dis a z).1, fun w => (po.dis a z).2 (.inl w)⟩
    · -- the end
      left
      have e0 : n = ds.length := by omega
      subst e0
      simp only [body, List.drop_length, lcK_nil, lcK_cons] at c2
      obtain ⟨g2, c2⟩ := c2
      have wk2 := wk ds.length P' F2 _ _ H2 L2 s2 s2.f0 sig (gsetL g2)
      refine ⟨wk2.2.1 rfl, ?_⟩
      obtain ⟨envZ, L4, c4, s4, m4⟩ := st1.backL (P := P') s2.f0 (fun _ => rfl) hnd sv s2 c2
      have s5 : Sta X.K P F2 envZ σ H2 L4 := s4.par (st1.f0.trans s2.f0) (fun a z => ⟨(s2.z a z).1.trans (st1.z a z).1, (s2.z a z).2⟩) (fun a z => (s4.dis a z).2) st1.fx
      refine k _ _ _ F2 H2 L4 (q0 :: fa) c4 ⟨s5, .lst hx ho, ?_, dis2⟩ fun e => nomatch e
      exact List.nodup_append.mpr ⟨s5.nd, (List.nodup_append.mp nd2).2.1, fun a z b w e => (List.nodup_append.mp nd2).2.2 a (m4 a z) b w e⟩
end
end PW

namespace PW
open PySem L2 PyProof.Rows

structure Fin (K : Fg) (P : Par) (D : Ends) (KK : KS) : Prop where
  nx : ∀ env σ F H L, KK.nx env → Sta K P F env σ H L → D.nx σ H
  bk : ∀ env σ F H L, KK.bk env → Sta K P F env σ H L → D.bk σ H
  ct : ∀ env σ F H L, KK.ct env → Sta K P F env σ H L → D.ct σ H
  rt : ∀ r env σ v F H L fp, KK.rt r env → Po K P F env σ H L r v fp → D.rt v H
def LS (K : Fg) (m : List Bool) (s : PW.S) : TS := fun D σ H => ∃ (P : Par) (F : Hp) (env : PW.Env) (L : List Addr) (KK : KS), P.fx = fxB m ∧ Sta K P F env σ H L ∧ wS s env KK ∧ Fin K P D KK
def LSs (K : Fg) (m : List Bool) (s : Ss) : TS := fun D σ H => ∃ (P : Par) (F : Hp) (env : PW.Env) (L : List Addr) (KK : KS), P.fx = fxB m ∧ Sta K P F env σ H L ∧ wSs s env KK ∧ Fin K P D KK
def LG (K : Fg) (m : List Bool) (g : G) : TG := fun v σ H Q => ∃ (P : Par) (F : Hp) (env : PW.Env) (L : List Addr) (d : D) (C : PW.Env → Prop), P.fx = fxB m ∧ Sta K P F env σ H L ∧ Rep K F d v ∧ tgt g d env C ∧
  ∀ env' σ' L', C env' → Sta K P F env' σ' H L' → Q σ' H

structure CokS (X : Cx) (N : List Str) (sc : Scope) (k : Nat) : Prop extends Cok X N sc k where
  fn : ∀ x, X.fn x = true
  own : PassesOwn (model X.prog X.w) X.A X.env X.xe
  kd : X.env.scope.kind = .function

section
variable {X : Cx} {N : List Str} {sc : Scope} {k : Nat} {m : List Bool} {a b : E} {t u : T} {ea eb tg : Expr} {pos : Pos} {s : PW.S} {ss : Ss} {st : Stmt} {sts : List Stmt}
theorem pg_mono {e : Expr} {t t' : TG} (h : PG X e t) (k : ∀ v σ H Q, t' v σ H Q → t v σ H Q) : PG X e t' := ⟨fun pins s σ H v u Q I r w => h.run pins s σ H v u Q I r (k _ _ _ _ w)⟩
theorem name_ok (c : CokS X N sc k) {i : Nat} {x : Str} (h : locB N sc i x = true) : PG X (.Name x pos) (gName i) :=
  let ⟨h1, h2⟩ := loc_ok c.toCok h
  pg_name (by rw [c.n]; exact c.nd) h1 h2 (.inl (c.fn x))
theorem g_nm (c : CokS X N sc k) {i : Nat} {x : Str} (h : locB N sc i x = true) (hm : fxB m i = false) : PG X (.Name x pos) (LG X.K m (.nm i)) := by
  refine pg_mono (name_ok c h) fun v σ H Q w => ?_
  obtain ⟨P, F, env, L, d, C, hf, st, r, w, k⟩ := w
  obtain ⟨hi, w⟩ := setK_iff.mp (show setK env i (.sh d) C from w)
  obtain ⟨L', s'⟩ := st.store (o := .sh d) (v := v) (fp := []) hi (by rw [hf]; exact hm) (.sh r .nil) (by simpa using st.nd) fun _ z => nomatch z
  exact k _ _ _ w s'
/-- several names -/
def LGs (K : Fg) (m : List Bool) (is : List Nat) : TGs := fun vs σ H Q => ∃ (P : Par) (F : Hp) (env : PW.Env) (L : List Addr) (ds : List D) (C : PW.Env → Prop), P.fx = fxB m ∧ Sta K P F env σ H L ∧ RepL K F ds vs ∧ ds.length = is.length ∧ tgt.go is ds env C ∧
  ∀ env' σ' L', C env' → Sta K P F env' σ' H L' → Q σ' H
theorem gs_ok (c : CokS X N sc k) : ∀ {is : List Nat} {xs : List Expr}, cG.go N sc m is xs = true → PGs X xs (LGs X.K m is) ∧ (assignEach xs X.env).length = is.length ∧ (assignEach xs X.env).findIdx? (·.1) = none
  | [], [], _ => ⟨⟨fun pins s σ H vs us Q I r w => pgs_nil.run pins s σ H vs us Q I r (by
      obtain ⟨P, F, env, L, ds, C, hf, st, rp, hl, w, k⟩ := w
      cases ds with
      | nil => cases rp; exact ⟨rfl, k _ _ _ w st⟩
      | cons d ds => simp at hl)⟩, rfl, rfl⟩
  | [], _ :: _, h => by simp only [cG.go] at h; cases h
  | i :: is, [], h => by simp only [cG.go] at h; cases h
  | i :: is, x :: xs, h => by
    cases x with
    | Name x p =>
      simp only [cG.go, Bool.and_eq_true] at h
      obtain ⟨⟨h1, h2⟩, h3⟩ := h
      obtain ⟨q1, q2, q3⟩ := gs_ok c h3
      refine ⟨⟨fun pins s σ H vs us Q I r w => (pgs_cons (name_ok c h1) q1).run pins s σ H vs us Q I r ?_⟩, ?_, ?_⟩
      · obtain ⟨P, F, env, L, ds, C, hf, st, rp, hl, w, k⟩ := w
        cases ds with
        | nil => simp at hl
        | cons d ds =>
          cases rp with
          | cons r0 rs =>
            obtain ⟨hi, w⟩ := setK_iff.mp (show setK env i (.sh d) _ from w)
            obtain ⟨L', s'⟩ := st.store (o := .sh d) (v := _) (fp := []) hi (by rw [hf]; simpa using h2) (.sh r0 .nil) (by simpa using st.nd) fun _ z => nomatch z
            exact ⟨_, _, rfl, P, F, _, L', ds, C, hf, s', rs, by simpa using hl, w, k⟩
      · show (assignEach xs X.env).length + 1 = is.length + 1
        rw [q2]
      · show List.findIdx? _ ((false, _) :: assignEach xs X.env) = none
        rw [List.findIdx?_cons]
        simp [q3]
    | _ => simp only [cG.go] at h; cases h
theorem g_tp (c : CokS X N sc k) {is : List Nat} {xs : List Expr} {kk : Nat} (h : cG.go N sc m is xs = true) : PG X (.Tuple xs kk pos) (LG X.K m (.tp is)) := by
  obtain ⟨q1, q2, q3⟩ := gs_ok c h
  refine pg_mono (pg_tup c.calm q1 q2 q3) fun v σ H Q w => ?_
  obtain ⟨P, F, env, L, d, C, hf, st, r, w, k⟩ := w
  cases r with
  | tup q rp =>
    obtain ⟨hl, w⟩ := (show _ ∧ _ from w)
    exact ⟨_, _, rfl, st.sub.sqT q, by rw [← rp.length]; exact hl, P, F, env, L, _, C, hf, st, rp, hl, w, k⟩
  | _ => exact w.elim
theorem g_ok (c : CokS X N sc k) {g : G} (h : cG N sc m g tg = true) : PG X tg (LG X.K m g) := by
  cases g with
  | nm i =>
    cases tg with
    | Name x p =>
      simp only [cG, Bool.and_eq_true] at h
      exact g_nm c h.1 (by simpa using h.2)
    | _ => simp only [cG] at h; cases h
  | tp is =>
    cases tg with
    | Tuple xs kk p => exact g_tp c (by simpa only [cG] using h)
    | _ => simp only [cG] at h; cases h

/-! ### small statements -/
theorem ls_intro {K : Fg} {P : Par} {F : Hp} {env : PW.Env} {σ : LSt} {H : Hp} {L : List Addr} {D : Ends} {KK : KS} (hf : P.fx = fxB m) (st : Sta K P F env σ H L) (w : wSs ss env KK) (f : Fin K P D KK) : LSs K m ss D σ H := ⟨P, F, env, L, KK, hf, st, w, f⟩
theorem ss_nil : PSs X [] (LSs X.K m .nil) := pss_mono pss_nil fun D σ H w => by
  obtain ⟨P, F, env, L, KK, hf, st, w, f⟩ := w
  simp only [wSs] at w
  exact f.nx _ _ _ _ _ w st
theorem ss_cons (h1 : PS X st (LS X.K m s)) (h2 : PSs X sts (LSs X.K m ss)) : PSs X (st :: sts) (LSs X.K m (.cons s ss)) := pss_mono (pss_cons h1 h2) fun D σ H w => by
  obtain ⟨P, F, env, L, KK, hf, st, w, f⟩ := w
  simp only [wSs] at w
  exact ⟨P, F, env, L, _, hf, st, w, ⟨fun env' σ' F' H' L' n s' => ⟨P, F', env', L', KK, hf, s', n, f⟩, f.bk, f.ct, f.rt⟩⟩
theorem st_ret (ha : PE X ea (LE X.K a)) : PS X (.Return (some ea) pos) (LS X.K m (.ret a)) := ps_mono (ps_ret ha) fun D σ H w => by
  obtain ⟨P, F, env, L, KK, hf, st, w, f⟩ := w
  simp only [wS] at w
  refine ⟨P, F, env, L, _, st, w, fun r env' v F' H' L' fp c po _ => ?_⟩
  cases r with
  | va d => exact f.rt _ _ _ _ _ _ _ _ c po
  | ow d => exact f.rt _ _ _ _ _ _ _ _ c po
  | rf i => exact c.elim
  | al d => exact c.elim
theorem st_retN : PS X (.Return none pos) (LS X.K m .retN) := ps_mono ps_retN fun D σ H w => by
  obtain ⟨P, F, env, L, KK, hf, st, w, f⟩ := w
  simp only [wS] at w
  exact f.rt _ _ _ _ _ _ _ _ w (po_va st .non)
theorem st_ex (hs : compLike ea = false) (ha : PE X ea (LE X.K a)) : PS X (.Expr ea pos) (LS X.K m (.ex a)) := ps_mono (ps_expr ha (noswap hs _ _ _)) fun D σ H w => by
  obtain ⟨P, F, env, L, KK, hf, st, w, f⟩ := w
  simp only [wS] at w
  exact ⟨P, F, env, L, _, st, w, fun r env' v F' H' L' fp c po _ => f.nx _ _ _ _ _ c po.st⟩
theorem st_ifs {A B : Ss} {xs ys : List Stmt} (hc : PT X ea (LT X.K t)) (h1 : PSs X xs (LSs X.K m A)) (h2 : PSs X ys (LSs X.K m B)) : PS X (.If ea xs ys pos) (LS X.K m (.ifs t A B)) := ps_mono (ps_if hc h1 h2) fun D σ H w => by
  obtain ⟨P, F, env, L, KK, hf, st, w, f⟩ := w
  simp only [wS] at w
  refine lt2 st w fun b env' F' H' L' c st' => ?_
  cases b with
  | true => exact ls_intro hf st' (c.1 rfl) f
  | false => exact ls_intro hf st' (c.2 rfl) f
theorem st_brk : PS X (.Break pos) (LS X.K m .brk) := ps_mono ps_break fun D σ H w => by
  obtain ⟨P, F, env, L, KK, hf, st, w, f⟩ := w
  simp only [wS] at w
  exact f.bk _ _ _ _ _ w st
theorem st_cont : PS X (.Continue pos) (LS X.K m .cont) := ps_mono ps_continue fun D σ H w => by
  obtain ⟨P, F, env, L, KK, hf, st, w, f⟩ := w
  simp only [wS] at w
  exact f.ct _ _ _ _ _ w st
theorem st_pass : PS X (.Pass pos) (LS X.K m .pass) := ps_mono ps_pass fun D σ H w => by
  obtain ⟨P, F, env, L, KK, hf, st, w, f⟩ := w
  simp only [wS] at w
  exact f.nx _ _ _ _ _ w st
theorem st_doc {x : Str} {j : Nat} {p : Pos} : PS X (.Expr (.Constant (.str x) j p) pos) (LS X.K m .pass) := ps_mono ps_doc fun D σ H w => by
  obtain ⟨P, F, env, L, KK, hf, st, w, f⟩ := w
  simp only [wS] at w
  exact f.nx _ _ _ _ _ w st
/-- what is stored into a name -/
theorem stK_ok {K : Fg} {P : Par} {F : Hp} {env : PW.Env} {σ : LSt} {H : Hp} {L : List Addr} {r : R} {v : V} {fp : List Addr} {i : Nat} {C : PW.Env → Prop} (po : Po K P F env σ H L r v fp) (hx : P.fx i = false) (w : stK i r env C) :
    ∃ env' L', C env' ∧ Sta K P F env' (σ.set i (some v)) H L' := by
  cases r with
  | va d =>
    obtain ⟨hi, w⟩ := setK_iff.mp (show setK env i (.sh d) C from w)
    obtain ⟨L', s'⟩ := po.st.store (o := .sh d) (v := v) (fp := []) hi hx (.sh po.rr.1 .nil) (by simpa using po.st.nd) fun _ z => nomatch z
    exact ⟨_, L', w, s'⟩
  | ow d =>
    obtain ⟨hi, w⟩ := setK_iff.mp (show setK env i (.ow d) C from w)
    obtain ⟨L', s'⟩ := po.st.store (o := .ow d) (v := v) (fp := fp) hi hx (by simpa using Slots.ow po.rr .nil) po.nd po.dis
    exact ⟨_, L', w, s'⟩
  | rf j => exact w.elim
  | al d => exact w.elim
theorem asg_read {i : Nat} {te : TE} (hm : fxB m i = false) (hte : ∀ σ H Q, LE X.K a σ H Q → te σ H Q) : ∀ D σ H, LS X.K m (.asg (.nm i) a) D σ H → tAsg te (gName i) D σ H := fun D σ H w => by
  obtain ⟨P, F, env, L, KK, hf, st, w, f⟩ := w
  simp only [wS] at w
  refine hte _ _ _ ⟨P, F, env, L, _, st, w, fun r env' v F' H' L' fp c po _ => ?_⟩
  obtain ⟨e2, L2, n, s2⟩ := stK_ok po (by rw [hf]; exact hm) c
  exact f.nx _ _ _ _ _ n s2
theorem st_asg {i : Nat} {x : Str} {p : Pos} (c : CokS X N sc k) (h : locB N sc i x = true) (hm : fxB m i = false) (hs : compLike ea = false) (ha : PE X ea (LE X.K a)) : PS X (.Assign [.Name x p] ea pos) (LS X.K m (.asg (.nm i) a)) := by
  obtain ⟨h1, h2⟩ := loc_ok c.toCok h
  exact ps_mono (ps_set (by rw [c.n]; exact c.nd) h1 h2 ha (noswap hs _ _ _) (.inl (c.fn x))) (asg_read hm fun _ _ _ w => w)
end
end PW

namespace PW
open PySem L2 PyProof.Rows
section
variable {X : Cx} {N : List Str} {sc : Scope} {k : Nat} {m : List Bool} {a b : E} {t u : T} {ea eb tg : Expr} {pos : Pos} {s : PW.S} {ss : Ss} {st : Stmt} {sts : List Stmt}
/-- the parts of a comprehension -/
structure LcOk (X : Cx) (N : List Str) (sc : Scope) (g : G) (own : List (Str × Nat)) (tg : Expr) (it : PW.It) (t : T) (e : E) (elt iter : Expr) (ifs : List Expr) (scope : Scope) : Prop where
  src : PI X tg iter (LI X.K it)
  blk : BlkOk X.N X.env.scope scope own
  sl : own.map (·.2) = g.sl
  nd : g.sl.Nodup
  tgt : ∀ (s : Shared) (H : Hp) (C : Addr) (cl : List (Str × Addr)) (fp : List Addr), PG (X.blk s H scope (compEnvC scope cl C X.env) fp) tg (LGw X.K g)
  tst : ∀ (s : Shared) (H : Hp) (C : Addr) (cl : List (Str × Addr)) (fp : List Addr), PTs (X.blk s H scope (compEnvC scope cl C X.env) fp) ifs (LT X.K t)
  elt : ∀ (s : Shared) (H : Hp) (C : Addr) (cl : List (Str × Addr)) (fp : List Addr), PE (X.blk s H scope (compEnvC scope cl C X.env) fp) elt (LE X.K e)
  ne : ∀ j, it.slot = some j → j ∉ g.sl
  fold : ∀ v, foldedSetIterable iter X.env v = pure v
theorem s_lc {g : G} {own : List (Str × Nat)} {it : PW.It} {e : E} {elt iter : Expr} {ifs : List Expr} {scope : Scope} (c : Cok X N sc k) (h : LcOk X N sc g own tg it t e elt iter ifs scope) : PE X (.ListComp elt [⟨tg, iter, ifs, 0⟩] scope pos) (LE X.K (.lc g it t e)) :=
  pe_mono (pe_lc (own := own) c.calm (by rw [c.n]; exact c.nd) h.src h.blk h.tgt h.tst h.elt h.fold) fun _ _ _ w => by rw [h.sl]; exact le_lc h.ne h.nd w
theorem swap_lc {elt : Expr} {gs : List Comprehension} {scope : Scope} {p : Pos} {y : Str} {l : Nat} {env : PySem.Env} (hk : env.scope.kind = .function) :
    swapsWith (.ListComp elt gs scope pos) (some (.Name y p)) l env = pure true ∧ env.scope.names.lookup y = some .local ∨ swapsWith (.ListComp elt gs scope pos) (some (.Name y p)) l env = pure false := by
  have e : swapsWith (.ListComp elt gs scope pos) (some (.Name y p)) l env = pure (env.blockKind == .function && env.kindOf y == some .local && p.line == pos.line && !(scope.names.any fun (n, k) => n == y && (k == .local || k == .cell))) := rfl
  rw [e]
  generalize hb : (env.blockKind == .function && env.kindOf y == some .local && p.line == pos.line && !(scope.names.any fun (n, k) => n == y && (k == .local || k == .cell))) = b
  cases b with
  | false => exact .inr rfl
  | true =>
    simp only [Bool.and_eq_true] at hb
    exact .inl ⟨rfl, by simpa [Env.kindOf] using hb.1.1.2⟩
theorem st_asgLc {j : Nat} {y : Str} {py : Pos} {g : G} {own : List (Str × Nat)} {it : PW.It} {e : E} {elt iter : Expr} {ifs : List Expr} {scope : Scope} {spos : Pos} (c : CokS X N sc k) (hy : locB N sc j y = true) (hm : fxB m j = false) (h : LcOk X N sc g own tg it t e elt iter ifs scope) (hte : ∀ σ H Q, LE X.K a σ H Q → LE X.K (.lc g it t e) σ H Q) :
    PS X (.Assign [.Name y py] (.ListComp elt [⟨tg, iter, ifs, 0⟩] scope pos) spos) (LS X.K m (.asg (.nm j) a)) := by
  obtain ⟨h1, h2⟩ := loc_ok c.toCok hy
  have nd : X.N.Nodup := by rw [c.n]; exact c.nd
  rcases swap_lc (pos := pos) (p := py) (y := y) (l := spos.line) (elt := elt) (gs := [⟨tg, iter, ifs, 0⟩]) (scope := scope) c.kd with ⟨q, ql⟩ | q
  · exact ps_mono (ps_setLc (own := own) c.calm nd h1 ql q h.src h.blk h.tgt h.tst h.elt h.fold) (asg_read hm fun _ _ _ w => by rw [h.sl]; exact le_lc h.ne h.nd (hte _ _ _ w))
  · exact ps_mono (ps_set nd h1 h2 (s_lc c.toCok h) q (.inl (c.fn y))) (asg_read hm fun _ _ _ w => hte _ _ _ w)
theorem noswaps {is : List Nat} {xs : List Expr} {kk : Nat} {p : Pos} (hs : compLike ea = false) (ht : ∀ a b c, ea ≠ .Tuple a b c) (l : Nat) (env : PySem.Env) : swapsWithSole [.Tuple xs kk p] ea l env = pure false ∧ swappedStores [.Tuple xs kk p] ea env = pure none := by
  refine ⟨noswap hs (some (.Tuple xs kk p)) l env, ?_⟩
  cases ea <;> first | rfl | exact absurd rfl (ht _ _ _)
theorem st_asgTp {is : List Nat} {xs : List Expr} {kk : Nat} {p : Pos} (c : CokS X N sc k) (hg : cG N sc m (.tp is) (.Tuple xs kk p) = true) (hs : compLike ea = false) (ht : ∀ a b c, ea ≠ .Tuple a b c) (ha : PE X ea (LE X.K a)) : PS X (.Assign [.Tuple xs kk p] ea pos) (LS X.K m (.asg (.tp is) a)) := by
  obtain ⟨q1, q2⟩ := noswaps (is := is) (xs := xs) (kk := kk) (p := p) hs ht pos.line X.env
  refine ps_mono (ps_asg ha (g_ok c hg) q1 q2 rfl) fun D σ H w => ?_
  obtain ⟨P, F, env, L, KK, hf, st, w, f⟩ := w
  simp only [wS] at w
  refine ⟨P, F, env, L, _, st, w, fun r env' v F' H' L' fp c po _ => ?_⟩
  cases r with
  | va d => exact ⟨P, F', env', L', d, _, hf, po.st, po.rr.1, c, fun e2 σ2 L2 n s2 => f.nx _ _ _ _ _ n s2⟩
  | ow d => exact c.elim
  | rf i => exact c.elim
  | al d => exact c.elim

/-! ### loops -/
theorem Fin.loop {K : Fg} {P : Par} {D : Ends} {KK : KS} (f : Fin K P D KK) {g : PW.Env → Prop} {N : LSt → Hp → Prop} (h : ∀ env σ F H L, g env → Sta K P F env σ H L → N σ H) : Fin K P { D with nx := N, ct := N, bk := D.nx } (KK.loop g) :=
  ⟨h, f.nx, h, f.rt⟩
theorem Fin.par {K : Fg} {P P' : Par} {D : Ends} {KK : KS} (f : Fin K P D KK) (h : ∀ {env : PW.Env} {σ : LSt} {F H : Hp} {L : List Addr}, Sta K P' F env σ H L → Sta K P F env σ H L) (hz : P'.Z = P.Z) : Fin K P' D KK :=
  ⟨fun _ _ _ _ _ n s => f.nx _ _ _ _ _ n (h s), fun _ _ _ _ _ n s => f.bk _ _ _ _ _ n (h s), fun _ _ _ _ _ n s => f.ct _ _ _ _ _ n (h s),
    fun r env σ v F H L fp c po => f.rt r env σ v F H L fp c ⟨h po.st, po.rr, po.nd, fun a z => by rw [← hz]; exact po.dis a z⟩⟩
/-- the same wishes from here on -/
def Par.now (P : Par) (H F : Hp) : Par := ⟨P.Z, H, F, P.fx, P.s0⟩
theorem Sta.now {K : Fg} {P : Par} {F H : Hp} {env : PW.Env} {σ : LSt} {L : List Addr} (s : Sta K P F env σ H L) : Sta K (P.now H F) F env σ H L :=
  s.par (Ext.refl _) (fun a z => ⟨rfl, (s.z a z).2⟩) (fun a z => (s.dis a z).2) s.fx
theorem Sta.old {K : Fg} {P : Par} {F1 H1 F2 H2 : Hp} {env1 env2 : PW.Env} {σ1 σ2 : LSt} {L1 L2 : List Addr} (s : Sta K P F1 env1 σ1 H1 L1) (q : Sta K (P.now H1 F1) F2 env2 σ2 H2 L2) : Sta K P F2 env2 σ2 H2 L2 :=
  q.par (s.f0.trans q.f0) (fun a z => ⟨(q.z a z).1.trans (s.z a z).1, (q.z a z).2⟩) (fun a z => (q.dis a z).2) q.fx
theorem st_for {g : G} {it : PW.It} (c : CokS X N sc k) (hg : PG X tg (LG X.K m g)) (hsl : it.slot = none) (hi : PI X tg ea (LI X.K it)) (hb : PSs X sts (LSs X.K m ss)) (hs : ∀ v, foldedSetIterable ea X.env v = pure v) : PS X (.For tg ea sts [] pos) (LS X.K m (.for g it ss)) := by
  refine ps_mono (ps_for c.own c.calm hi hg hb hs) fun D σ H w => ?_
  obtain ⟨P, F, env, L, KK, hf, st, w, f⟩ := w
  simp only [wS] at w
  refine ⟨P, F, env, L, _, st, w, fun gd ds e1 J F1 H1 L1 ⟨hgd, c1⟩ st1 wk _ => ?_⟩
  have hf' : (P.now H1 F1).fx = fxB m := hf
  have f' : Fin X.K (P.now H1 F1) D KK := f.par (fun s => st1.old s) rfl
  refine ⟨fun n M σ H => M = ds.length - n ∧ n ≤ ds.length ∧ ∃ F env L, Sta X.K (P.now H1 F1) F env σ H L ∧ wFor g (wSs ss) KK (ds.drop n) env, ⟨ds.length, by simp, Nat.zero_le _, F1, e1, L1, st1.now, by simpa using c1⟩, ?_⟩
  rintro n M σ2 H2 ⟨rfl, hn, F2, env2, L2, s2, w2⟩
  have wk2 := wk n _ F2 env2 σ2 H2 L2 s2 s2.f0 (fun j hj => by rw [hsl] at hj; cases hj) (hgd _)
  by_cases hlt : n < ds.length
  · right
    refine ⟨wk2.1 hlt, fun σ H => n + 1 ≤ ds.length ∧ ∃ F env L, Sta X.K (P.now H1 F1) F env σ H L ∧ wFor g (wSs ss) KK (ds.drop (n + 1)) env, fun σ' H' h => ⟨ds.length - (n + 1), by omega, rfl, h⟩, fun x H' hy => ?_⟩
    obtain ⟨F2', s2', _, rx⟩ := wk2.2.2 _ x H' (List.getElem?_eq_getElem hlt) hy
    rw [List.drop_eq_getElem_cons hlt] at w2
    simp only [wFor_nil', wFor_cons'] at w2
    refine ⟨P.now H1 F1, F2', env2, L2, _, _, hf', s2', rx, w2, fun env3 σ3 L3 c3 s3 => ?_⟩
    exact ls_intro hf' s3 c3 (f'.loop fun env σ F H L n s => ⟨hlt, F, env, L, s, n⟩)
  · left
    have e0 : n = ds.length := by omega
    subst e0
    simp only [List.drop_length, wFor_nil', wFor_cons'] at w2
    exact ⟨wk2.2.1 rfl, f'.nx _ _ _ _ _ w2 s2⟩
theorem st_whl (c : CokS X N sc k) (hc : PT X ea (LT X.K t)) (hb : PSs X sts (LSs X.K m ss)) : PS X (.While ea sts [] pos) (LS X.K m (.whl t ss)) := by
  refine ps_mono (ps_while c.own hc hb) fun D σ H w => ?_
  obtain ⟨P, F, env, L, KK, hf, st, w, f⟩ := w
  simp only [wS] at w
  obtain ⟨W, ⟨M0, w0⟩, turn⟩ := w
  refine ⟨fun M σ H => ∃ F env L, Sta X.K P F env σ H L ∧ W M env, ⟨M0, F, env, L, st, w0⟩, ?_⟩
  rintro M σ2 H2 ⟨F2, env2, L2, s2, w2⟩
  refine lt2 s2 (turn M env2 w2) fun b env3 F3 H3 L3 c3 s3 => ?_
  cases b with
  | true => exact ⟨fun σ H => ∃ M', M' < M ∧ ∃ F env L, Sta X.K P F env σ H L ∧ W M' env, fun σ' H' h => h, ls_intro hf s3 (c3.1 rfl) (f.loop fun env σ F H L ⟨M', h1, h2⟩ s => ⟨M', h1, F, env, L, s, h2⟩)⟩
  | false => exact f.nx _ _ _ _ _ (c3.2 rfl) s3
/-- the wishes with one slot more fixed -/
def Par.fixed (P : Par) (σ : LSt) (f : Nat → Bool) : Par := ⟨P.Z, P.H0, P.F0, f, σ⟩
theorem setB_get : ∀ (m : List Bool) (i j : Nat), fxB (setB m i) j = (fxB m j || j == i)
  | [], 0, 0 => rfl
  | [], 0, j + 1 => rfl
  | b :: m, 0, 0 => by simp [setB, fxB]
  | b :: m, 0, j + 1 => by simp [setB, fxB]
  | [], i + 1, 0 => rfl
  | [], i + 1, j + 1 => by
    have h := setB_get [] i j
    simp [setB, fxB] at h ⊢
    exact h
  | b :: m, i + 1, 0 => by simp [setB, fxB]
  | b :: m, i + 1, j + 1 => by
    have h := setB_get m i j
    simp [setB, fxB] at h ⊢
    exact h
theorem tgt_keep {g : G} {i : Nat} (h : inG g i = false) : True := trivial
theorem st_fors {g : G} {i : Nat} {x : Str} {p : Pos} (c : CokS X N sc k) (hv : visB N sc i x = true) (hg : PG X tg (LG X.K (setB m i) g)) (hb : PSs X sts (LSs X.K (setB m i) ss)) : PS X (.For tg (.Name x p) sts [] pos) (LS X.K m (.fors g i ss)) := by
  refine ps_mono (ps_for c.own c.calm (pi_list (vis_ok c.toCok hv)) hg hb (nofold rfl X.env)) fun D σ H w => ?_
  obtain ⟨P, F, env, L, KK, hf, st, w, f⟩ := w
  simp only [wS] at w
  unfold wForS at w
  obtain ⟨W, ⟨M0, w0⟩, turn⟩ := w
  obtain ⟨ds0, e0, _⟩ := turn 0 M0 env w0
  obtain ⟨v, L1, fp, L2, h1, h2, _⟩ := st.sl.getOw e0
  obtain ⟨q, xs, fq, rfl, hr, ho, _⟩ := h2.lst_inv
  refine ⟨_, h1, q, rfl, ⟨xs, SqL.of hr⟩, ?_⟩
  -- the slot is fixed meanwhile
  have fxs : ∀ j, fxB (setB m i) j = true → σ[j]? = σ[j]? := fun _ _ => rfl
  let P' : Par := P.fixed σ (fxB (setB m i))
  have old : ∀ {env2 : PW.Env} {σ2 : LSt} {F2 H2 : Hp} {L2 : List Addr}, Sta X.K P' F2 env2 σ2 H2 L2 → Sta X.K P F2 env2 σ2 H2 L2 := fun {env2 σ2 F2 H2 L2} s => by
    refine s.par s.f0 s.z (fun a z => (s.dis a z).2) fun j hj => ?_
    rw [s.fx j (by show fxB (setB m i) j = true; rw [setB_get]; rw [hf] at hj; rw [hj]; rfl)]
    exact st.fx j hj
  have st' : Sta X.K P' F env σ H L := st.par st.f0 st.z (fun a z => (st.dis a z).2) fun j hj => rfl
  have f' : Fin X.K P' D KK := f.par old rfl
  refine ⟨fun n M σ H => ∃ F env L, Sta X.K P' F env σ H L ∧ W n M env, ⟨M0, F, env, L, st', w0⟩, ?_⟩
  rintro n M σ2 H2 ⟨F2, env2, L2, s2, w2⟩
  obtain ⟨ds, e2, w3⟩ := turn n M env2 w2
  obtain ⟨v2, _, fp2, _, g1, g2, _⟩ := s2.sl.getOw e2
  have fi : P'.fx i = true := by show fxB (setB m i) i = true; rw [setB_get]; simp
  rw [s2.fx i fi] at g1
  have hh : σ[i]? = some (some v2) := g1
  rw [h1] at hh
  injection hh with hh; injection hh with hh; subst hh
  obtain ⟨q2, ys, fq2, hq, hr2, ho2, _⟩ := g2.lst_inv
  cases hq
  have hl := ho2.length
  have sq : SqL X.K H2 q ys := SqL.of hr2
  split at w3
  · rename_i en
    left
    have : ds.length ≤ n := List.getElem?_eq_none_iff.mp en
    exact ⟨⟨ys, sq, by omega⟩, f'.nx _ _ _ _ _ w3 s2⟩
  · rename_i d en
    right
    obtain ⟨y, fy, h3, h4, _⟩ := ho2.get en
    refine ⟨⟨ys, y, sq, h3⟩, fun σ H => ∃ M', M' < M ∧ ∃ F env L, Sta X.K P' F env σ H L ∧ W (n + 1) M' env, fun σ' H' h => h, fun x H' hy => ?_⟩
    obtain ⟨rfl, hy⟩ := hy
    have := hy ys sq
    rw [h3] at this; injection this with this; subst this
    refine ⟨P', F2, env2, L2, d, _, rfl, s2, (h4.leaf_inv w3.1).1, w3.2, fun env3 σ3 L3 c3 s3 => ?_⟩
    exact ls_intro rfl s3 c3 (f'.loop fun env σ F H L ⟨M', z1, z2⟩ s => ⟨M', z1, F, env, L, s, z2⟩)

/-! ### lists changed by place -/
theorem Sta.change {K : Fg} {P : Par} {F H : Hp} {env : PW.Env} {σ : LSt} {L fp : List Addr} {i : Nat} {ds : List D} (s : Sta K P F env σ H L) (e : env[i]? = some (.ow (.lst ds))) (nd : (L ++ fp).Nodup) (dis : ∀ a ∈ fp, F a = none ∧ ¬ P.Z a) (th : ∀ a ∈ fp, ∃ o, H a = some o) :
    ∃ q xs, σ[i]? = some (some (.ref q)) ∧ H q = some (.lst xs) ∧ ds.length = xs.length ∧ ∀ ds' xs', (∀ fq, OwnL K F H ds xs fq → (fq ++ fp).Nodup → ∃ fr, OwnL K F H ds' xs' fr ∧ fr.Nodup ∧ ∀ a ∈ fr, a ∈ fq ++ fp) →
      ∃ L', Sta K P F (env.set i (.ow (.lst ds'))) σ (L2.upd H q (.lst xs')) L' := by
  obtain ⟨v, fp0, L1, h1, h2, h3, h4⟩ := s.take e
  obtain ⟨q, xs, fq, rfl, hr, ho, rfl⟩ := h2.lst_inv
  have nd1 := h4.nodup_iff.mp s.nd
  have m1 := List.nodup_append.mp nd1
  have qfq : q ∉ fq := (List.nodup_cons.mp m1.2.1).1
  have qL : q ∈ L := h4.mem_iff.mpr (List.mem_append_right _ List.mem_cons_self)
  have qfp : q ∉ fp := fun z => (List.nodup_append.mp nd).2.2 q qL q z rfl
  refine ⟨q, xs, h1, hr, ho.length, fun ds' xs' mk => ?_⟩
  have nfq : (fq ++ fp).Nodup := List.nodup_append.mpr ⟨(List.nodup_cons.mp m1.2.1).2, (List.nodup_append.mp nd).2.1, fun a z b w => (List.nodup_append.mp nd).2.2 a (h4.mem_iff.mpr (List.mem_append_right _ (List.mem_cons_of_mem _ z))) b w⟩
  obtain ⟨fr, o', nr, mr⟩ := mk fq ho nfq
  have qfr : q ∉ fr := fun z => (List.mem_append.mp (mr q z)).elim qfq qfp
  have s2 : Sta K P F (env.set i .no) σ (L2.upd H q (.lst xs')) L1 := h3.upd (fun z => m1.2.2 q z q List.mem_cons_self rfl) (s.dis q qL).1 (s.dis q qL).2
  have memL : ∀ a ∈ fq, a ∈ L := fun a z => h4.mem_iff.mpr (List.mem_append_right _ (List.mem_cons_of_mem _ z))
  have hi : i < env.length := (List.getElem?_eq_some_iff.mp e).1
  obtain ⟨L', s3, _⟩ := s2.give (i := i) (by rw [List.length_set]; exact hi) h1 (.lst (upd_same (o := .lst xs')) (o'.mono (Ext.refl _) fun a z => upd_ne (b := a) fun (e : a = q) => qfr (e ▸ z))) (by
      refine List.nodup_append.mpr ⟨m1.1, List.nodup_cons.mpr ⟨qfr, nr⟩, fun a z b w e => ?_⟩
      subst e
      rcases List.mem_cons.mp w with w | w
      · exact m1.2.2 a z q List.mem_cons_self w
      · rcases List.mem_append.mp (mr a w) with w | w
        · exact m1.2.2 a z a (List.mem_cons_of_mem _ w) rfl
        · exact (List.nodup_append.mp nd).2.2 a (h4.mem_iff.mpr (List.mem_append_left _ z)) a w rfl) fun a w => by
      rcases List.mem_cons.mp w with w | w
      · subst w; exact s.dis a qL
      · rcases List.mem_append.mp (mr a w) with w | w
        · exact s.dis a (memL a w)
        · exact dis a w
  rw [List.set_set] at s3
  exact ⟨L', s3⟩
theorem ownL_set {K : Fg} {F H : Hp} {d : D} {v : V} {fp : List Addr} (nd0 : d.nd = true) (o : Own K F H d v fp) : ∀ {ds : List D} {xs : List V} {fq : List Addr} {j : Nat}, OwnL K F H ds xs fq → j < ds.length → (fq ++ fp).Nodup → ∃ fr, OwnL K F H (ds.set j d) (xs.set j v) fr ∧ fr.Nodup ∧ ∀ a ∈ fr, a ∈ fq ++ fp
  | _, _, _, _, .nil, h, _ => by simp at h
  | _, _, _, 0, .cons (fp := f1) (fq := f2) h t, _, nd => by
    have n := List.nodup_append.mp nd
    have n1 := List.nodup_append.mp n.1
    refine ⟨fp ++ f2, .cons (n := nd0) o t, List.nodup_append.mpr ⟨n.2.1, n1.2.1, fun a z b w e => n.2.2 b (List.mem_append_right _ w) a z e.symm⟩, fun a z => ?_⟩
    simp only [List.mem_append] at z ⊢
    rcases z with z | z
    · exact .inr z
    · exact .inl (.inr z)
  | _, _, _, j + 1, .cons (n := n5) (fp := f1) (fq := f2) h t, hj, nd => by
    have n := List.nodup_append.mp nd
    have n1 := List.nodup_append.mp n.1
    have nd2 : (f2 ++ fp).Nodup := List.nodup_append.mpr ⟨n1.2.1, n.2.1, fun a z b w e => n.2.2 a (List.mem_append_right _ z) b w e⟩
    obtain ⟨fr, h1, h2, h3⟩ := ownL_set nd0 o t (by simpa using hj) nd2
    refine ⟨f1 ++ fr, .cons (n := n5) h h1, List.nodup_append.mpr ⟨n1.1, h2, fun a z b w e => ?_⟩, fun a z => ?_⟩
    · subst e
      rcases List.mem_append.mp (h3 a w) with w | w
      · exact n1.2.2 a z a w rfl
      · exact n.2.2 a (List.mem_append_left _ z) a w rfl
    · simp only [List.mem_append] at z ⊢
      rcases z with z | z
      · exact .inl (.inl z)
      · have := h3 a z
        simp only [List.mem_append] at this
        rcases this with w | w
        · exact .inl (.inr w)
        · exact .inr w
theorem st_app {i : Nat} {x : Str} {p ap cp : Pos} (c : CokS X N sc k) (hv : visB N sc i x = true) (hl : (ap.endLine == cp.line) = true) (hs : okShape ea = true) (ha : PE X ea (LE X.K a)) :
    PS X (.Expr (.Call (.Attribute (.Name x p) "append" ap) [ea] [] cp) pos) (LS X.K m (.app i a)) := by
  have hp : PA X [ea] (tCons (LE X.K a) tNil) := pa_cons ha pa_nil (star1 hs _ _)
  have few : ((backTo cp (starEach [ea] X.env)).all (fun x => !x.1) && (backToKw cp (keywordEach [] X.env)).all (fun x => x.1.isSome) && decide ([ea].length + ([] : List Keyword).length + (if ([] : List Keyword).isEmpty then 0 else 1) < 30)) = true := by
    rw [star1 hs]; rfl
  refine ps_mono (ps_expr (pe_bm PySem.F.plainAttrs_list PySem.F.slot_list_append PySem.F.type_list_append mt_append (vis_ok c.toCok hv) hp rfl few hl (star1 hs _ _) rfl) rfl) fun D σ H w => ?_
  obtain ⟨P, F, env, L, KK, hf, st, w, f⟩ := w
  simp only [wS] at w
  obtain ⟨s0, e0, w⟩ := getK_iff.mp w
  split at w
  · rename_i ds0
    obtain ⟨v, L1, fp, L2, h1, h2, _⟩ := st.sl.getOw e0
    obtain ⟨q, xs, fq, rfl, hr, ho, _⟩ := h2.lst_inv
    refine ⟨_, h1, .inl ⟨rfl, xs, SqL.of hr⟩, P, F, env, L, _, st, w, fun r e1 y F1 H1 L1 fp c po _ => ?_⟩
    obtain ⟨s1, e1', c⟩ := getK_iff.mp c
    split at c
    · rename_i ds
      obtain ⟨hz, c⟩ := c
      obtain ⟨d, o, nn, c⟩ := lstK1 po.rr c
      obtain ⟨hi, c⟩ := setK_iff.mp c
      obtain ⟨q2, xs2, g1, g2, g3, mk⟩ := po.st.change e1' po.nd po.dis po.rr.there
      rw [h1] at g1
      injection g1 with g1; injection g1 with g1; injection g1 with g1; subst g1
      obtain ⟨L', s'⟩ := mk (ds ++ [d]) (xs2 ++ [y]) fun fq ho nq => ⟨fq ++ (fp ++ []), ho.append (.cons (n := nn) o .nil), by simpa using nq, fun a z => by simpa using z⟩
      exact ⟨q, xs2, y, rfl, rfl, g2, by rw [← g3]; exact hz, f.nx _ _ _ _ _ c s'⟩
    · exact c.elim
  · exact w.elim
theorem asgSub {o i : Expr} {p : Pos} (h : okShape i = true) (env : PySem.Env) : ∀ v, assign (.Subscript o i p) env v = (do
      let ov ← holding [v] (eval o env)
      let iv ← holding [v, ov] (eval i env)
      standAt p
      holding [v, ov, iv] (setItem ov iv v)
      release [v, ov, iv] []) := by
  intro v
  cases i <;> first | rfl | cases h
theorem st_set {i : Nat} {x : Str} {p p2 : Pos} (c : CokS X N sc k) (hv : visB N sc i x = true) (hs : compLike eb = false) (hi : okShape ea = true) (ha : PE X ea (LE X.K a)) (hb : PE X eb (LE X.K b)) :
    PS X (.Assign [.Subscript (.Name x p) ea p2] eb pos) (LS X.K m (.set i a b)) := by
  have sw : swapsWithSole [.Subscript (.Name x p) ea p2] eb pos.line X.env = pure false := noswap hs (some (.Subscript (.Name x p) ea p2)) pos.line X.env
  refine ps_mono (ps_asg hb (pg_sub (vis_ok c.toCok hv) ha set_list (asgSub hi X.env)) sw rfl rfl) fun D σ H w => ?_
  obtain ⟨P, F, env, L, KK, hf, st, w, f⟩ := w
  simp only [wS] at w
  obtain ⟨s0, e0, w⟩ := getK_iff.mp w
  split at w
  · rename_i ds0
    obtain ⟨v, L1, fp0, L2, h1, h2, _⟩ := st.sl.getOw e0
    have q : LE X.K b σ H fun y H1 => LE X.K a σ H1 fun z H2 => rSetL v z y H2 fun H3 => D.nx σ H3 := by
      refine le2 st w fun r u env' y z F' H' L' fp fq c st' r1 r2 nd dis q => ?_
      split at c
      · rename_i zz
        obtain ⟨r2, hfq⟩ := r2
        subst hfq
        cases r2
        obtain ⟨s1, e1', c⟩ := getK_iff.mp c
        split at c
        · rename_i ds
          obtain ⟨j, hj, c⟩ := c
          have r1' : RRs X.K F' H' σ [r] [y] (fp ++ []) := .cons r1.weak .nil
          obtain ⟨dd, o, c⟩ := lstK_ok r1' c
          rw [List.append_nil] at o
          obtain ⟨d, rfl, o2⟩ := own1 o
          obtain ⟨hi, c⟩ := setK_iff.mp c
          have nd' : (L' ++ fp).Nodup := by simpa using nd
          obtain ⟨q2, xs2, g1, g2, g3, mk⟩ := st'.change e1' nd' (fun a z => dis a (by simpa using z)) r1.there
          rw [h1] at g1
          injection g1 with g1; injection g1 with g1; subst g1
          have hjl : j < ds.length := (ixN_seq hj).2.1
          obtain ⟨L3, s'⟩ := mk (ds.set j d) (xs2.set j y) fun fq ho nq => ownL_set (all_get (i := 0) o.nd rfl) o2 ho hjl nq
          exact ⟨q2, xs2, _, j, rfl, rfl, g2, by rw [← g3]; exact hj, f.nx _ _ _ _ _ c s'⟩
        · exact c.elim
      · exact c.elim
    refine (show LE X.K b σ H fun y H1 => tVar i σ H1 fun o H2 => LE X.K a σ H2 fun z H3 => rSetL o z y H3 fun H4 => D.nx σ H4 from ?_)
    obtain ⟨P2, F2, env2, L2, C2, s2, w2, k2⟩ := q
    exact ⟨P2, F2, env2, L2, C2, s2, w2, fun r e v F' H' L' fp c po q => ⟨_, h1, k2 r e v F' H' L' fp c po q⟩⟩
  · exact w.elim
/-- an item that is a list, taken out of its row -/
theorem ownL_split {K : Fg} {F H : Hp} {es : List D} : ∀ {ds : List D} {xs : List V} {fq : List Addr} {j : Nat}, OwnL K F H ds xs fq → ds[j]? = some (.lst es) → ∃ A B q2 ys f2, xs[j]? = some (.ref q2) ∧ H q2 = some (.lst ys) ∧ OwnL K F H es ys f2 ∧ fq = A ++ (q2 :: f2) ++ B ∧
    ∀ (H' : Hp) (d' : D) (fr : List Addr), (∀ a ∈ A ++ B, H' a = H a) → d'.nd = true → Own K F H' d' (.ref q2) fr → OwnL K F H' (ds.set j d') xs (A ++ fr ++ B)
  | _, _, _, _, .nil, e => by simp at e
  | _, _, _, 0, .cons (fp := f1) (fq := fB) h t, e => by
    simp at e; subst e
    obtain ⟨q2, ys, f2, rfl, h1, h2, rfl⟩ := h.lst_inv
    refine ⟨[], fB, q2, ys, f2, rfl, h1, h2, by simp, fun H' d' fr k n' o => ?_⟩
    exact OwnL.cons (n := n') o (t.mono (Ext.refl _) fun a z => k a (by simpa using z))
  | _, _, _, j + 1, .cons (n := n5) (fp := f1) (fq := fB) h t, e => by
    obtain ⟨A, B, q2, ys, f2, h1, h2, h3, rfl, h5⟩ := ownL_split (j := j) t (by simpa using e)
    refine ⟨f1 ++ A, B, q2, ys, f2, by simpa using h1, h2, h3, by simp [List.append_assoc], fun H' d' fr k n' o => ?_⟩
    have := OwnL.cons (n := n5) (h.mono (Ext.refl _) fun a z => k a (by simp only [List.mem_append]; exact .inl (.inl z))) (h5 H' d' fr (fun a z => k a (by simp only [List.mem_append] at z ⊢; rcases z with z | z; exact .inl (.inr z); exact .inr z)) n' o)
    simpa [List.append_assoc] using this
theorem nodup_mid {A B M N fp : List Addr} (h : (A ++ M ++ B ++ fp).Nodup) (hn : N.Nodup) (hm : ∀ a ∈ N, a ∈ M ++ fp) : (A ++ N ++ B).Nodup ∧ ∀ a ∈ A ++ N ++ B, a ∈ A ++ M ++ B ++ fp := by
  have n0 := List.nodup_append.mp h
  have n1 := List.nodup_append.mp n0.1
  have n2 := List.nodup_append.mp n1.1
  have c1 : ∀ a ∈ A, a ∉ N := fun a z w => by
    rcases List.mem_append.mp (hm a w) with w | w
    · exact n2.2.2 a z a w rfl
    · exact n0.2.2 a (List.mem_append_left _ (List.mem_append_left _ z)) a w rfl
  have c2 : ∀ a ∈ B, a ∉ N := fun a z w => by
    rcases List.mem_append.mp (hm a w) with w | w
    · exact n1.2.2 a (List.mem_append_right _ w) a z rfl
    · exact n0.2.2 a (List.mem_append_right _ z) a w rfl
  refine ⟨List.nodup_append.mpr ⟨List.nodup_append.mpr ⟨n2.1, hn, fun a z b w e => c1 a z (e ▸ w)⟩, n1.2.1, fun a z b w e => ?_⟩, fun a z => ?_⟩
  · subst e
    rcases List.mem_append.mp z with z | z
    · exact n1.2.2 a (List.mem_append_left _ z) a w rfl
    · exact c2 a w z
  · simp only [List.mem_append] at z ⊢
    rcases z with (z | z) | z
    · exact .inl (.inl (.inl z))
    · have := hm a z
      simp only [List.mem_append] at this
      rcases this with w | w
      · exact .inl (.inl (.inr w))
      · exact .inr w
    · exact .inl (.inr z)
theorem Sta.change2 {K : Fg} {P : Par} {F H : Hp} {env : PW.Env} {σ : LSt} {L fp : List Addr} {i j : Nat} {ds es : List D} (s : Sta K P F env σ H L) (e : env[i]? = some (.ow (.lst ds))) (hj : ds[j]? = some (.lst es)) (nd : (L ++ fp).Nodup) (dis : ∀ a ∈ fp, F a = none ∧ ¬ P.Z a) (th : ∀ a ∈ fp, ∃ o, H a = some o) :
    ∃ q xs q2 ys, σ[i]? = some (some (.ref q)) ∧ H q = some (.lst xs) ∧ ds.length = xs.length ∧ xs[j]? = some (.ref q2) ∧ H q2 = some (.lst ys) ∧ es.length = ys.length ∧ ∀ es' ys', (∀ fq, OwnL K F H es ys fq → (fq ++ fp).Nodup → ∃ fr, OwnL K F H es' ys' fr ∧ fr.Nodup ∧ ∀ a ∈ fr, a ∈ fq ++ fp) →
      ∃ L', Sta K P F (env.set i (.ow (.lst (ds.set j (.lst es'))))) σ (L2.upd H q2 (.lst ys')) L' := by
  obtain ⟨v, fp0, L1, h1, h2, h3, h4⟩ := s.take e
  obtain ⟨q, xs, fq, rfl, hr, ho, rfl⟩ := h2.lst_inv
  obtain ⟨A, B, q2, ys, f2, g1, g2, g3, rfl, g5⟩ := ownL_split ho hj
  have nd1 := h4.nodup_iff.mp s.nd
  have m1 := List.nodup_append.mp nd1
  have inL : ∀ a ∈ q :: (A ++ (q2 :: f2) ++ B), a ∈ L := fun a z => h4.mem_iff.mpr (List.mem_append_right _ z)
  have qn := List.nodup_cons.mp m1.2.1
  have all : (A ++ (q2 :: f2) ++ B ++ fp).Nodup := List.nodup_append.mpr ⟨qn.2, (List.nodup_append.mp nd).2.1, fun a z b w => (List.nodup_append.mp nd).2.2 a (inL a (List.mem_cons_of_mem _ z)) b w⟩
  have n0 := List.nodup_append.mp all
  have n1 := List.nodup_append.mp n0.1
  have n2 := List.nodup_append.mp n1.1
  have n3 := List.nodup_cons.mp n2.2.1
  have q2in : q2 ∈ q :: (A ++ (q2 :: f2) ++ B) := by simp
  have q2fp : q2 ∉ fp := fun z => n0.2.2 q2 (by simp) q2 z rfl
  have q2A : ∀ a ∈ A ++ B, a ≠ q2 := fun a z e => by
    subst e
    rcases List.mem_append.mp z with z | z
    · exact n2.2.2 a z a List.mem_cons_self rfl
    · exact n1.2.2 a (by simp) a z rfl
  refine ⟨q, xs, q2, ys, h1, hr, ho.length, g1, g2, g3.length, fun es' ys' mk => ?_⟩
  obtain ⟨fr, o', nr, mr⟩ := mk f2 g3 (List.nodup_append.mpr ⟨n3.2, n0.2.1, fun a z b w => n0.2.2 a (by simp [z]) b w⟩)
  have q2fr : q2 ∉ fr := fun z => (List.mem_append.mp (mr q2 z)).elim n3.1 q2fp
  have s2 : Sta K P F (env.set i .no) σ (L2.upd H q2 (.lst ys')) L1 := h3.upd (fun z => m1.2.2 q2 z q2 q2in rfl) (s.dis q2 (inL _ q2in)).1 (s.dis q2 (inL _ q2in)).2
  have hi : i < env.length := (List.getElem?_eq_some_iff.mp e).1
  have oNew : Own K F (L2.upd H q2 (.lst ys')) (.lst es') (.ref q2) (q2 :: fr) := .lst (upd_same (o := .lst ys')) (o'.mono (Ext.refl _) fun a z => upd_ne (b := a) fun (e : a = q2) => q2fr (e ▸ z))
  have oL := g5 (L2.upd H q2 (.lst ys')) (.lst es') (q2 :: fr) (fun a z => upd_ne (q2A a z)) rfl oNew
  obtain ⟨nm, mm⟩ := nodup_mid (N := q2 :: fr) all (List.nodup_cons.mpr ⟨q2fr, nr⟩) fun a z => by
    rcases List.mem_cons.mp z with z | z
    · subst z; simp
    · rcases List.mem_append.mp (mr a z) with w | w
      · simp [w]
      · simp [w]
  have qq2 : q ≠ q2 := fun e => qn.1 (by rw [e]; simp)
  have qfp : q ∉ fp := fun z => (List.nodup_append.mp nd).2.2 q (inL q List.mem_cons_self) q z rfl
  have root : Own K F (L2.upd H q2 (.lst ys')) (.lst (ds.set j (.lst es'))) (.ref q) (q :: (A ++ (q2 :: fr) ++ B)) := .lst (by rw [upd_ne qq2]; exact hr) oL
  obtain ⟨L', s3, _⟩ := s2.give (i := i) (by rw [List.length_set]; exact hi) h1 root (by
      refine List.nodup_append.mpr ⟨m1.1, List.nodup_cons.mpr ⟨fun z => (List.mem_append.mp (mm q z)).elim qn.1 qfp, nm⟩, fun a z b w e => ?_⟩
      subst e
      rcases List.mem_cons.mp w with w | w
      · exact m1.2.2 a z q List.mem_cons_self w
      · rcases List.mem_append.mp (mm a w) with w | w
        · exact m1.2.2 a z a (List.mem_cons_of_mem _ w) rfl
        · exact (List.nodup_append.mp nd).2.2 a (h4.mem_iff.mpr (List.mem_append_left _ z)) a w rfl) fun a w => by
      rcases List.mem_cons.mp w with w | w
      · subst w; exact s.dis a (inL a List.mem_cons_self)
      · rcases List.mem_append.mp (mm a w) with w | w
        · exact s.dis a (inL a (List.mem_cons_of_mem _ w))
        · exact dis a w
  rw [List.set_set] at s3
  exact ⟨L', s3⟩
theorem RQ.pushed {K : Fg} {P : Par} {F H F2 H2 : Hp} {σ σ2 : LSt} {r : R} {v : V} {fp L2 : List Addr} {env2 : PW.Env} (h : RQ K F H σ false r v fp) (s : Sta K (P.push fp H F) F2 env2 σ2 H2 L2) (hs : ∀ i, r = .rf i → σ2[i]? = σ[i]?) : RQ K F2 H2 σ2 false r v fp := by
  cases r with
  | va d => exact ⟨h.1.mono s.f0, h.2⟩
  | ow d => exact Own.mono (K := K) s.f0 h fun a z => (s.z a (.inr z)).1
  | rf i => exact ⟨(hs i rfl).trans h.1, h.2⟩
  | al d => exact ⟨fun e => (nomatch e), h.2⟩
theorem Sta.pushQ {K : Fg} {P : Par} {F H : Hp} {σ : LSt} {env : PW.Env} {r : R} {v : V} {fp L : List Addr} (s : Sta K P F env σ H L) (rr : RQ K F H σ false r v fp) (nd : (L ++ fp).Nodup) (dis : ∀ a ∈ fp, F a = none ∧ ¬ P.Z a) : Sta K (P.push fp H F) F env σ H L :=
  s.par (Ext.refl _) (fun a z => by
    rcases z with z | z
    · exact ⟨rfl, (s.z a z).2⟩
    · obtain ⟨xs, e⟩ := rr.there a z
      exact ⟨rfl, by rw [e]; simp, (dis a z).1⟩) (fun a z => by
    rintro (w | w)
    · exact (s.dis a z).2 w
    · exact (List.nodup_append.mp nd).2.2 a z a w rfl) s.fx
theorem st_setP {i : Nat} {x : Str} {p p2 p3 : Pos} {e : E} {ee : Expr} (c : CokS X N sc k) (hv : visB N sc i x = true) (hs : compLike ee = false) (hi : okShape ea = true) (hk : okShape eb = true) (ha : PE X ea (LE X.K a)) (hb : PE X eb (LE X.K b)) (he : PE X ee (LE X.K e)) :
    PS X (.Assign [.Subscript (.Subscript (.Name x p) ea p2) eb p3] ee pos) (LS X.K m (.setP i a b e)) := by
  have sw : swapsWithSole [.Subscript (.Subscript (.Name x p) ea p2) eb p3] ee pos.line X.env = pure false := noswap hs (some (.Subscript (.Subscript (.Name x p) ea p2) eb p3)) pos.line X.env
  refine ps_mono (ps_asg he (pg_sub (pe_ix ix_list (vis_ok c.toCok hv) ha (plainIx hi)) hb set_list (asgSub hk X.env)) sw rfl rfl) fun D σ H w => ?_
  obtain ⟨P, F, env, L, KK, hf, st, w, f⟩ := w
  simp only [wS] at w
  obtain ⟨s0, e0, w⟩ := getK_iff.mp w
  split at w
  · rename_i ds0
    obtain ⟨v, L1, fp0, L2, h1, h2, _⟩ := st.sl.getOw e0
    have q : LE X.K e σ H fun y H1 => LE X.K a σ H1 fun z H2 => rIxL X.K v z H2 fun sub H3 => LE X.K b σ H3 fun u H4 => rSetL sub u y H4 fun H5 => D.nx σ H5 := by
      refine le2 st w fun r u env' y z F' H' L' fp fq c st' r1 r2 nd dis q => ?_
      split at c
      · rename_i za
        obtain ⟨r2, hfq⟩ := r2
        subst hfq
        cases r2
        obtain ⟨s1, e1', c⟩ := getK_iff.mp c
        split at c
        · rename_i ds
          obtain ⟨j, es, ⟨hj, hes⟩, c⟩ := c
          have nd' : (L' ++ fp).Nodup := by simpa using nd
          have dis' : ∀ a ∈ fp, F' a = none ∧ ¬ P.Z a := fun a z => dis a (by simpa using z)
          obtain ⟨q1, xs, q2, ys, g1, g2, g3, g4, g5, _, _⟩ := st'.change2 e1' hes nd' dis' r1.there
          rw [h1] at g1
          injection g1 with g1; injection g1 with g1; subst g1
          refine ⟨q1, xs, za, .ref q2, rfl, rfl, SqL.of g2, atI_of g3 hj g4, ?_⟩
          refine ⟨P.push fp H' F', F', env', L', _, st'.pushQ r1.weak nd' dis', c, fun uk env3 u F2 H2 L2 fr c po qq => ?_⟩
          split at c
          · rename_i zk
            obtain ⟨hq, c⟩ := c
            have hx := qq hq
            have st3 := st'.pop po.st
            obtain ⟨r3, hfr⟩ := po.rr
            subst hfr
            cases r3
            obtain ⟨s3, e3, c⟩ := getK_iff.mp c
            split at c
            · rename_i ds3
              obtain ⟨es3, j2, ⟨he3, hj2⟩, c⟩ := c
              have r1' : RRs X.K F2 H2 σ [r] [y] (fp ++ []) := .cons (r1.weak.pushed po.st fun _ _ => rfl) .nil
              obtain ⟨dd, o, c⟩ := lstK_ok r1' c
              rw [List.append_nil] at o
              obtain ⟨d, rfl, o2⟩ := own1 o
              obtain ⟨hi, c⟩ := setK_iff.mp c
              have nd3 : (L2 ++ fp).Nodup := List.nodup_append.mpr ⟨po.st.nd, (List.nodup_append.mp nd').2.1, fun a z b w e => (po.st.dis a z).2 (.inr (e ▸ w))⟩
              have dis3 : ∀ a ∈ fp, F2 a = none ∧ ¬ P.Z a := fun a z => ⟨(po.st.z a (.inr z)).2.2, (dis' a z).2⟩
              obtain ⟨q4, xs4, q5, ys5, k1, k2, k3, k4, k5, k6, mk⟩ := st3.change2 e3 he3 nd3 dis3 fun a z => let ⟨xs, h⟩ := r1.there a z; ⟨xs, hx _ _ h⟩
              rw [h1] at k1
              injection k1 with k1; injection k1 with k1; injection k1 with k1; subst k1
              rw [hx _ _ g2] at k2
              injection k2 with k2; injection k2 with k2; subst k2
              rw [g4] at k4
              injection k4 with k4; injection k4 with k4; subst k4
              have hjl : j2 < es3.length := (ixN_seq hj2).2.1
              obtain ⟨L3, s'⟩ := mk (es3.set j2 d) (ys5.set j2 y) fun fq ho nq => ownL_set (all_get (i := 0) o.nd rfl) o2 ho hjl nq
              exact ⟨q2, ys5, _, j2, rfl, rfl, k5, by rw [← k6]; exact hj2, f.nx _ _ _ _ _ c s'⟩
            · exact c.elim
          · exact c.elim
        · exact c.elim
      · exact c.elim
    refine (show LE X.K e σ H fun y H1 => tVar i σ H1 fun o H2 => LE X.K a σ H2 fun z H3 => rIxL X.K o z H3 fun sub H3 => LE X.K b σ H3 fun u H4 => rSetL sub u y H4 fun H5 => D.nx σ H5 from ?_)
    obtain ⟨P2, F2, env2, L2, C2, s2, w2, k2⟩ := q
    exact ⟨P2, F2, env2, L2, C2, s2, w2, fun r e v F' H' L' fp c po q => ⟨_, h1, k2 r e v F' H' L' fp c po q⟩⟩
  · exact w.elim
end
end PW

namespace PW
open PySem L2 PyProof.Rows
/-! ### inversion -/
section
variable {N : List Str} {sc : Scope} {m : List Bool} {x : Expr}
theorem inv_v (i : Nat) (h : cE N sc (.v i) x = true) : ∃ y p, x = .Name y p ∧ visB N sc i y = true := by
  cases x with
  | Name y p => exact ⟨y, p, rfl, by simpa only [cE] using h⟩
  | _ => exfalso; revert h; simp only [cE]; decide
theorem inv_mv (i : Nat) (h : cE N sc (.mv i) x = true) : ∃ y p, x = .Name y p ∧ visB N sc i y = true := by
  cases x with
  | Name y p => exact ⟨y, p, rfl, by simpa only [cE] using h⟩
  | _ => exfalso; revert h; simp only [cE]; decide
theorem inv_gl (y : Str) (d : D) (h : cE N sc (.gl y d) x = true) : ∃ p, x = .Name y p ∧ glB sc y = true := by
  cases x with
  | Name y p =>
    simp only [cE, Bool.and_eq_true, decide_eq_true_eq] at h
    obtain ⟨rfl, h⟩ := h
    exact ⟨p, rfl, h⟩
  | _ => exfalso; revert h; simp only [cE]; decide
theorem inv_op (o : Operator) (a b : E) (h : cE N sc (.op o a b) x = true) : ∃ l r p, x = .BinOp l o r p ∧ cE N sc a l = true ∧ cE N sc b r = true := by
  cases x with
  | BinOp l o' r p =>
    simp only [cE, Bool.and_eq_true, decide_eq_true_eq] at h
    obtain ⟨⟨rfl, h1⟩, h2⟩ := h
    exact ⟨l, r, p, rfl, h1, h2⟩
  | _ => exfalso; revert h; simp only [cE]; decide
theorem inv_ite (t : T) (a b : E) (h : cE N sc (.ite t a b) x = true) : ∃ c l r p, x = .IfExp c l r p ∧ cT N sc t c = true ∧ cE N sc a l = true ∧ cE N sc b r = true := by
  cases x with
  | IfExp c l r p =>
    simp only [cE, Bool.and_eq_true] at h
    exact ⟨c, l, r, p, rfl, h.1.1, h.1.2, h.2⟩
  | _ => exfalso; revert h; simp only [cE]; decide
theorem inv_tup (es : Es) (h : cE N sc (.tup es) x = true) : ∃ xs kk p, x = .Tuple xs kk p ∧ cEs N sc es xs = true := by
  cases x with
  | Tuple xs kk p => exact ⟨xs, kk, p, rfl, by simpa only [cE] using h⟩
  | _ => exfalso; revert h; simp only [cE]; decide
theorem inv_lst (es : Es) (h : cE N sc (.lst es) x = true) : ∃ xs p, x = .List xs p ∧ cEs N sc es xs = true := by
  cases x with
  | List xs p => exact ⟨xs, p, rfl, by simpa only [cE] using h⟩
  | _ => exfalso; revert h; simp only [cE]; decide
theorem inv_non  (h : cE N sc (.non) x = true) : ∃ k p, x = .Constant .none k p := by
  cases x with
  | Constant c k p =>
    cases c with
    | none => exact ⟨k, p, rfl⟩
    | _ => exfalso; revert h; simp only [cE]; decide
  | _ => exfalso; revert h; simp only [cE]; decide
theorem inv_bl (b : Bool) (h : cE N sc (.bl b) x = true) : ∃ k p, x = .Constant (.bool b) k p := by
  cases x with
  | Constant c k p =>
    cases c with
    | bool y =>
      simp only [cE, decide_eq_true_eq] at h
      subst h
      exact ⟨k, p, rfl⟩
    | _ => exfalso; revert h; simp only [cE]; decide
  | _ => exfalso; revert h; simp only [cE]; decide
theorem inv_int (z : Int) (h : cE N sc (.int z) x = true) : ∃ k p, x = .Constant (.int z) k p := by
  cases x with
  | Constant c k p =>
    cases c with
    | int y =>
      simp only [cE, decide_eq_true_eq] at h
      subst h
      exact ⟨k, p, rfl⟩
    | _ => exfalso; revert h; simp only [cE]; decide
  | _ => exfalso; revert h; simp only [cE]; decide
theorem inv_str (s : List Nat) (h : cE N sc (.str s) x = true) : ∃ k p, x = .Constant (.str (tx s)) k p := by
  cases x with
  | Constant c k p =>
    cases c with
    | str y =>
      simp only [cE, decide_eq_true_eq] at h
      subst h
      exact ⟨k, p, by cases y; rfl⟩
    | _ => exfalso; revert h; simp only [cE]; decide
  | _ => exfalso; revert h; simp only [cE]; decide
theorem inv_neg (a : E) (h : cE N sc (.neg a) x = true) : ∃ l p, x = .UnaryOp .USub l p ∧ cE N sc a l = true := by
  cases x with
  | UnaryOp o l p =>
    cases o with
    | USub => exact ⟨l, p, rfl, by simpa only [cE] using h⟩
    | _ => exfalso; revert h; simp only [cE]; decide
  | _ => exfalso; revert h; simp only [cE]; decide
theorem inv_nt (a : E) (h : cE N sc (.nt a) x = true) : ∃ l p, x = .UnaryOp .Not l p ∧ cE N sc a l = true := by
  cases x with
  | UnaryOp o l p =>
    cases o with
    | Not => exact ⟨l, p, rfl, by simpa only [cE] using h⟩
    | _ => exfalso; revert h; simp only [cE]; decide
  | _ => exfalso; revert h; simp only [cE]; decide
theorem inv_cmp (o : CmpOp) (a b : E) (h : cE N sc (.cmp o a b) x = true) : ∃ l r p, x = .Compare l [o] [r] p ∧ cE N sc a l = true ∧ cE N sc b r = true := by
  cases x with
  | Compare l ops rs p =>
    match ops, rs, h with
    | [o'], [r], h =>
      simp only [cE, Bool.and_eq_true, decide_eq_true_eq] at h
      obtain ⟨⟨rfl, h1⟩, h2⟩ := h
      exact ⟨l, r, p, rfl, h1, h2⟩
    | [], _, h => simp only [cE] at h; cases h
    | _ :: _ :: _, _, h => simp only [cE] at h; cases h
    | [_], [], h => simp only [cE] at h; cases h
    | [_], _ :: _ :: _, h => simp only [cE] at h; cases h
  | _ => exfalso; revert h; simp only [cE]; decide
theorem inv_ix (a b : E) (h : cE N sc (.ix a b) x = true) : ∃ l r p, x = .Subscript l r p ∧ cE N sc a l = true ∧ cE N sc b r = true := by
  cases x with
  | Subscript l r p =>
    simp only [cE, Bool.and_eq_true] at h
    exact ⟨l, r, p, rfl, h.1, h.2⟩
  | _ => exfalso; revert h; simp only [cE]; decide
theorem inv_sl (a : E) (lo hi : OE) (h : cE N sc (.sl a lo hi) x = true) : ∃ l u w p q, x = .Subscript l (.Slice u w none p) q ∧ cE N sc a l = true ∧ cO N sc lo u = true ∧ cO N sc hi w = true := by
  cases x with
  | Subscript l r q =>
    cases r with
    | Slice u w st p =>
      cases st with
      | none =>
        simp only [cE, Bool.and_eq_true] at h
        exact ⟨l, u, w, p, q, rfl, h.1.1, h.1.2, h.2⟩
      | some _ => simp only [cE] at h; cases h
    | _ => exfalso; revert h; simp only [cE]; decide
  | _ => exfalso; revert h; simp only [cE]; decide
theorem inv_call (f : Str) (sp : PSp) (m : List Bool) (es : Es) (h : cE N sc (.call f sp m es) x = true) : ∃ p xs q, x = .Call (.Name f p) xs [] q ∧ glB sc f = true ∧ cEs N sc es xs = true := by
  cases x with
  | Call g xs ks q =>
    cases ks with
    | nil =>
      cases g with
      | Name g p =>
        simp only [cE, Bool.and_eq_true, decide_eq_true_eq] at h
        obtain ⟨⟨rfl, h1⟩, h2⟩ := h
        exact ⟨p, xs, q, rfl, h1, h2⟩
      | _ => exfalso; revert h; simp only [cE]; decide
    | cons _ _ => cases g <;> (simp only [cE] at h; cases h)
  | _ => exfalso; revert h; simp only [cE]; decide
theorem inv_mt (m : Mt) (o : E) (es : Es) (h : cE N sc (.mt m o es) x = true) : ∃ y ap xs cp, x = .Call (.Attribute y m.nm ap) xs [] cp ∧ (ap.endLine == cp.line) = true ∧ (xs.length < 20 ∧ notC0 y = true) ∧ cE N sc o y = true ∧ cEs N sc es xs = true := by
  cases x with
  | Call g xs ks q =>
    cases ks with
    | nil =>
      cases g with
      | Attribute y a ap =>
        simp only [cE, Bool.and_eq_true, decide_eq_true_eq] at h
        obtain ⟨⟨⟨⟨rfl, h1⟩, h2⟩, h3⟩, h4⟩ := h
        exact ⟨y, ap, xs, q, rfl, h1, h2, h3, h4⟩
      | _ => exfalso; revert h; simp only [cE]; decide
    | cons _ _ => cases g <;> (simp only [cE] at h; cases h)
  | _ => exfalso; revert h; simp only [cE]; decide
theorem inv_cb (b : Bi) (es : Es) (h : cE N sc (.cb b es) x = true) : ∃ p y ys q, x = .Call (.Name b.nm p) (y :: ys) [] q ∧ glB sc b.nm = true ∧ cEs N sc es (y :: ys) = true := by
  cases x with
  | Call g xs ks q =>
    cases ks with
    | nil =>
      cases g with
      | Name g p =>
        cases xs with
        | nil => simp only [cE] at h; cases h
        | cons y ys =>
          simp only [cE, Bool.and_eq_true, decide_eq_true_eq] at h
          obtain ⟨⟨rfl, h1⟩, h2⟩ := h
          exact ⟨p, y, ys, q, rfl, h1, h2⟩
      | _ => exfalso; revert h; simp only [cE]; decide
    | cons _ _ => cases g <;> cases xs <;> (simp only [cE] at h; cases h)
  | _ => exfalso; revert h; simp only [cE]; decide
theorem inv_isi (a : E) (ty : Ty) (h : cE N sc (.isi a ty) x = true) : ∃ p1 y p2 q, x = .Call (.Name "isinstance" p1) [y, .Name ty.nm p2] [] q ∧ glB sc "isinstance" = true ∧ cE N sc a y = true ∧ glB sc ty.nm = true := by
  cases x with
  | Call g xs ks q =>
    cases g with
    | Name g p1 =>
      cases ks with
      | cons _ _ =>
        rcases xs with _ | ⟨y, _ | ⟨z, _ | ⟨w, xs⟩⟩⟩
        · simp only [cE] at h; cases h
        · simp only [cE] at h; cases h
        · cases z <;> (simp only [cE] at h; cases h)
        · cases z <;> (simp only [cE] at h; cases h)
      | nil =>
        rcases xs with _ | ⟨y, _ | ⟨z, _ | ⟨w, xs⟩⟩⟩
        · simp only [cE] at h; cases h
        · simp only [cE] at h; cases h
        · cases z with
          | Name t p2 =>
            simp only [cE, Bool.and_eq_true, decide_eq_true_eq] at h
            obtain ⟨⟨⟨⟨rfl, h1⟩, h2⟩, rfl⟩, h3⟩ := h
            exact ⟨p1, y, p2, q, rfl, h1, h2, h3⟩
          | _ => exfalso; revert h; simp only [cE]; decide
        · cases z <;> (simp only [cE] at h; cases h)
    | _ => exfalso; revert h; simp only [cE]; decide
  | _ => exfalso; revert h; simp only [cE]; decide
/-- and, or: what stands behind the first operand -/
theorem inv_an (a b : E) (h : cE N sc (.an a b) x = true) : ∃ l n r p, x = .BoolOp .And (l :: n :: r) p ∧ cE N sc a l = true ∧ ((r = [] ∧ cE N sc b n = true) ∨ (r ≠ [] ∧ cE N sc b (.BoolOp .And (n :: r) p) = true)) := by
  cases x with
  | BoolOp op vs p =>
    cases op with
    | And =>
      rcases vs with _ | ⟨l, _ | ⟨n, r⟩⟩
      · simp only [cE] at h; cases h
      · simp only [cE] at h; cases h
      · simp only [cE, Bool.and_eq_true] at h
        refine ⟨l, n, r, p, rfl, h.1, ?_⟩
        cases r with
        | nil => exact .inl ⟨rfl, h.2⟩
        | cons z r => exact .inr ⟨(fun e => nomatch e), h.2⟩
    | Or => rcases vs with _ | ⟨l, _ | ⟨n, r⟩⟩ <;> (simp only [cE] at h; cases h)
  | _ => exfalso; revert h; simp only [cE]; decide
theorem inv_or (a b : E) (h : cE N sc (.orr a b) x = true) : ∃ l n r p, x = .BoolOp .Or (l :: n :: r) p ∧ cE N sc a l = true ∧ ((r = [] ∧ cE N sc b n = true) ∨ (r ≠ [] ∧ cE N sc b (.BoolOp .Or (n :: r) p) = true)) := by
  cases x with
  | BoolOp op vs p =>
    cases op with
    | Or =>
      rcases vs with _ | ⟨l, _ | ⟨n, r⟩⟩
      · simp only [cE] at h; cases h
      · simp only [cE] at h; cases h
      · simp only [cE, Bool.and_eq_true] at h
        refine ⟨l, n, r, p, rfl, h.1, ?_⟩
        cases r with
        | nil => exact .inl ⟨rfl, h.2⟩
        | cons z r => exact .inr ⟨(fun e => nomatch e), h.2⟩
    | And => rcases vs with _ | ⟨l, _ | ⟨n, r⟩⟩ <;> (simp only [cE] at h; cases h)
  | _ => exfalso; revert h; simp only [cE]; decide
theorem inv_tan (a b : T) (h : cT N sc (.an a b) x = true) : ∃ l n r p, x = .BoolOp .And (l :: n :: r) p ∧ cT N sc a l = true ∧ ((r = [] ∧ cT N sc b n = true) ∨ (r ≠ [] ∧ cT N sc b (.BoolOp .And (n :: r) p) = true)) := by
  cases x with
  | BoolOp op vs p =>
    cases op with
    | And =>
      rcases vs with _ | ⟨l, _ | ⟨n, r⟩⟩
      · simp only [cT] at h; cases h
      · simp only [cT] at h; cases h
      · simp only [cT, Bool.and_eq_true] at h
        refine ⟨l, n, r, p, rfl, h.1, ?_⟩
        cases r with
        | nil => exact .inl ⟨rfl, h.2⟩
        | cons z r => exact .inr ⟨(fun e => nomatch e), h.2⟩
    | Or => rcases vs with _ | ⟨l, _ | ⟨n, r⟩⟩ <;> (simp only [cT] at h; cases h)
  | _ => exfalso; revert h; simp only [cT]; decide
theorem inv_tor (a b : T) (h : cT N sc (.orr a b) x = true) : ∃ l n r p, x = .BoolOp .Or (l :: n :: r) p ∧ cT N sc a l = true ∧ ((r = [] ∧ cT N sc b n = true) ∨ (r ≠ [] ∧ cT N sc b (.BoolOp .Or (n :: r) p) = true)) := by
  cases x with
  | BoolOp op vs p =>
    cases op with
    | Or =>
      rcases vs with _ | ⟨l, _ | ⟨n, r⟩⟩
      · simp only [cT] at h; cases h
      · simp only [cT] at h; cases h
      · simp only [cT, Bool.and_eq_true] at h
        refine ⟨l, n, r, p, rfl, h.1, ?_⟩
        cases r with
        | nil => exact .inl ⟨rfl, h.2⟩
        | cons z r => exact .inr ⟨(fun e => nomatch e), h.2⟩
    | And => rcases vs with _ | ⟨l, _ | ⟨n, r⟩⟩ <;> (simp only [cT] at h; cases h)
  | _ => exfalso; revert h; simp only [cT]; decide
theorem inv_tcmp (o : CmpOp) (a b : E) (h : cT N sc (.cmp o a b) x = true) : ∃ l r p, x = .Compare l [o] [r] p ∧ cE N sc a l = true ∧ cE N sc b r = true := by
  cases x with
  | Compare l ops rs p =>
    match ops, rs, h with
    | [o'], [r], h =>
      simp only [cT, Bool.and_eq_true, decide_eq_true_eq] at h
      obtain ⟨⟨rfl, h1⟩, h2⟩ := h
      exact ⟨l, r, p, rfl, h1, h2⟩
    | [], _, h => simp only [cT] at h; cases h
    | _ :: _ :: _, _, h => simp only [cT] at h; cases h
    | [_], [], h => simp only [cT] at h; cases h
    | [_], _ :: _ :: _, h => simp only [cT] at h; cases h
  | _ => exfalso; revert h; simp only [cT]; decide
theorem inv_tch (o o' : CmpOp) (a b c : E) (h : cT N sc (.ch o o' a b c) x = true) : ∃ l r w p, x = .Compare l [o, o'] [r, w] p ∧ cE N sc a l = true ∧ cE N sc b r = true ∧ cE N sc c w = true := by
  cases x with
  | Compare l ops rs p =>
    rcases ops with _ | ⟨o1, _ | ⟨o2, _ | ⟨o3, ops⟩⟩⟩ <;> rcases rs with _ | ⟨r1, _ | ⟨r2, _ | ⟨r3, rs⟩⟩⟩
    all_goals first
      | (simp only [cT, Bool.and_eq_true, decide_eq_true_eq] at h
         obtain ⟨⟨⟨⟨rfl, rfl⟩, h1⟩, h2⟩, h3⟩ := h
         exact ⟨l, r1, r2, p, rfl, h1, h2, h3⟩)
      | (simp only [cT] at h; cases h)
  | _ => exfalso; revert h; simp only [cT]; decide
theorem inv_tnt (a : T) (h : cT N sc (.nt a) x = true) : ∃ l p, x = .UnaryOp .Not l p ∧ cT N sc a l = true := by
  cases x with
  | UnaryOp o l p =>
    cases o with
    | Not => exact ⟨l, p, rfl, by simpa only [cT] using h⟩
    | _ => exfalso; revert h; simp only [cT]; decide
  | _ => exfalso; revert h; simp only [cT]; decide
theorem inv_tyes (h : cT N sc .yes x = true) : False := by
  cases x <;> (revert h; simp only [cT]; decide)
theorem inv_chv (o o' : CmpOp) (a b c : E) (h : cE N sc (.chv o o' a b c) x = true) : ∃ l r w p, x = .Compare l [o, o'] [r, w] p ∧ cE N sc a l = true ∧ cE N sc b r = true ∧ cE N sc c w = true := by
  cases x with
  | Compare l ops rs p =>
    rcases ops with _ | ⟨o1, _ | ⟨o2, _ | ⟨o3, ops⟩⟩⟩ <;> rcases rs with _ | ⟨r1, _ | ⟨r2, _ | ⟨r3, rs⟩⟩⟩
    all_goals first
      | (simp only [cE, Bool.and_eq_true, decide_eq_true_eq] at h
         obtain ⟨⟨⟨⟨rfl, rfl⟩, h1⟩, h2⟩, h3⟩ := h
         exact ⟨l, r1, r2, p, rfl, h1, h2, h3⟩)
      | (simp only [cE] at h; cases h)
  | _ => exfalso; revert h; simp only [cE]; decide
theorem inv_rg (l : Bool) (a b : E) (h : cE N sc (.rg l a b) x = true) : ∃ p1 y z p2 p3 q, x = .Call (.Name (if l then "list" else "tuple") p1) [.Call (.Name "range" p2) [y, z] [] p3] [] q ∧ glB sc (if l then "list" else "tuple") = true ∧ glB sc "range" = true ∧ cE N sc a y = true ∧ cE N sc b z = true := by
  cases x with
  | Call g xs ks q =>
    cases g with
    | Name g p1 =>
      rcases ks with _ | ⟨_, _⟩
      · rcases xs with _ | ⟨y, _ | ⟨z, xs⟩⟩
        · exfalso; revert h; simp only [cE]; decide
        · cases y with
          | Call g2 ys ks2 q2 =>
            cases g2 with
            | Name r p2 =>
              rcases ks2 with _ | ⟨_, _⟩
              · rcases ys with _ | ⟨y, _ | ⟨z, _ | ⟨w, ys⟩⟩⟩
                · exfalso; revert h; simp only [cE]; decide
                · exfalso; revert h; simp only [cE]; decide
                · simp only [cE, Bool.and_eq_true, decide_eq_true_eq] at h
                  obtain ⟨⟨⟨⟨⟨h1, h2⟩, h3⟩, h4⟩, h5⟩, h6⟩ := h
                  subst h1 h2
                  exact ⟨_, _, _, _, _, _, rfl, h3, h4, h5, h6⟩
                · exfalso; revert h; simp only [cE]; decide
              · exfalso; revert h; simp only [cE]; decide
            | _ => exfalso; revert h; simp only [cE]; decide
          | _ => exfalso; revert h; simp only [cE]; decide
        · cases y <;> (exfalso; revert h; simp only [cE]; decide)
      · exfalso; revert h; simp only [cE]; decide
    | _ => exfalso; revert h; simp only [cE]; decide
  | _ => exfalso; revert h; simp only [cE]; decide
theorem inv_rv (a : E) (h : cE N sc (.rv a) x = true) : ∃ l k p1 p2 p3 q, x = .Subscript l (.Slice none none (some (.UnaryOp .USub (.Constant (.int 1) k p1) p2)) p3) q ∧ cE N sc a l = true := by
  unfold cE at h
  split at h
  all_goals first
    | (rename_i e; cases e; exact ⟨_, _, _, _, _, _, rfl, h⟩)
    | (rename_i e _; cases e; exact ⟨_, _, _, _, _, _, rfl, h⟩)
    | (rename_i e; cases e; done)
    | (rename_i e _; cases e; done)
    | exact absurd h Bool.false_ne_true
theorem inv_lc (g : G) (it : PW.It) (t : T) (e : E) (h : cE N sc (.lc g it t e) x = true) : ∃ elt tg iter ifs s q, x = .ListComp elt [⟨tg, iter, ifs, 0⟩] s q ∧ tpOk it tg = true ∧ cI N sc it iter = true ∧ blkC N sc s (ownP g tg) = true ∧ gB N (relS s sc) s it g tg = true ∧
    ((ifs = [] ∧ t = .yes) ∨ ∃ c, ifs = [c] ∧ cT N (relS s sc) t c = true) ∧ cE N (relS s sc) e elt = true := by
  cases x with
  | ListComp elt gs s q =>
    rcases gs with _ | ⟨⟨tg, iter, ifs, as⟩, _ | ⟨g2, gs⟩⟩
    · simp only [cE] at h; cases h
    · rcases as with (_ | n) | n
      · have h : (tpOk it tg && cI N sc it iter && blkC N sc s (ownP g tg) && gB N (relS s sc) s it g tg && ifsB t (cT N (relS s sc) t) ifs && cE N (relS s sc) e elt) = true := h
        simp only [Bool.and_eq_true] at h
        obtain ⟨⟨⟨⟨⟨h0, h1⟩, h2⟩, h3⟩, h5⟩, h6⟩ := h
        refine ⟨elt, tg, iter, ifs, s, q, rfl, h0, h1, h2, h3, ?_, h6⟩
        rcases ifs with _ | ⟨c, _ | ⟨c2, ifs⟩⟩
        · cases t <;> first | exact .inl ⟨rfl, rfl⟩ | cases h5
        · exact .inr ⟨c, rfl, h5⟩
        · cases h5
      · exact absurd h (by unfold cE; exact Bool.false_ne_true)
      · exact absurd h (by unfold cE; exact Bool.false_ne_true)
    · simp only [cE] at h; cases h
  | _ => exfalso; revert h; simp only [cE]; decide
end
end PW

namespace PW
open PySem L2 PyProof.Rows
/-! ### a list's end taken, a list turned, lists frozen for a while, a list within a list changed -/
theorem ownL_last {K : Fg} {F H : Hp} {d0 : D} : ∀ {ds : List D} {xs : List V} {fq : List Addr}, OwnL K F H ds xs fq → ds.getLast? = some d0 → ∃ y f1 f2, xs[xs.length - 1]? = some y ∧ OwnL K F H ds.dropLast xs.dropLast f1 ∧ Own K F H d0 y f2 ∧ fq = f1 ++ f2
  | _, _, _, .nil, e => by simp at e
  | _, _, _, .cons (fp := f1) h .nil, e => by
    simp at e; subst e
    exact ⟨_, [], f1, rfl, .nil, h, by simp⟩
  | _, _, _, .cons (n := n1) (fp := f1) h (.cons (n := n2) (fp := f2) (fq := f3) h2 t), e => by
    rw [List.getLast?_cons_cons] at e
    obtain ⟨y, g1, g2, e1, o1, o2, e2⟩ := ownL_last (.cons (n := n2) h2 t) e
    refine ⟨y, f1 ++ g1, g2, ?_, ?_, o2, by rw [e2, List.append_assoc]⟩
    · simpa using e1
    · rw [List.dropLast_cons₂, List.dropLast_cons₂]
      exact .cons (n := n1) h o1
theorem ownL_rev {K : Fg} {F H : Hp} : ∀ {ds : List D} {xs : List V} {fq : List Addr}, OwnL K F H ds xs fq → ∃ fr, OwnL K F H ds.reverse xs.reverse fr ∧ fr.Perm fq
  | _, _, _, .nil => ⟨[], .nil, .refl _⟩
  | _, _, _, .cons (n := n1) (fp := f1) (fq := f2) h t => by
    obtain ⟨fr, o, p⟩ := ownL_rev t
    refine ⟨fr ++ (f1 ++ []), ?_, ?_⟩
    · rw [List.reverse_cons, List.reverse_cons]
      exact o.append (.cons (n := n1) h .nil)
    · rw [List.append_nil]
      exact (List.perm_append_comm).trans (p.append_left f1)
section
variable {N : List Str} {sc : Scope} {m : List Bool} {x : Expr} {st : Stmt}
theorem inv_pop (i : Nat) (h : cE N sc (.pop i) x = true) : ∃ y p ap cp, x = .Call (.Attribute (.Name y p) "pop" ap) [] [] cp ∧ visB N sc i y = true ∧ (ap.endLine == cp.line) = true := by
  unfold cE at h
  split at h
  all_goals first
    | (rename_i e; cases e; simp only [Bool.and_eq_true, decide_eq_true_eq] at h; obtain ⟨⟨h1, rfl⟩, h2⟩ := h; exact ⟨_, _, _, _, rfl, h1, h2⟩)
    | (rename_i e _; cases e; simp only [Bool.and_eq_true, decide_eq_true_eq] at h; obtain ⟨⟨h1, rfl⟩, h2⟩ := h; exact ⟨_, _, _, _, rfl, h1, h2⟩)
    | (rename_i e; cases e; done)
    | (rename_i e _; cases e; done)
    | exact absurd h Bool.false_ne_true
theorem inv_rev (i : Nat) (h : cS N sc m (.rev i) st = true) : ∃ y p ap cp q, st = .Expr (.Call (.Attribute (.Name y p) "reverse" ap) [] [] cp) q ∧ visB N sc i y = true ∧ (ap.endLine == cp.line) = true := by
  unfold cS at h
  split at h
  all_goals first
    | (rename_i e; cases e; simp only [Bool.and_eq_true, decide_eq_true_eq] at h; obtain ⟨⟨h1, rfl⟩, h2⟩ := h; exact ⟨_, _, _, _, _, rfl, h1, h2⟩)
    | (rename_i e _; cases e; simp only [Bool.and_eq_true, decide_eq_true_eq] at h; obtain ⟨⟨h1, rfl⟩, h2⟩ := h; exact ⟨_, _, _, _, _, rfl, h1, h2⟩)
    | (rename_i e; cases e; done)
    | (rename_i e _; cases e; done)
    | exact absurd h Bool.false_ne_true
theorem inv_appP (i : Nat) (a e : E) (h : cS N sc m (.appP i a e) st = true) : ∃ y p b p2 ap z cp q, st = .Expr (.Call (.Attribute (.Subscript (.Name y p) b p2) "append" ap) [z] [] cp) q ∧ visB N sc i y = true ∧ (ap.endLine == cp.line) = true ∧ cE N sc a b = true ∧ cE N sc e z = true := by
  unfold cS at h
  split at h
  all_goals first
    | (rename_i e; cases e; simp only [Bool.and_eq_true, decide_eq_true_eq] at h; obtain ⟨⟨⟨⟨h1, rfl⟩, h2⟩, h3⟩, h4⟩ := h; exact ⟨_, _, _, _, _, _, _, _, rfl, h1, h2, h3, h4⟩)
    | (rename_i e _; cases e; simp only [Bool.and_eq_true, decide_eq_true_eq] at h; obtain ⟨⟨⟨⟨h1, rfl⟩, h2⟩, h3⟩, h4⟩ := h; exact ⟨_, _, _, _, _, _, _, _, rfl, h1, h2, h3, h4⟩)
    | (rename_i e; cases e; done)
    | (rename_i e _; cases e; done)
    | exact absurd h Bool.false_ne_true
theorem inv_augS (i : Nat) (k e : E) (h : cS N sc m (.augS i k e) st = true) : ∃ y p z q w r, st = .AugAssign (.Subscript (.Name y p) z q) .Add w r ∧ visB N sc i y = true ∧ cE N sc k z = true ∧ cE N sc e w = true := by
  unfold cS at h
  split at h
  all_goals first
    | (rename_i e; cases e; simp only [Bool.and_eq_true, decide_eq_true_eq] at h; obtain ⟨⟨h1, h2⟩, h3⟩ := h; exact ⟨_, _, _, _, _, _, rfl, h1, h2, h3⟩)
    | (rename_i e _; cases e; simp only [Bool.and_eq_true, decide_eq_true_eq] at h; obtain ⟨⟨h1, h2⟩, h3⟩ := h; exact ⟨_, _, _, _, _, _, rfl, h1, h2, h3⟩)
    | (rename_i e; cases e; done)
    | (rename_i e _; cases e; done)
    | exact absurd h Bool.false_ne_true
theorem inv_popI (i : Nat) (e : E) (h : cE N sc (.popI i e) x = true) : ∃ y p ap z cp, x = .Call (.Attribute (.Name y p) "pop" ap) [z] [] cp ∧ visB N sc i y = true ∧ (ap.endLine == cp.line) = true ∧ cE N sc e z = true := by
  unfold cE at h
  split at h
  all_goals first
    | (rename_i e; cases e; simp only [Bool.and_eq_true, decide_eq_true_eq] at h; obtain ⟨⟨⟨h1, rfl⟩, h2⟩, h3⟩ := h; exact ⟨_, _, _, _, _, rfl, h1, h2, h3⟩)
    | (rename_i e _; cases e; simp only [Bool.and_eq_true, decide_eq_true_eq] at h; obtain ⟨⟨⟨h1, rfl⟩, h2⟩, h3⟩ := h; exact ⟨_, _, _, _, _, rfl, h1, h2, h3⟩)
    | (rename_i e; cases e; done)
    | (rename_i e _; cases e; done)
    | exact absurd h Bool.false_ne_true
theorem inv_ext (i : Nat) (e : E) (h : cS N sc m (.ext i e) st = true) : ∃ y p ap z cp q, st = .Expr (.Call (.Attribute (.Name y p) "extend" ap) [z] [] cp) q ∧ visB N sc i y = true ∧ (ap.endLine == cp.line) = true ∧ cE N sc e z = true := by
  unfold cS at h
  split at h
  all_goals first
    | (rename_i e; cases e; simp only [Bool.and_eq_true, decide_eq_true_eq] at h; obtain ⟨⟨⟨h1, rfl⟩, h2⟩, h3⟩ := h; exact ⟨_, _, _, _, _, _, rfl, h1, h2, h3⟩)
    | (rename_i e _; cases e; simp only [Bool.and_eq_true, decide_eq_true_eq] at h; obtain ⟨⟨⟨h1, rfl⟩, h2⟩, h3⟩ := h; exact ⟨_, _, _, _, _, _, rfl, h1, h2, h3⟩)
    | (rename_i e; cases e; done)
    | (rename_i e _; cases e; done)
    | exact absurd h Bool.false_ne_true
theorem inv_augN (i : Nat) (e : E) (h : cS N sc m (.augN i e) st = true) : ∃ y p z q, st = .AugAssign (.Name y p) .Add z q ∧ locB N sc i y = true ∧ fxB m i = false ∧ cE N sc e z = true := by
  unfold cS at h
  split at h
  all_goals first
    | (rename_i e; cases e; simp only [Bool.and_eq_true, Bool.not_eq_true'] at h; obtain ⟨⟨h1, h2⟩, h3⟩ := h; exact ⟨_, _, _, _, rfl, h1, h2, h3⟩)
    | (rename_i e _; cases e; simp only [Bool.and_eq_true, Bool.not_eq_true'] at h; obtain ⟨⟨h1, h2⟩, h3⟩ := h; exact ⟨_, _, _, _, rfl, h1, h2, h3⟩)
    | (rename_i e; cases e; done)
    | (rename_i e _; cases e; done)
    | exact absurd h Bool.false_ne_true
end
/-! frozen -/
mutual
theorem flat_rep {K : Fg} {F F' : Hp} : ∀ {d : D} {v : V}, Rep K F d v → d.leafy = true → flatT d = true → Rep K F' d v
  | _, _, .non, _, _ => .non
  | _, _, .bl b, _, _ => .bl b
  | _, _, .int i, _, _ => .int i
  | _, _, .str s, _, _ => .str s
  | _, _, .tup h r, _, e => by cases e
  | _, _, .lst h r, e, _ => by cases e
  | _, _, .scr ns h, _, e => by cases e
  | _, _, .flz h r, _, e => by cases e
  | _, _, .dct h n r, e, _ => by cases e
theorem flat_own {K : Fg} {F F' H : Hp} : ∀ {d : D} {v : V} {fp : List Addr}, Own K F H d v fp → flatT d = true → Own K F' H d v fp
  | _, _, _, .leaf l r, e => .leaf l (flat_rep r l e)
  | _, _, _, .lst h r, e => .lst h (flat_ownL r e)
  | _, _, _, .dct h n r, e => by cases e
theorem flat_ownL {K : Fg} {F F' H : Hp} : ∀ {ds : List D} {xs : List V} {fp : List Addr}, OwnL K F H ds xs fp → flatL ds = true → OwnL K F' H ds xs fp
  | _, _, _, .nil, _ => .nil
  | _, _, _, .cons (n := n1) h r, e => by
    have e : (flatT _ && flatL _) = true := e
    rw [Bool.and_eq_true] at e
    exact .cons (n := n1) (flat_own h e.1) (flat_ownL r e.2)
end
def frzE : List Bool → PW.Env → PW.Env
  | true :: q, s :: env => frzS s :: frzE q env
  | false :: q, s :: env => s :: frzE q env
  | [], env => env
  | _ :: _, [] => []
theorem frzK_iff : ∀ (q : List Bool) (env : PW.Env) (k : PW.Env → Prop), frzK q env k → k (frzE q env)
  | [], env, k, h => by cases env <;> exact h
  | true :: _, [], k, h => h
  | false :: _, [], k, h => h
  | true :: q, s :: env, k, h => frzK_iff q env (fun e => k (frzS s :: e)) h
  | false :: q, s :: env, k, h => frzK_iff q env (fun e => k (s :: e)) h
theorem slotK_ok {K : Fg} {F F' H : Hp} {s : Slot} {o : Option V} {L : List Addr} {k : Slot → Prop} (h : Slots K F H [s] [o] L) (w : slotK s k) : ∃ s' L', Slots K F' H [s'] [o] L' ∧ L'.Sublist L ∧ k s' := by
  cases h with
  | no z => cases z; exact ⟨_, _, .no .nil, List.Sublist.refl _, w⟩
  | sh r z =>
    cases z
    cases r with
    | non => exact ⟨_, _, .sh .non .nil, List.Sublist.refl _, w⟩
    | bl b => exact ⟨_, _, .sh (.bl b) .nil, List.Sublist.refl _, w⟩
    | int i => exact ⟨_, _, .sh (.int i) .nil, List.Sublist.refl _, w⟩
    | str t => exact ⟨_, _, .sh (.str t) .nil, List.Sublist.refl _, w⟩
    | tup _ _ => exact ⟨_, _, .no .nil, List.Sublist.refl _, w⟩
    | lst _ _ => exact ⟨_, _, .no .nil, List.Sublist.refl _, w⟩
    | scr _ _ => exact ⟨_, _, .no .nil, List.Sublist.refl _, w⟩
    | flz _ _ => exact ⟨_, _, .no .nil, List.Sublist.refl _, w⟩
    | dct _ _ _ => exact ⟨_, _, .no .nil, List.Sublist.refl _, w⟩
  | ow r z =>
    cases z
    exact ⟨_, _, .ow (flat_own r w.1) .nil, List.Sublist.refl _, w.2⟩
theorem slots_split {K : Fg} {F H : Hp} {s : Slot} {env : PW.Env} {o : Option V} {σ : LSt} {L : List Addr} (h : Slots K F H (s :: env) (o :: σ) L) : ∃ L1 L2, Slots K F H [s] [o] L1 ∧ Slots K F H env σ L2 ∧ L = L1 ++ L2 := by
  cases h with
  | no r => exact ⟨[], _, .no .nil, r, rfl⟩
  | sh q r => exact ⟨[], _, .sh q .nil, r, rfl⟩
  | ow q r => exact ⟨_, _, by simpa using Slots.ow q .nil, r, rfl⟩
theorem slots_join {K : Fg} {F H : Hp} {s : Slot} {env : PW.Env} {o : Option V} {σ : LSt} {L1 L2 : List Addr} (h : Slots K F H [s] [o] L1) (r : Slots K F H env σ L2) : Slots K F H (s :: env) (o :: σ) (L1 ++ L2) := by
  cases h with
  | no z => cases z; exact .no r
  | sh q z => cases z; exact .sh q r
  | ow q z => cases z; simpa using Slots.ow q r
theorem perm_mid {A B C D' : List Addr} {M : List Addr} (h : B.Perm (C ++ D')) : (A ++ B).Perm ((A ++ C) ++ D') := by
  rw [List.append_assoc]; exact h.append_left A
theorem perm_mid2 {A B C D' : List Addr} (h : B.Perm (C ++ D')) : (A ++ B).Perm (C ++ (A ++ D')) :=
  (h.append_left A).trans (by
    rw [← List.append_assoc, ← List.append_assoc]
    exact List.perm_append_comm.append_right D')
theorem frz_slots {K : Fg} {F H : Hp} : ∀ {q : List Bool} {env : PW.Env} {σ : LSt} {L : List Addr}, Slots K F H env σ L → ∃ L1 fp, L.Perm (L1 ++ fp) ∧
    (∀ F1, Ext F F1 → (∀ a ∈ fp, F1 a = H a) → Slots K F1 H (frzE q env) σ L1) ∧
    ∀ F2 F3 H2 env2 σ2 L2 k, Slots K F2 H2 env2 σ2 L2 → (∀ j, fxB q j = true → σ2[j]? = σ[j]?) → (∀ a ∈ fp, H2 a = H a) → Ext F F3 → thawK q env env2 k → ∃ L3 env3 L2', Slots K F3 H2 env3 σ2 L3 ∧ k env3 ∧ L2'.Sublist L2 ∧ L3.Perm (L2' ++ fp) := by
  intro q env σ L s
  induction env generalizing q σ L with
  | nil =>
    cases s with
    | nil =>
      refine ⟨[], [], .refl _, fun F1 _ _ => by rcases q with _ | ⟨_ | _, q⟩ <;> exact .nil, fun F2 F3 H2 env2 σ2 L2 k s2 _ _ _ w => ?_⟩
      cases s2 with
      | nil => exact ⟨[], [], [], .nil, by rcases q with _ | ⟨_ | _, q⟩ <;> exact w, List.Sublist.refl _, .refl _⟩
      | no _ => cases q with
        | nil => exact w.elim
        | cons b q => cases b <;> exact w.elim
      | sh _ _ => cases q with
        | nil => exact w.elim
        | cons b q => cases b <;> exact w.elim
      | ow _ _ => cases q with
        | nil => exact w.elim
        | cons b q => cases b <;> exact w.elim
  | cons s0 env ih =>
    have hσ : ∃ o σ', σ = o :: σ' := by cases s <;> exact ⟨_, _, rfl⟩
    obtain ⟨o, σ', rfl⟩ := hσ
    obtain ⟨La, Lb, ha, hb, rfl⟩ := slots_split s
    -- a slot that is not kept
    have nokeep : ∀ q', fxB q 0 = false → (∀ j, fxB q (j + 1) = fxB q' j) → frzE q (s0 :: env) = s0 :: frzE q' env → (∀ s new k, thawK q (s0 :: env) (s :: new) k → slotK s fun s' => thawK q' env new fun e => k (s' :: e)) → (∀ k, thawK q (s0 :: env) [] k → False) →
        ∃ L1 fp, (La ++ Lb).Perm (L1 ++ fp) ∧ (∀ F1, Ext F F1 → (∀ a ∈ fp, F1 a = H a) → Slots K F1 H (frzE q (s0 :: env)) (o :: σ') L1) ∧
        ∀ F2 F3 H2 env2 σ2 L2 k, Slots K F2 H2 env2 σ2 L2 → (∀ j, fxB q j = true → σ2[j]? = (o :: σ')[j]?) → (∀ a ∈ fp, H2 a = H a) → Ext F F3 → thawK q (s0 :: env) env2 k → ∃ L3 env3 L2', Slots K F3 H2 env3 σ2 L3 ∧ k env3 ∧ L2'.Sublist L2 ∧ L3.Perm (L2' ++ fp) := by
      intro q' e0 e1 e2 e3 e4
      obtain ⟨L1, fp, p, h1, h2⟩ := ih (q := q') hb
      refine ⟨La ++ L1, fp, by rw [List.append_assoc]; exact p.append_left La, fun F1 x z => ?_, fun F2 F3 H2 env2 σ2 L2 k s2 hf hh x w => ?_⟩
      · rw [e2]
        exact slots_join (ha.mono x fun a z => rfl) (h1 F1 x z)
      · cases env2 with
        | nil => exact (e4 k w).elim
        | cons s2' env2 =>
          have hσ : ∃ o σ', σ2 = o :: σ' := by cases s2 <;> exact ⟨_, _, rfl⟩
          obtain ⟨o2, σ2', rfl⟩ := hσ
          obtain ⟨Lc, Ld, hc, hd, rfl⟩ := slots_split s2
          obtain ⟨s', L', g1, g2, g3⟩ := slotK_ok (F' := F3) hc (e3 _ _ _ w)
          obtain ⟨L3, env3, L2', k1, k2, k3, k4⟩ := h2 F2 F3 H2 env2 σ2' Ld _ hd (fun j hj => by have := hf (j + 1) (by rw [e1]; exact hj); simpa using this) hh x g3
          exact ⟨L' ++ L3, s' :: env3, L' ++ L2', slots_join g1 k1, k2, g2.append k3, perm_mid (M := []) k4⟩
    cases q with
    | nil => exact nokeep [] rfl (fun _ => rfl) (by cases env <;> rfl) (fun _ _ _ w => w) (fun _ w => w.elim)
    | cons b q =>
      cases b with
      | false => exact nokeep q rfl (fun _ => rfl) rfl (fun _ _ _ w => w) (fun _ w => w.elim)
      | true =>
        obtain ⟨L1, fp, p, h1, h2⟩ := ih (q := q) hb
        have back : ∀ (fa : List Addr) (F2 F3 H2 : Hp) (env2 : PW.Env) (σ2 : LSt) (L2 : List Addr) (k : PW.Env → Prop), (∀ F3 H2, Ext F F3 → (∀ a ∈ fa, H2 a = H a) → Slots K F3 H2 [s0] [o] fa) → Slots K F2 H2 env2 σ2 L2 → (∀ j, fxB (true :: q) j = true → σ2[j]? = (o :: σ')[j]?) → (∀ a ∈ fa ++ fp, H2 a = H a) → Ext F F3 → thawK (true :: q) (s0 :: env) env2 k →
            ∃ L3 env3 L2', Slots K F3 H2 env3 σ2 L3 ∧ k env3 ∧ L2'.Sublist L2 ∧ L3.Perm (L2' ++ (fa ++ fp)) := by
          intro fa F2 F3 H2 env2 σ2 L2 k mk s2 hf hh x w
          cases env2 with
          | nil => exact w.elim
          | cons s2' env2 =>
            have hσ : ∃ o σ', σ2 = o :: σ' := by cases s2 <;> exact ⟨_, _, rfl⟩
            obtain ⟨o2, σ2', rfl⟩ := hσ
            have ho : o2 = o := by have := hf 0 rfl; simpa using this
            subst ho
            obtain ⟨Lc, Ld, hc, hd, rfl⟩ := slots_split s2
            obtain ⟨L3, env3, L2', k1, k2, k3, k4⟩ := h2 F2 F3 H2 env2 σ2' Ld _ hd (fun j hj => by have := hf (j + 1) hj; simpa using this) (fun a z => hh a (List.mem_append_right _ z)) x (show thawK q env env2 _ from w)
            exact ⟨fa ++ L3, s0 :: env3, L2', slots_join (mk F3 H2 x fun a z => hh a (List.mem_append_left _ z)) k1, k2, k3.trans (List.sublist_append_right _ _), perm_mid2 k4⟩
        cases ha with
        | no z =>
          cases z
          exact ⟨L1, fp, p, fun F1 x z => .no (h1 F1 x z), fun F2 F3 H2 env2 σ2 L2 k s2 hf hh x w => back [] F2 F3 H2 env2 σ2 L2 k (fun _ _ _ _ => .no .nil) s2 hf hh x w⟩
        | sh r z =>
          cases z
          exact ⟨L1, fp, p, fun F1 x z => .sh (r.mono x) (h1 F1 x z), fun F2 F3 H2 env2 σ2 L2 k s2 hf hh x w => back [] F2 F3 H2 env2 σ2 L2 k (fun _ _ x _ => .sh (r.mono x) .nil) s2 hf hh x w⟩
        | ow r z =>
          rename_i d v fa L0
          cases z
          refine ⟨L1, fa ++ fp, by rw [List.append_nil]; exact perm_mid2 p, fun F1 x z => .sh (r.freeze x fun a w => z a (List.mem_append_left _ w)) (h1 F1 x fun a w => z a (List.mem_append_right _ w)), fun F2 F3 H2 env2 σ2 L2 k s2 hf hh x w => back fa F2 F3 H2 env2 σ2 L2 k (fun _ _ x y => by simpa using Slots.ow (r.mono x y) .nil) s2 hf hh x w⟩
theorem orB_get : ∀ (m q : List Bool) (j : Nat), fxB (orB m q) j = (fxB m j || fxB q j)
  | [], q, j => by simp [orB, fxB]
  | b :: m, [], j => by simp [orB, fxB]
  | b :: m, c :: q, 0 => by simp [orB, fxB]
  | b :: m, c :: q, j + 1 => by
    have h := orB_get m q j
    simp [orB, fxB] at h ⊢
    exact h
section
variable {X : Cx} {N : List Str} {sc : Scope} {k : Nat} {m : List Bool} {a b : E} {ea eb : Expr} {pos : Pos} {s : PW.S} {st : Stmt}
theorem st_frz {q : List Bool} (hs : PS X st (LS X.K (orB m q) s)) : PS X st (LS X.K m (.frz q s)) := by
  refine ps_mono hs fun D σ H w => ?_
  obtain ⟨P, F, env, L, KK, hf, st, w, f⟩ := w
  simp only [wS] at w
  have w := frzK_iff _ _ _ w
  obtain ⟨L1, fp, pm, h1, h2⟩ := frz_slots (q := q) st.sl
  classical
  let F1 : Hp := fun a => if a ∈ fp then H a else F a
  have inL : ∀ a ∈ fp, a ∈ L := fun a z => pm.mem_iff.mpr (List.mem_append_right _ z)
  have nd := pm.nodup_iff.mp st.nd
  have x1 : Ext F F1 := fun a o e => by
    show (if a ∈ fp then H a else F a) = some o
    split
    · rename_i z; rw [(st.dis a (inL a z)).1] at e; cases e
    · exact e
  have y1 : ∀ a ∈ fp, F1 a = H a := fun a z => if_pos z
  let P' : Par := ⟨P.Z, P.H0, F1, fxB (orB m q), σ⟩
  have st1 : Sta X.K P' F1 (frzE q env) σ H L1 := by
    refine ⟨h1 F1 x1 y1, (List.nodup_append.mp nd).1, fun a z => ?_, fun a o e => ?_, Ext.refl _, fun a z => ⟨(st.z a z).1, (st.z a z).2.1, ?_⟩, fun j hj => rfl⟩
    · have hn : a ∉ fp := fun w => (List.nodup_append.mp nd).2.2 a z a w rfl
      refine ⟨?_, (st.dis a (pm.mem_iff.mpr (List.mem_append_left _ z))).2⟩
      show (if a ∈ fp then H a else F a) = none
      rw [if_neg hn]
      exact (st.dis a (pm.mem_iff.mpr (List.mem_append_left _ z))).1
    · have e : (if a ∈ fp then H a else F a) = some o := e
      split at e
      · exact e
      · exact st.sub a o e
    · show (if a ∈ fp then H a else F a) = none
      rw [if_neg fun w => (st.dis a (inL a w)).2 z]
      exact (st.z a z).2.2
  refine ⟨P', F1, _, L1, _, rfl, st1, w, fun env2 σ2 F2 H2 L2 n s2 => ?_, fun _ _ _ _ _ n _ => n.elim, fun _ _ _ _ _ n _ => n.elim, fun _ _ _ _ _ _ _ _ n _ => n.elim⟩
  let F3 : Hp := fun a => if a ∈ fp then none else F2 a
  have x12 : Ext F1 F2 := s2.f0
  have ge : ∀ a ∈ fp, H2 a = H a := fun a z => by
    obtain ⟨xs, e⟩ := st.sl.there a (inL a z)
    rw [e]
    exact s2.sub a _ (x12 a _ ((y1 a z).trans e))
  have x3 : Ext F F3 := fun a o e => by
    show (if a ∈ fp then none else F2 a) = some o
    split
    · rename_i z; rw [(st.dis a (inL a z)).1] at e; cases e
    · exact x12 a o (x1 a o e)
  obtain ⟨L3, env3, L2', k1, k2, k3, k4⟩ := h2 F2 F3 H2 env2 σ2 L2 _ s2.sl (fun j hj => s2.fx j (by show fxB (orB m q) j = true; rw [orB_get, hj, Bool.or_true])) ge x3 n
  have mem2 : ∀ a ∈ L2', F2 a = none ∧ ¬ P.Z a := fun a z => s2.dis a (k3.subset z)
  have notin : ∀ a ∈ L2', a ∉ fp := fun a z w => by
    obtain ⟨xs, e⟩ := st.sl.there a (inL a w)
    have := x12 a _ ((y1 a w).trans e)
    rw [(mem2 a z).1] at this
    cases this
  refine f.nx env3 σ2 F3 H2 L3 k2 ⟨k1, ?_, fun a z => ?_, fun a o e => ?_, fun a o e => x3 a o (st.f0 a o e), fun a z => ⟨(s2.z a z).1, (s2.z a z).2.1, ?_⟩, fun j hj => ?_⟩
  · rw [k4.nodup_iff]
    exact List.nodup_append.mpr ⟨k3.nodup s2.nd, (List.nodup_append.mp nd).2.1, fun a z b w e => notin a z (e ▸ w)⟩
  · rcases List.mem_append.mp (k4.mem_iff.mp z) with z | z
    · refine ⟨?_, (mem2 a z).2⟩
      show (if a ∈ fp then none else F2 a) = none
      rw [if_neg (notin a z)]
      exact (mem2 a z).1
    · exact ⟨if_pos z, (st.dis a (inL a z)).2⟩
  · have e : (if a ∈ fp then none else F2 a) = some o := e
    split at e
    · cases e
    · exact s2.sub a o e
  · show (if a ∈ fp then none else F2 a) = none
    rw [if_neg fun w => (st.dis a (inL a w)).2 z]
    exact (s2.z a z).2.2
  · rw [s2.fx j (by show fxB (orB m q) j = true; rw [orB_get]; rw [hf] at hj; rw [hj]; rfl)]
    exact st.fx j hj

/-! methods that change -/
theorem s_pop {i : Nat} {x : Str} {p ap cp : Pos} (c : Cok X N sc k) (hv : visB N sc i x = true) (hl : (ap.endLine == cp.line) = true) : PE X (.Call (.Attribute (.Name x p) "pop" ap) [] [] cp) (LE X.K (.pop i)) := by
  refine pe_mono (pe_bm0 PySem.F.plainAttrs_list PySem.F.slot_list_pop PySem.F.type_list_pop mt_pop (vis_ok c hv) rfl hl) fun σ H Q w => ?_
  obtain ⟨P, F, env, L, C, st, w, k⟩ := w
  simp only [wE] at w
  obtain ⟨s0, e0, w⟩ := getK_iff.mp w
  split at w
  · rename_i ds
    obtain ⟨d0, hd, w⟩ := w
    obtain ⟨hi, w⟩ := setK_iff.mp w
    obtain ⟨v, fp0, L1, h1, h2, h3, h4⟩ := st.take e0
    obtain ⟨q, xs, fq, rfl, hr, ho, rfl⟩ := h2.lst_inv
    obtain ⟨y, f1, f2, g1, g2, g3, rfl⟩ := ownL_last ho hd
    refine ⟨_, h1, .inl ⟨rfl, xs, SqL.of hr⟩, q, xs, y, rfl, rfl, hr, g1, ?_⟩
    have nd := h4.nodup_iff.mp st.nd
    have n1 := List.nodup_append.mp nd
    have n2 := List.nodup_cons.mp n1.2.1
    have n3 := List.nodup_append.mp n2.2
    have inL : ∀ a ∈ q :: (f1 ++ f2), a ∈ L := fun a z => h4.mem_iff.mpr (List.mem_append_right _ z)
    have qL1 : q ∉ L1 := fun z => n1.2.2 q z q List.mem_cons_self rfl
    have s2 : Sta X.K P F (env.set i .no) σ (L2.upd H q (.lst xs.dropLast)) L1 := h3.upd qL1 (st.dis q (inL q List.mem_cons_self)).1 (st.dis q (inL q List.mem_cons_self)).2
    have keep : ∀ a ∈ f1 ++ f2, L2.upd H q (.lst xs.dropLast) a = H a := fun a z => upd_ne (b := a) fun e => n2.1 (e ▸ z)
    obtain ⟨L', s3, mem⟩ := s2.give (i := i) (by rw [List.length_set]; exact hi) h1 (.lst (upd_same (o := .lst xs.dropLast)) (g2.mono (Ext.refl _) fun a z => keep a (List.mem_append_left _ z))) (by
      refine List.nodup_append.mpr ⟨n1.1, List.nodup_cons.mpr ⟨fun z => n2.1 (List.mem_append_left _ z), n3.1⟩, fun a z b w e => n1.2.2 a z b ?_ e⟩
      rcases List.mem_cons.mp w with w | w
      · exact w ▸ List.mem_cons_self
      · exact List.mem_cons_of_mem _ (List.mem_append_left _ w)) fun a w => by
        refine st.dis a (inL a ?_)
        rcases List.mem_cons.mp w with w | w
        · exact w ▸ List.mem_cons_self
        · exact List.mem_cons_of_mem _ (List.mem_append_left _ w)
    rw [List.set_set] at s3
    refine k (popR d0) _ y F _ L' f2 w ⟨s3, ?_, ?_, fun a z => st.dis a (inL a (List.mem_cons_of_mem _ (List.mem_append_right _ z)))⟩ fun e => nomatch e
    · have o2 := g3.mono (Ext.refl _) fun a z => keep a (List.mem_append_right _ z)
      cases o2 with
      | leaf l r =>
        cases r with
        | lst _ _ => cases l
        | dct _ _ _ => cases l
        | non => exact ⟨.non, rfl⟩
        | bl b => exact ⟨.bl b, rfl⟩
        | int b => exact ⟨.int b, rfl⟩
        | str b => exact ⟨.str b, rfl⟩
        | tup a b => exact ⟨.tup a b, rfl⟩
        | scr a b => exact ⟨.scr a b, rfl⟩
        | flz a b => exact ⟨.flz a b, rfl⟩
      | lst a b => exact .lst a b
      | dct a b c => exact .dct a b c
    · refine List.nodup_append.mpr ⟨s3.nd, n3.2.1, fun a z b w e => ?_⟩
      subst e
      rcases List.mem_append.mp (mem a z) with z | z
      · exact n1.2.2 a z a (List.mem_cons_of_mem _ (List.mem_append_right _ w)) rfl
      · rcases List.mem_cons.mp z with z | z
        · subst z; exact n2.1 (List.mem_append_right _ w)
        · exact n3.2.2 a z a w rfl
  · exact w.elim
theorem st_rev {i : Nat} {x : Str} {p ap cp : Pos} (c : CokS X N sc k) (hv : visB N sc i x = true) (hl : (ap.endLine == cp.line) = true) : PS X (.Expr (.Call (.Attribute (.Name x p) "reverse" ap) [] [] cp) pos) (LS X.K m (.rev i)) := by
  refine ps_mono (ps_expr (pe_bm0 PySem.F.plainAttrs_list PySem.F.slot_list_reverse PySem.F.type_list_reverse mt_reverse (vis_ok c.toCok hv) rfl hl) rfl) fun D σ H w => ?_
  obtain ⟨P, F, env, L, KK, hf, st, w, f⟩ := w
  simp only [wS] at w
  obtain ⟨s0, e0, w⟩ := getK_iff.mp w
  split at w
  · rename_i ds
    obtain ⟨hi, w⟩ := setK_iff.mp w
    obtain ⟨q, xs, g1, g2, g3, mk⟩ := st.change (fp := []) e0 (by simpa using st.nd) (fun _ z => nomatch z) (fun _ z => nomatch z)
    obtain ⟨L', s'⟩ := mk ds.reverse xs.reverse fun fq ho nq => by
      obtain ⟨fr, o, pm⟩ := ownL_rev ho
      exact ⟨fr, o, pm.nodup_iff.mpr (by simpa using nq), fun a z => by simpa using pm.mem_iff.mp z⟩
    exact ⟨_, g1, .inl ⟨rfl, xs, SqL.of g2⟩, q, xs, rfl, rfl, g2, f.nx _ _ _ _ _ w s'⟩
  · exact w.elim
theorem st_appP {i : Nat} {x : Str} {p p2 ap cp : Pos} {e : E} {ee : Expr} (c : CokS X N sc k) (hv : visB N sc i x = true) (hl : (ap.endLine == cp.line) = true) (hi : okShape ea = true) (hs : okShape ee = true) (ha : PE X ea (LE X.K a)) (he : PE X ee (LE X.K e)) :
    PS X (.Expr (.Call (.Attribute (.Subscript (.Name x p) ea p2) "append" ap) [ee] [] cp) pos) (LS X.K m (.appP i a e)) := by
  have hp : PA X [ee] (tCons (LE X.K e) tNil) := pa_cons he pa_nil (star1 hs _ _)
  have few : ((backTo cp (starEach [ee] X.env)).all (fun x => !x.1) && (backToKw cp (keywordEach [] X.env)).all (fun x => x.1.isSome) && decide ([ee].length + ([] : List Keyword).length + (if ([] : List Keyword).isEmpty then 0 else 1) < 30)) = true := by
    rw [star1 hs]; rfl
  refine ps_mono (ps_expr (pe_bm PySem.F.plainAttrs_list PySem.F.slot_list_append PySem.F.type_list_append mt_append (pe_ix ix_list (vis_ok c.toCok hv) ha (plainIx hi)) hp rfl few hl (star1 hs _ _) rfl) rfl) fun D σ H w => ?_
  obtain ⟨P, F, env, L, KK, hf, st, w, f⟩ := w
  simp only [wS] at w
  obtain ⟨s0, e0, w⟩ := getK_iff.mp w
  split at w
  · rename_i ds0
    obtain ⟨v, L1, fp0, L2, h1, h2, _⟩ := st.sl.getOw e0
    refine ⟨_, h1, P, F, env, L, _, st, w, fun r env1 z F1 H1 L1' fq c po q => ?_⟩
    split at c
    · rename_i za
      obtain ⟨r2, hfq⟩ := po.rr
      subst hfq
      cases r2
      obtain ⟨s1, e1', c⟩ := getK_iff.mp c
      split at c
      · rename_i ds
        obtain ⟨j, es, ⟨hj, hes⟩, c⟩ := c
        obtain ⟨q1, xs, q2, ys, g1, g2, g3, g4, g5, g6, _⟩ := po.st.change2 (fp := []) e1' hes (by simpa using po.st.nd) (fun _ z => nomatch z) (fun _ z => nomatch z)
        rw [h1] at g1
        injection g1 with g1; injection g1 with g1; subst g1
        refine ⟨q1, xs, za, .ref q2, rfl, rfl, SqL.of g2, atI_of g3 hj g4, .inl ⟨rfl, ys, SqL.of g5⟩, P, F1, env1, L1', _, po.st, c, fun r env2 y F2 H2 L2 fp c po2 qq => ?_⟩
        obtain ⟨hq, c⟩ := c
        have hx := qq hq
        obtain ⟨s3, e3, c⟩ := getK_iff.mp c
        split at c
        · rename_i ds3
          obtain ⟨es3, ⟨he3, hz⟩, c⟩ := c
          obtain ⟨d, o, nn, c⟩ := lstK1 po2.rr c
          obtain ⟨hi2, c⟩ := setK_iff.mp c
          obtain ⟨q4, xs4, q5, ys5, k1, k2, k3, k4, k5, k6, mk⟩ := po2.st.change2 e3 he3 po2.nd po2.dis po2.rr.there
          rw [h1] at k1
          injection k1 with k1; injection k1 with k1; injection k1 with k1; subst k1
          rw [hx _ _ g2] at k2
          injection k2 with k2; injection k2 with k2; subst k2
          rw [g4] at k4
          injection k4 with k4; injection k4 with k4; subst k4
          obtain ⟨L3, s'⟩ := mk (es3 ++ [d]) (ys5 ++ [y]) fun fq ho nq => ⟨fq ++ (fp ++ []), ho.append (.cons (n := nn) o .nil), by simpa using nq, fun a z => by simpa using z⟩
          exact ⟨q2, ys5, y, rfl, rfl, k5, by rw [← k6]; exact hz, f.nx _ _ _ _ _ c s'⟩
        · exact c.elim
      · exact c.elim
    · exact c.elim
  · exact w.elim
theorem get_list : PGet X (rIxL X.K) := by
  intro pins s σ H o i ov iv Q I rx ry h
  obtain ⟨p, xs, i, z, rfl, rfl, hq, he, q⟩ := h
  cases rx
  obtain ⟨t, rfl⟩ := ry
  obtain ⟨its, r, pl, hz⟩ := I.list hq
  obtain ⟨j, h1, h2, h3, h4, h5⟩ := atI_get he
  obtain ⟨w, ew, rw'⟩ := r.get h2
  have hl := r.length
  have hn := line63
  have fin : EP X pins σ Q w s := ⟨z, H, I, rw', q⟩
  by_cases h0 : 0 ≤ i
  · have hj : i.toNat = j := by
      rw [seqIndex_of h0 h5] at h1
      exact Option.some.inj h1
    exact wpAny_getItem_list pl.isList h0 (by omega) (by rw [hj]; simpa using ew) fin
  · have hj : (i + (its.toArray.size : Int)).toNat = j := by
      rw [seqIndex_neg (by omega) h4] at h1
      rw [List.size_toArray, ← hl]
      exact Option.some.inj h1
    exact wpAny_getItem_list_neg pl.isList (by omega) (by rw [List.size_toArray] <;> omega) (by omega) (by rw [hj]; simpa using ew) fin
theorem st_augS {i : Nat} {x : Str} {p p2 : Pos} {e : E} {ee : Expr} (c : CokS X N sc k) (hv : visB N sc i x = true) (hi : okShape ea = true) (ha : PE X ea (LE X.K a)) (he : PE X ee (LE X.K e)) :
    PS X (.AugAssign (.Subscript (.Name x p) ea p2) .Add ee pos) (LS X.K m (.augS i a e)) := by
  refine ps_mono (ps_augS (vis_ok c.toCok hv) ha get_list he ip_add set_list (by intro ov iv new; cases ea <;> first | rfl | cases hi)) fun D σ H w => ?_
  obtain ⟨P, F, env, L, KK, hf, st, w, f⟩ := w
  simp only [wS] at w
  obtain ⟨s0, e0, w⟩ := getK_iff.mp w
  split at w
  · rename_i ds0
    obtain ⟨v, L1, fp0, L2, h1, h2, _⟩ := st.sl.getOw e0
    refine ⟨_, h1, P, F, env, L, _, st, w, fun r env1 z F1 H1 L1' fq c po q => ?_⟩
    split at c
    · rename_i za
      obtain ⟨r2, hfq⟩ := po.rr
      subst hfq
      cases r2
      obtain ⟨s1, e1', c⟩ := getK_iff.mp c
      split at c
      · rename_i ds
        obtain ⟨j, xx, ⟨hj, hes⟩, c⟩ := c
        obtain ⟨q1, xs, g1, g2, g3, _⟩ := po.st.change (fp := []) e1' (by simpa using po.st.nd) (fun _ z => nomatch z) (fun _ z => nomatch z)
        obtain ⟨v1, _, fp1, _, z1, z2, _⟩ := po.st.sl.getOw e1'
        obtain ⟨q1', xs1, fq1, rfl, hr1, ho1, _⟩ := z2.lst_inv
        rw [z1] at g1
        injection g1 with g1; injection g1 with g1; injection g1 with g1; subst g1
        rw [hr1] at g2
        injection g2 with g2; injection g2 with g2; subst g2
        obtain ⟨vy, fy, gy1, gy2, _⟩ := ho1.get hes
        have hvy := (gy2.leaf_inv rfl).1
        cases hvy
        rw [h1] at z1
        injection z1 with z1; injection z1 with z1; subst z1
        refine ⟨q1', xs1, za, .int xx, rfl, rfl, SqL.of hr1, atI_of g3 hj gy1, P, F1, env1, L1', _, po.st, c, fun r env2 y F2 H2 L2 fp c po2 qq => ?_⟩
        split at c
        · rename_i yy
          obtain ⟨r3, hfr⟩ := po2.rr
          subst hfr
          cases r3
          obtain ⟨s3, e3, c⟩ := getK_iff.mp c
          split at c
          · rename_i ds3
            obtain ⟨j2, hj2, c⟩ := c
            obtain ⟨hi2, c⟩ := setK_iff.mp c
            obtain ⟨q4, xs4, k1, k2, k3, mk⟩ := po2.st.change (fp := []) e3 (by simpa using po2.st.nd) (fun _ z => nomatch z) (fun _ z => nomatch z)
            rw [h1] at k1
            injection k1 with k1; injection k1 with k1; injection k1 with k1; subst k1
            have hjl : j2 < ds3.length := (ixN_seq hj2).2.1
            obtain ⟨L3, s'⟩ := mk (ds3.set j2 (.int (xx + yy))) (xs4.set j2 (.int (xx + yy))) fun fq ho nq => ownL_set rfl (.leaf rfl (.int _)) ho hjl nq
            exact ⟨xx, yy, rfl, rfl, q1', xs4, za, j2, rfl, rfl, k2, by rw [← k3]; exact hj2, f.nx _ _ _ _ _ c s'⟩
          · exact c.elim
        · exact c.elim
      · exact c.elim
    · exact c.elim
  · exact w.elim
theorem RepL.erase {K : Fg} {F : Hp} : ∀ {ds : List D} {xs : List V} (j : Nat), RepL K F ds xs → RepL K F (ds.eraseIdx j) (xs.eraseIdx j)
  | _, _, _, .nil => .nil
  | _, _, 0, .cons _ r => r
  | _, _, j + 1, .cons (n := n1) h r => .cons (n := n1) h (RepL.erase j r)
theorem erase_leafy {ds : List D} (j : Nat) (h : ds.all D.leafy = true) : (ds.eraseIdx j).all D.leafy = true := by
  rw [List.all_eq_true] at *
  exact fun d hd => h d (List.mem_of_mem_eraseIdx hd)
theorem s_popI {i : Nat} {x : Str} {p ap cp : Pos} {e : E} {ee : Expr} (c : Cok X N sc k) (hv : visB N sc i x = true) (hl : (ap.endLine == cp.line) = true) (hs : okShape ee = true) (he : PE X ee (LE X.K e)) : PE X (.Call (.Attribute (.Name x p) "pop" ap) [ee] [] cp) (LE X.K (.popI i e)) := by
  have hp : PA X [ee] (tCons (LE X.K e) tNil) := pa_cons he pa_nil (star1 hs _ _)
  have few : ((backTo cp (starEach [ee] X.env)).all (fun x => !x.1) && (backToKw cp (keywordEach [] X.env)).all (fun x => x.1.isSome) && decide ([ee].length + ([] : List Keyword).length + (if ([] : List Keyword).isEmpty then 0 else 1) < 30)) = true := by
    rw [star1 hs]; rfl
  refine pe_mono (pe_bm PySem.F.plainAttrs_list PySem.F.slot_list_pop PySem.F.type_list_pop mt_popAt (vis_ok c hv) hp rfl few hl (star1 hs _ _) rfl) fun σ H Q w => ?_
  obtain ⟨P, F, env, L, C, st, w, k⟩ := w
  simp only [wE] at w
  obtain ⟨s0, e0, w⟩ := getK_iff.mp w
  split at w
  · rename_i ds0
    obtain ⟨v, L1, fp0, L2, h1, h2, _⟩ := st.sl.getOw e0
    obtain ⟨q, xs, fq, rfl, hr, ho, _⟩ := h2.lst_inv
    refine ⟨_, h1, .inl ⟨rfl, xs, SqL.of hr⟩, P, F, env, L, _, st, w, fun r e1 y F1 H1 L1 fp c po _ => ?_⟩
    split at c
    · rename_i z
      obtain ⟨r2, hfq⟩ := po.rr
      subst hfq
      cases r2
      obtain ⟨s1, e1', c⟩ := getK_iff.mp c
      split at c
      · rename_i ds
        obtain ⟨⟨hz1, hz2⟩, hlf, j, d0, ⟨hj, hd0⟩, c⟩ := c
        obtain ⟨hi, c⟩ := setK_iff.mp c
        obtain ⟨q2, xs2, g1, g2, g3, mk⟩ := po.st.change (fp := []) e1' (by simpa using po.st.nd) (fun _ z => nomatch z) (fun _ z => nomatch z)
        rw [h1] at g1
        injection g1 with g1; injection g1 with g1; injection g1 with g1; subst g1
        obtain ⟨v3, _, fp3, _, z1, z2, _⟩ := po.st.sl.getOw e1'
        obtain ⟨q3, xs3, fq3, rfl, hr3, ho3, _⟩ := z2.lst_inv
        rw [h1] at z1
        injection z1 with z1; injection z1 with z1; injection z1 with z1; subst z1
        rw [g2] at hr3
        injection hr3 with hr3; injection hr3 with hr3; subst hr3
        obtain ⟨rp, rfl⟩ := ho3.leaves hlf
        obtain ⟨y, hy, ry⟩ := rp.get hd0
        obtain ⟨L', s'⟩ := mk (ds.eraseIdx j) (xs2.eraseIdx j) fun fq ho nq => ⟨[], (RepL.erase j rp).own (erase_leafy j hlf), List.nodup_nil, fun a z => nomatch z⟩
        refine ⟨q, xs2, z, j, y, rfl, rfl, g2, hz1, hz2, by rw [← g3]; exact (ixN_seq hj).1, hy, ?_⟩
        exact k (.va d0) _ y F1 _ L' [] c ⟨s', ⟨ry, rfl⟩, by simpa using s'.nd, fun _ z => nomatch z⟩ fun e => nomatch e
      · exact c.elim
    · exact c.elim
  · exact w.elim
theorem st_ext {i : Nat} {x : Str} {p ap cp : Pos} {e : E} {ee : Expr} (c : CokS X N sc k) (hv : visB N sc i x = true) (hl : (ap.endLine == cp.line) = true) (hs : okShape ee = true) (he : PE X ee (LE X.K e)) :
    PS X (.Expr (.Call (.Attribute (.Name x p) "extend" ap) [ee] [] cp) pos) (LS X.K m (.ext i e)) := by
  have hp : PA X [ee] (tCons (LE X.K e) tNil) := pa_cons he pa_nil (star1 hs _ _)
  have few : ((backTo cp (starEach [ee] X.env)).all (fun x => !x.1) && (backToKw cp (keywordEach [] X.env)).all (fun x => x.1.isSome) && decide ([ee].length + ([] : List Keyword).length + (if ([] : List Keyword).isEmpty then 0 else 1) < 30)) = true := by
    rw [star1 hs]; rfl
  refine ps_mono (ps_expr (pe_bm PySem.F.plainAttrs_list PySem.F.slot_list_extend PySem.F.type_list_extend mt_extend3 (vis_ok c.toCok hv) hp rfl few hl (star1 hs _ _) rfl) rfl) fun D σ H w => ?_
  obtain ⟨P, F, env, L, KK, hf, st, w, f⟩ := w
  simp only [wS] at w
  obtain ⟨s0, e0, w⟩ := getK_iff.mp w
  split at w
  · rename_i ds0
    obtain ⟨v, L1, fp, L2, h1, h2, _⟩ := st.sl.getOw e0
    obtain ⟨q, xs, fq, rfl, hr, ho, _⟩ := h2.lst_inv
    refine ⟨_, h1, .inl ⟨rfl, xs, SqL.of hr⟩, P, F, env, L, _, st, w, fun r e1 y F1 H1 L1 fp c po _ => ?_⟩
    obtain ⟨b, zs, ys, rfl, hB, rp, hlf, c⟩ : ∃ b zs ys, y = .ref b ∧ (H1 b = some (.lst ys) ∨ SqT X.K H1 b ys) ∧ RepL X.K F1 zs ys ∧ zs.all PW.D.leafy = true ∧ getK e1 i fun s => match s with
        | .ow (.lst ds) => ds.length + zs.length ≤ sizeLine ∧ setK e1 i (.ow (.lst (ds ++ zs))) (KK.nx)
        | _ => False := by
      unfold extR at c
      split at c
      · rename_i zs
        obtain ⟨r2, hfq⟩ := po.rr
        cases r2 with
        | tup h1 h2 => exact ⟨_, zs, _, rfl, .inr (po.st.sub.sqT h1), h2, c.1, c.2⟩
      · rename_i zs
        obtain ⟨b, ys, fq2, rfl, hr2, ho2, _⟩ := Own.lst_inv po.rr
        exact ⟨b, zs, ys, rfl, .inl hr2, (ho2.leaves c.1).1, c.1, c.2⟩
      · exact c.elim
    obtain ⟨s1, e1', c⟩ := getK_iff.mp c
    split at c
    · rename_i ds
      obtain ⟨hz, c⟩ := c
      obtain ⟨hi, c⟩ := setK_iff.mp c
      obtain ⟨q2, xs2, g1, g2, g3, mk⟩ := po.st.change (fp := []) e1' (by simpa using po.st.nd) (fun _ z => nomatch z) (fun _ z => nomatch z)
      rw [h1] at g1
      injection g1 with g1; injection g1 with g1; injection g1 with g1; subst g1
      obtain ⟨L', s'⟩ := mk (ds ++ zs) (xs2 ++ ys) fun fq ho nq => ⟨fq ++ [], ho.append (rp.own hlf), by simpa using nq, fun a z => by simpa using z⟩
      exact ⟨q, b, xs2, ys, rfl, rfl, g2, hB, by rw [← g3, ← rp.length]; exact hz, f.nx _ _ _ _ _ c s'⟩
    · exact c.elim
  · exact w.elim
theorem st_augN {i : Nat} {x : Str} {p : Pos} {e : E} {ee : Expr} (c : CokS X N sc k) (hv : locB N sc i x = true) (hm : fxB m i = false) (he : PE X ee (LE X.K e)) :
    PS X (.AugAssign (.Name x p) .Add ee pos) (LS X.K m (.augN i e)) := by
  have hloc := loc_ok c.toCok hv
  refine ps_mono (ps_aug (by rw [c.n]; exact c.nd) hloc.1 hloc.2 he ip_add (.inl (c.fn x))) fun D σ H w => ?_
  obtain ⟨P, F, env, L, KK, hf, st, w, f⟩ := w
  simp only [wS] at w
  obtain ⟨s0, e0, w⟩ := getK_iff.mp w
  split at w
  · rename_i a
    obtain ⟨v, h1, r⟩ := st.sl.getSh e0
    cases r
    refine ⟨_, h1, P, F, env, L, _, st, w, fun r env1 y F1 H1 L1 fp c po _ => ?_⟩
    split at c
    · rename_i b
      obtain ⟨r2, hfp⟩ := po.rr
      subst hfp
      cases r2
      obtain ⟨hi, c⟩ := setK_iff.mp c
      obtain ⟨L', s'⟩ := po.st.store (o := .sh (.int (a + b))) (v := .int (a + b)) (fp := []) hi (by rw [hf]; exact hm) (.sh (.int _) .nil) (by simpa using po.st.nd) fun _ z => nomatch z
      exact ⟨a, b, rfl, rfl, f.nx _ _ _ _ _ c s'⟩
    · exact c.elim
  · exact w.elim
end
end PW

namespace PW
open PySem L2 PyProof.Rows
/-! ### frozen while an expression is reckoned; lists two levels down -/
theorem frzE_get : ∀ {q : List Bool} {env : PW.Env} {i : Nat} {d : D}, env[i]? = some (.ow d) → fxB q i = true → (frzE q env)[i]? = some (.sh d)
  | [], _, i, _, _, h => by simp [fxB] at h
  | _ :: _, [], i, _, e, _ => by simp at e
  | true :: q, s :: env, 0, d, e, _ => by
    simp at e; subst e; rfl
  | false :: q, s :: env, 0, d, e, h => by simp [fxB] at h
  | true :: q, s :: env, i + 1, d, e, h => by
    show (frzE q env)[i]? = _
    exact frzE_get (by simpa using e) (by simpa [fxB] using h)
  | false :: q, s :: env, i + 1, d, e, h => by
    show (frzE q env)[i]? = _
    exact frzE_get (by simpa using e) (by simpa [fxB] using h)
theorem frz_sta {K : Fg} {P : Par} {F H : Hp} {env : PW.Env} {σ : LSt} {L : List Addr} (st : Sta K P F env σ H L) (q : List Bool) : ∃ (L1 fp : List Addr) (F1 : Hp), Sta K ⟨P.Z, P.H0, F1, P.fx, P.s0⟩ F1 (frzE q env) σ H L1 ∧ Ext F F1 ∧
    ∀ (F2 H2 : Hp) (env2 : PW.Env) (L2 : List Addr) (k : PW.Env → Prop), Sta K ⟨P.Z, P.H0, F1, P.fx, P.s0⟩ F2 env2 σ H2 L2 → thawK q env env2 k →
      ∃ (F3 : Hp) (L3 : List Addr) (env3 : PW.Env), Sta K P F3 env3 σ H2 L3 ∧ k env3 ∧ Ext F F3 ∧
        ∀ fq : List Addr, (L2 ++ fq).Nodup → (∀ a ∈ fq, F2 a = none) → (L3 ++ fq).Nodup ∧ ∀ a ∈ fq, F3 a = none := by
  obtain ⟨L1, fp, pm, h1, h2⟩ := frz_slots (q := q) st.sl
  classical
  let F1 : Hp := fun a => if a ∈ fp then H a else F a
  have inL : ∀ a ∈ fp, a ∈ L := fun a z => pm.mem_iff.mpr (List.mem_append_right _ z)
  have nd := pm.nodup_iff.mp st.nd
  have x1 : Ext F F1 := fun a o e => by
    show (if a ∈ fp then H a else F a) = some o
    split
    · rename_i z; rw [(st.dis a (inL a z)).1] at e; cases e
    · exact e
  have y1 : ∀ a ∈ fp, F1 a = H a := fun a z => if_pos z
  refine ⟨L1, fp, F1, ?_, x1, fun F2 H2 env2 L2 k s2 n => ?_⟩
  · refine ⟨h1 F1 x1 y1, (List.nodup_append.mp nd).1, fun a z => ?_, fun a o e => ?_, Ext.refl _, fun a z => ⟨(st.z a z).1, (st.z a z).2.1, ?_⟩, st.fx⟩
    · have hn : a ∉ fp := fun w => (List.nodup_append.mp nd).2.2 a z a w rfl
      refine ⟨?_, (st.dis a (pm.mem_iff.mpr (List.mem_append_left _ z))).2⟩
      show (if a ∈ fp then H a else F a) = none
      rw [if_neg hn]
      exact (st.dis a (pm.mem_iff.mpr (List.mem_append_left _ z))).1
    · have e : (if a ∈ fp then H a else F a) = some o := e
      split at e
      · exact e
      · exact st.sub a o e
    · show (if a ∈ fp then H a else F a) = none
      rw [if_neg fun w => (st.dis a (inL a w)).2 z]
      exact (st.z a z).2.2
  let F3 : Hp := fun a => if a ∈ fp then none else F2 a
  have x12 : Ext F1 F2 := s2.f0
  have ge : ∀ a ∈ fp, H2 a = H a := fun a z => by
    obtain ⟨xs, e⟩ := st.sl.there a (inL a z)
    rw [e]
    exact s2.sub a _ (x12 a _ ((y1 a z).trans e))
  have x3 : Ext F F3 := fun a o e => by
    show (if a ∈ fp then none else F2 a) = some o
    split
    · rename_i z; rw [(st.dis a (inL a z)).1] at e; cases e
    · exact x12 a o (x1 a o e)
  obtain ⟨L3, env3, L2', k1, k2, k3, k4⟩ := h2 F2 F3 H2 env2 σ L2 _ s2.sl (fun j hj => rfl) ge x3 n
  have mem2 : ∀ a ∈ L2', F2 a = none ∧ ¬ P.Z a := fun a z => s2.dis a (k3.subset z)
  have there2 : ∀ a ∈ fp, F2 a ≠ none := fun a w e => by
    obtain ⟨xs, e2⟩ := st.sl.there a (inL a w)
    have := x12 a _ ((y1 a w).trans e2)
    rw [e] at this
    cases this
  have notin : ∀ a ∈ L2', a ∉ fp := fun a z w => there2 a w (mem2 a z).1
  refine ⟨F3, L3, env3, ⟨k1, ?_, fun a z => ?_, fun a o e => ?_, fun a o e => x3 a o (st.f0 a o e), fun a z => ⟨(s2.z a z).1, (s2.z a z).2.1, ?_⟩, s2.fx⟩, k2, x3, fun fq nq hq => ⟨?_, fun a z => ?_⟩⟩
  · rw [k4.nodup_iff]
    exact List.nodup_append.mpr ⟨k3.nodup s2.nd, (List.nodup_append.mp nd).2.1, fun a z b w e => notin a z (e ▸ w)⟩
  · rcases List.mem_append.mp (k4.mem_iff.mp z) with z | z
    · refine ⟨?_, (mem2 a z).2⟩
      show (if a ∈ fp then none else F2 a) = none
      rw [if_neg (notin a z)]
      exact (mem2 a z).1
    · exact ⟨if_pos z, (st.dis a (inL a z)).2⟩
  · have e : (if a ∈ fp then none else F2 a) = some o := e
    split at e
    · cases e
    · exact s2.sub a o e
  · show (if a ∈ fp then none else F2 a) = none
    rw [if_neg fun w => (st.dis a (inL a w)).2 z]
    exact (s2.z a z).2.2
  · have n1 := List.nodup_append.mp nq
    refine List.nodup_append.mpr ⟨?_, n1.2.1, fun a z b w e => ?_⟩
    · rw [k4.nodup_iff]
      exact List.nodup_append.mpr ⟨k3.nodup s2.nd, (List.nodup_append.mp nd).2.1, fun a z b w e => notin a z (e ▸ w)⟩
    · subst e
      rcases List.mem_append.mp (k4.mem_iff.mp z) with z | z
      · exact n1.2.2 a (k3.subset z) a w rfl
      · exact there2 a z (hq a w)
  · show (if a ∈ fp then none else F2 a) = none
    split
    · rfl
    · exact hq a z
theorem flatR_ok {K : Fg} {F H : Hp} {σ : LSt} {r : R} {v : V} {fp : List Addr} {C : R → Prop} (h : RR K F H σ r v fp) (w : flatR r C) : ∃ z, C z ∧ ∀ F3, RR K F3 H σ z v fp := by
  cases r with
  | va d =>
    cases h.1 with
    | non => exact ⟨_, w, fun _ => ⟨.non, h.2⟩⟩
    | bl b => exact ⟨_, w, fun _ => ⟨.bl b, h.2⟩⟩
    | int i => exact ⟨_, w, fun _ => ⟨.int i, h.2⟩⟩
    | str s => exact ⟨_, w, fun _ => ⟨.str s, h.2⟩⟩
    | tup _ _ => exact w.elim
    | dct _ _ _ => exact w.elim
    | lst _ _ => exact w.elim
    | scr _ _ => exact w.elim
    | flz _ _ => exact w.elim
  | ow d => exact ⟨_, w.2, fun _ => flat_own h w.1⟩
  | rf i => exact w.elim
  | al d => exact w.elim
theorem atm_ok {K : Fg} {P : Par} {F H : Hp} {env : PW.Env} {σ : LSt} {L : List Addr} {e : E} {k : Int → Prop} (st : Sta K P F env σ H L) (w : atmK e env k) : ∃ z, k z ∧ e.qt = true ∧ wE e env fun r e' => r = .va (.int z) ∧ e' = env := by
  cases e with
  | v j =>
    obtain ⟨s, e0, w⟩ := getK_iff.mp (show getK env j _ from w)
    cases s with
    | sh d =>
      cases d with
      | int z =>
        refine ⟨z, w, rfl, ?_⟩
        simp only [wE]
        exact getK_iff.mpr ⟨_, e0, rfl, trivial⟩
      | _ => exact w.elim
    | _ => exact w.elim
  | int z =>
    refine ⟨z, w, rfl, ?_⟩
    simp only [wE]
    exact ⟨trivial, trivial⟩
  | _ => exact w.elim
theorem Rd.in' {F H : Hp} {a : Addr} {xs : List V} (s : Ext F H) (h : Rd F a (.lst xs)) (e : H a ≠ none) (ne : ∃ ys, H a = some (.lst ys)) : F a = some (.lst xs) := by
  rcases h with h | ⟨o, h⟩
  · exact h
  · obtain ⟨ys, e2⟩ := ne
    have := s _ _ h
    rw [e2] at this
    cases this
theorem Sta.change3 {K : Fg} {P : Par} {F H : Hp} {env : PW.Env} {σ : LSt} {L fp : List Addr} {i j j2 : Nat} {ds es gs : List D} (s : Sta K P F env σ H L) (e : env[i]? = some (.ow (.lst ds))) (hj : ds[j]? = some (.lst es)) (hj2 : es[j2]? = some (.lst gs)) (nd : (L ++ fp).Nodup) (dis : ∀ a ∈ fp, F a = none ∧ ¬ P.Z a) :
    ∃ q xs q2 ys q3 zs, σ[i]? = some (some (.ref q)) ∧ H q = some (.lst xs) ∧ ds.length = xs.length ∧ xs[j]? = some (.ref q2) ∧ H q2 = some (.lst ys) ∧ es.length = ys.length ∧ ys[j2]? = some (.ref q3) ∧ H q3 = some (.lst zs) ∧ gs.length = zs.length ∧ ∀ gs' zs', (∀ fq, OwnL K F H gs zs fq → (fq ++ fp).Nodup → ∃ fr, OwnL K F H gs' zs' fr ∧ fr.Nodup ∧ ∀ a ∈ fr, a ∈ fq ++ fp) →
      ∃ L', Sta K P F (env.set i (.ow (.lst (ds.set j (.lst (es.set j2 (.lst gs'))))))) σ (L2.upd H q3 (.lst zs')) L' := by
  obtain ⟨v, fp0, L1, h1, h2, h3, h4⟩ := s.take e
  obtain ⟨q, xs, fq, rfl, hr, ho, rfl⟩ := h2.lst_inv
  obtain ⟨A, B, q2, ys, f2, g1, g2, g3, rfl, g5⟩ := ownL_split ho hj
  obtain ⟨A2, B2, q3, zs, f3, k1, k2, k3, rfl, k5⟩ := ownL_split g3 hj2
  have nd1 := h4.nodup_iff.mp s.nd
  have m1 := List.nodup_append.mp nd1
  have inL : ∀ a ∈ q :: (A ++ (q2 :: (A2 ++ (q3 :: f3) ++ B2)) ++ B), a ∈ L := fun a z => h4.mem_iff.mpr (List.mem_append_right _ z)
  have qn := List.nodup_cons.mp m1.2.1
  have all : (A ++ (q2 :: (A2 ++ (q3 :: f3) ++ B2)) ++ B ++ fp).Nodup := List.nodup_append.mpr ⟨qn.2, (List.nodup_append.mp nd).2.1, fun a z b w => (List.nodup_append.mp nd).2.2 a (inL a (List.mem_cons_of_mem _ z)) b w⟩
  have n0 := List.nodup_append.mp all
  have n1 := List.nodup_append.mp n0.1
  have n2 := List.nodup_append.mp n1.1
  have n3 := List.nodup_cons.mp n2.2.1
  have n4 := List.nodup_append.mp n3.2
  have n5 := List.nodup_append.mp n4.1
  have n6 := List.nodup_cons.mp n5.2.1
  have in3 : ∀ a ∈ A2 ++ (q3 :: f3) ++ B2, a ∈ A ++ (q2 :: (A2 ++ (q3 :: f3) ++ B2)) ++ B := fun a z => List.mem_append_left _ (List.mem_append_right _ (List.mem_cons_of_mem _ z))
  have q3in : q3 ∈ A2 ++ (q3 :: f3) ++ B2 := by simp
  have inner : (A2 ++ (q3 :: f3) ++ B2 ++ fp).Nodup := List.nodup_append.mpr ⟨n3.2, n0.2.1, fun a z b w => n0.2.2 a (in3 a z) b w⟩
  have q3fp : q3 ∉ fp := fun z => n0.2.2 q3 (in3 q3 q3in) q3 z rfl
  have q2fp : q2 ∉ fp := fun z => n0.2.2 q2 (by simp) q2 z rfl
  have q23 : q2 ≠ q3 := fun e => n3.1 (by rw [e]; exact q3in)
  have keep1 : ∀ a ∈ A ++ B, a ≠ q3 := fun a z e => by
    subst e
    rcases List.mem_append.mp z with z | z
    · exact n2.2.2 a z a (List.mem_cons_of_mem _ q3in) rfl
    · exact n1.2.2 a (List.mem_append_right _ (List.mem_cons_of_mem _ q3in)) a z rfl
  have keep2 : ∀ a ∈ A2 ++ B2, a ≠ q3 := fun a z e => by
    subst e
    rcases List.mem_append.mp z with z | z
    · exact n5.2.2 a z a List.mem_cons_self rfl
    · exact n4.2.2 a (by simp) a z rfl
  refine ⟨q, xs, q2, ys, q3, zs, h1, hr, ho.length, g1, g2, g3.length, k1, k2, k3.length, fun gs' zs' mk => ?_⟩
  obtain ⟨fr, o', nr, mr⟩ := mk f3 k3 (List.nodup_append.mpr ⟨n6.2, n0.2.1, fun a z b w => n0.2.2 a (in3 a (by simp [z])) b w⟩)
  have q3fr : q3 ∉ fr := fun z => (List.mem_append.mp (mr q3 z)).elim n6.1 q3fp
  have q3L : q3 ∈ q :: (A ++ (q2 :: (A2 ++ (q3 :: f3) ++ B2)) ++ B) := List.mem_cons_of_mem _ (in3 q3 q3in)
  have s2 : Sta K P F (env.set i .no) σ (L2.upd H q3 (.lst zs')) L1 := h3.upd (fun z => m1.2.2 q3 z q3 q3L rfl) (s.dis q3 (inL _ q3L)).1 (s.dis q3 (inL _ q3L)).2
  have hi : i < env.length := (List.getElem?_eq_some_iff.mp e).1
  have oNew : Own K F (L2.upd H q3 (.lst zs')) (.lst gs') (.ref q3) (q3 :: fr) := .lst (upd_same (o := .lst zs')) (o'.mono (Ext.refl _) fun a z => upd_ne (b := a) fun (e : a = q3) => q3fr (e ▸ z))
  have oL2 := k5 (L2.upd H q3 (.lst zs')) (.lst gs') (q3 :: fr) (fun a z => upd_ne (keep2 a z)) rfl oNew
  obtain ⟨nm2, mm2⟩ := nodup_mid (N := q3 :: fr) inner (List.nodup_cons.mpr ⟨q3fr, nr⟩) fun a z => by
    rcases List.mem_cons.mp z with z | z
    · subst z; simp
    · rcases List.mem_append.mp (mr a z) with w | w
      · simp [w]
      · simp [w]
  have q2N : q2 ∉ A2 ++ (q3 :: fr) ++ B2 := fun z => (List.mem_append.mp (mm2 q2 z)).elim n3.1 q2fp
  have oMid : Own K F (L2.upd H q3 (.lst zs')) (.lst (es.set j2 (.lst gs'))) (.ref q2) (q2 :: (A2 ++ (q3 :: fr) ++ B2)) := .lst (by rw [upd_ne q23]; exact g2) oL2
  have oL := g5 (L2.upd H q3 (.lst zs')) (.lst (es.set j2 (.lst gs'))) (q2 :: (A2 ++ (q3 :: fr) ++ B2)) (fun a z => upd_ne (keep1 a z)) rfl oMid
  obtain ⟨nm, mm⟩ := nodup_mid (N := q2 :: (A2 ++ (q3 :: fr) ++ B2)) all (List.nodup_cons.mpr ⟨q2N, nm2⟩) fun a z => by
    rcases List.mem_cons.mp z with z | z
    · subst z; simp
    · rcases List.mem_append.mp (mm2 a z) with w | w
      · exact List.mem_append_left _ (List.mem_cons_of_mem _ w)
      · exact List.mem_append_right _ w
  have qq3 : q ≠ q3 := fun e => qn.1 (by rw [e]; exact in3 q3 q3in)
  have qfp : q ∉ fp := fun z => (List.nodup_append.mp nd).2.2 q (inL q List.mem_cons_self) q z rfl
  have root : Own K F (L2.upd H q3 (.lst zs')) (.lst (ds.set j (.lst (es.set j2 (.lst gs'))))) (.ref q) (q :: (A ++ (q2 :: (A2 ++ (q3 :: fr) ++ B2)) ++ B)) := .lst (by rw [upd_ne qq3]; exact hr) oL
  obtain ⟨L', s3, _⟩ := s2.give (i := i) (by rw [List.length_set]; exact hi) h1 root (by
      refine List.nodup_append.mpr ⟨m1.1, List.nodup_cons.mpr ⟨fun z => (List.mem_append.mp (mm q z)).elim qn.1 qfp, nm⟩, fun a z b w e => ?_⟩
      subst e
      rcases List.mem_cons.mp w with w | w
      · exact m1.2.2 a z q List.mem_cons_self w
      · rcases List.mem_append.mp (mm a w) with w | w
        · exact m1.2.2 a z a (List.mem_cons_of_mem _ w) rfl
        · exact (List.nodup_append.mp nd).2.2 a (h4.mem_iff.mpr (List.mem_append_left _ z)) a w rfl) fun a w => by
      rcases List.mem_cons.mp w with w | w
      · subst w; exact s.dis a (inL a List.mem_cons_self)
      · rcases List.mem_append.mp (mm a w) with w | w
        · exact s.dis a (inL a (List.mem_cons_of_mem _ w))
        · exact dis a w
  rw [List.set_set] at s3
  exact ⟨L', s3⟩
section
variable {N : List Str} {sc : Scope} {m : List Bool} {x : Expr} {st : Stmt}
theorem inv_flst (es : Es) (h : cE N sc (.flst es) x = true) : ∃ xs p, x = .List xs p ∧ cEs N sc es xs = true := by
  cases x with
  | List xs p => exact ⟨xs, p, rfl, by simpa only [cE] using h⟩
  | _ => exfalso; revert h; simp only [cE]; decide
theorem inv_appPP (q : List Bool) (i : Nat) (a b e : E) (h : cS N sc m (.appPP q i a b e) st = true) : ∃ y p b1 p1 b2 p2 ap z cp r, st = .Expr (.Call (.Attribute (.Subscript (.Subscript (.Name y p) b1 p1) b2 p2) "append" ap) [z] [] cp) r ∧ visB N sc i y = true ∧ (ap.endLine == cp.line) = true ∧ cE N sc a b1 = true ∧ cE N sc b b2 = true ∧ cE N sc e z = true := by
  unfold cS at h
  split at h
  all_goals first
    | (rename_i e; cases e; simp only [Bool.and_eq_true, decide_eq_true_eq] at h; obtain ⟨⟨⟨⟨⟨h1, rfl⟩, h2⟩, h3⟩, h4⟩, h5⟩ := h; exact ⟨_, _, _, _, _, _, _, _, _, _, rfl, h1, h2, h3, h4, h5⟩)
    | (rename_i e _; cases e; simp only [Bool.and_eq_true, decide_eq_true_eq] at h; obtain ⟨⟨⟨⟨⟨h1, rfl⟩, h2⟩, h3⟩, h4⟩, h5⟩ := h; exact ⟨_, _, _, _, _, _, _, _, _, _, rfl, h1, h2, h3, h4, h5⟩)
    | (rename_i e; cases e; done)
    | (rename_i e _; cases e; done)
    | exact absurd h Bool.false_ne_true
theorem inv_clrP (i : Nat) (a b : E) (h : cS N sc m (.clrP i a b) st = true) : ∃ y p b1 p1 b2 p2 ap cp r, st = .Expr (.Call (.Attribute (.Subscript (.Subscript (.Name y p) b1 p1) b2 p2) "clear" ap) [] [] cp) r ∧ visB N sc i y = true ∧ (ap.endLine == cp.line) = true ∧ cE N sc a b1 = true ∧ cE N sc b b2 = true := by
  unfold cS at h
  split at h
  all_goals first
    | (rename_i e; cases e; simp only [Bool.and_eq_true, decide_eq_true_eq] at h; obtain ⟨⟨⟨⟨h1, rfl⟩, h2⟩, h3⟩, h4⟩ := h; exact ⟨_, _, _, _, _, _, _, _, _, rfl, h1, h2, h3, h4⟩)
    | (rename_i e _; cases e; simp only [Bool.and_eq_true, decide_eq_true_eq] at h; obtain ⟨⟨⟨⟨h1, rfl⟩, h2⟩, h3⟩, h4⟩ := h; exact ⟨_, _, _, _, _, _, _, _, _, rfl, h1, h2, h3, h4⟩)
    | (rename_i e; cases e; done)
    | (rename_i e _; cases e; done)
    | exact absurd h Bool.false_ne_true
theorem inv_mset (g i : Nat) (b : Bool) (h : cS N sc m (.mset g i b) st = true) : ∃ y p1 x1 p2 z p3 k1 p4 p5 k2 p6 p7 p8, st = .For (.Name y p1) (.Name x1 p2) [.Assign [.Subscript (.Name z p3) (.Constant (.int 0) k1 p4) p5] (.Constant (.bool b) k2 p6) p7] [] p8 ∧
    visB N sc i x1 = true ∧ locB N sc g y = true ∧ visB N sc g z = true ∧ fxB m g = false ∧ g ≠ i := by
  unfold cS at h
  split at h
  all_goals first
    | (rename_i e; cases e; simp only [Bool.and_eq_true, decide_eq_true_eq] at h; obtain ⟨⟨⟨⟨⟨⟨h1, h2⟩, h3⟩, h4⟩, h5⟩, rfl⟩, h7⟩ := h; exact ⟨_, _, _, _, _, _, _, _, _, _, _, _, _, rfl, h1, h2, h3, by simpa using h4, by simpa using h5⟩)
    | (rename_i e _; cases e; simp only [Bool.and_eq_true, decide_eq_true_eq] at h; obtain ⟨⟨⟨⟨⟨⟨h1, h2⟩, h3⟩, h4⟩, h5⟩, rfl⟩, h7⟩ := h; exact ⟨_, _, _, _, _, _, _, _, _, _, _, _, _, rfl, h1, h2, h3, by simpa using h4, by simpa using h5⟩)
    | (rename_i e; cases e; done)
    | (rename_i e _; cases e; done)
    | exact absurd h Bool.false_ne_true
end
section
variable {X : Cx} {N : List Str} {sc : Scope} {k : Nat} {m : List Bool} {a b : E} {ea eb : Expr} {pos : Pos} {s : PW.S} {st : Stmt}
theorem s_frzE {q : List Bool} (h : PE X ea (LE X.K a)) : PE X ea (LE X.K (.frz q a)) := by
  refine pe_mono h fun σ H Q w => ?_
  obtain ⟨P, F, env, L, C, st, w, k⟩ := w
  simp only [wE] at w
  have w := frzK_iff _ _ _ w
  obtain ⟨L1, fp, F1, st1, x1, back⟩ := frz_sta st q
  refine ⟨_, F1, _, L1, _, st1, w, fun r env2 v F2 H2 L2 fq c po _ => ?_⟩
  obtain ⟨z, c, rz⟩ := flatR_ok po.rr c
  obtain ⟨F3, L3, env3, s3, c, x3, res⟩ := back F2 H2 env2 L2 _ po.st c
  obtain ⟨nd3, d3⟩ := res fq po.nd fun a z => (po.dis a z).1
  refine k z env3 v F3 H2 L3 fq c ⟨s3, rz F3, nd3, fun a z => ⟨d3 a z, (po.dis a z).2⟩⟩ fun e => nomatch e
theorem st_clrP {i : Nat} {x : Str} {p p1 p2 ap cp : Pos} (c : CokS X N sc k) (hv : visB N sc i x = true) (hl : (ap.endLine == cp.line) = true) (hi : okShape ea = true) (hi2 : okShape eb = true) (ha : PE X ea (LE X.K a)) (hb : PE X eb (LE X.K b)) :
    PS X (.Expr (.Call (.Attribute (.Subscript (.Subscript (.Name x p) ea p1) eb p2) "clear" ap) [] [] cp) pos) (LS X.K m (.clrP i a b)) := by
  refine ps_mono (ps_expr (pe_bm0 PySem.F.plainAttrs_list PySem.F.slot_list_clear PySem.F.type_list_clear mt_clear (pe_ix ix_list (pe_ix ix_list (vis_ok c.toCok hv) ha (plainIx hi)) hb (plainIx hi2)) rfl hl) rfl) fun D σ H w => ?_
  obtain ⟨P, F, env, L, KK, hf, st, w, f⟩ := w
  simp only [wS] at w
  obtain ⟨s0, e0, w⟩ := getK_iff.mp w
  split at w
  · rename_i ds
    obtain ⟨za, w, qa, wa⟩ := atm_ok st w
    obtain ⟨zb, w, qb, wb⟩ := atm_ok st w
    obtain ⟨j, es, j2, gs, ⟨hj, hes, hj2, hgs⟩, w⟩ := w
    obtain ⟨hi0, w⟩ := setK_iff.mp w
    obtain ⟨v, L1, fp0, L2', h1, h2, _⟩ := st.sl.getOw e0
    refine ⟨_, h1, P, F, env, L, _, st, wa, fun r env1 z F1 H1 L1' fq c po q => ?_⟩
    obtain ⟨rfl, rfl⟩ := c
    obtain ⟨r2, hfq⟩ := po.rr
    subst hfq
    cases r2
    obtain ⟨q1, xs, q2, ys, q3, zs, g1, g2, g3, g4, g5, g6, g7, g8, g9, _⟩ := po.st.change3 (fp := []) e0 hes hgs (by simpa using po.st.nd) (fun _ z => nomatch z)
    rw [h1] at g1
    injection g1 with g1; injection g1 with g1; subst g1
    refine ⟨q1, xs, za, .ref q2, rfl, rfl, SqL.of g2, atI_of g3 hj g4, P, F1, env1, L1', _, po.st, wb, fun r env2 u F2 H2 L2 fr c po2 qq => ?_⟩
    obtain ⟨rfl, rfl⟩ := c
    have hx := qq qb
    obtain ⟨r3, hfr⟩ := po2.rr
    subst hfr
    cases r3
    obtain ⟨q1', xs', q2', ys', q3', zs', k1, k2, k3, k4, k5, k6, k7, k8, k9, mk⟩ := po2.st.change3 (fp := []) e0 hes hgs (by simpa using po2.st.nd) (fun _ z => nomatch z)
    rw [h1] at k1
    injection k1 with k1; injection k1 with k1; injection k1 with k1; subst k1
    rw [hx _ _ g2] at k2
    injection k2 with k2; injection k2 with k2; subst k2
    rw [g4] at k4
    injection k4 with k4; injection k4 with k4; subst k4
    refine ⟨q2, ys', zb, .ref q3', rfl, rfl, SqL.of k5, atI_of k6 hj2 k7, .inl ⟨rfl, zs', SqL.of k8⟩, q3', zs', rfl, rfl, k8, ?_⟩
    obtain ⟨L3, s'⟩ := mk [] [] fun fq ho nq => ⟨[], .nil, List.nodup_nil, fun _ z => nomatch z⟩
    exact f.nx _ _ _ _ _ w s'
  · exact w.elim
theorem st_appPP {q : List Bool} {i : Nat} {x : Str} {p p1 p2 ap cp : Pos} {e : E} {ee : Expr} (c : CokS X N sc k) (hv : visB N sc i x = true) (hl : (ap.endLine == cp.line) = true) (hi : okShape ea = true) (hi2 : okShape eb = true) (hs : okShape ee = true) (ha : PE X ea (LE X.K a)) (hb : PE X eb (LE X.K b)) (he : PE X ee (LE X.K e)) :
    PS X (.Expr (.Call (.Attribute (.Subscript (.Subscript (.Name x p) ea p1) eb p2) "append" ap) [ee] [] cp) pos) (LS X.K m (.appPP q i a b e)) := by
  have hp : PA X [ee] (tCons (LE X.K e) tNil) := pa_cons he pa_nil (star1 hs _ _)
  have few : ((backTo cp (starEach [ee] X.env)).all (fun x => !x.1) && (backToKw cp (keywordEach [] X.env)).all (fun x => x.1.isSome) && decide ([ee].length + ([] : List Keyword).length + (if ([] : List Keyword).isEmpty then 0 else 1) < 30)) = true := by
    rw [star1 hs]; rfl
  refine ps_mono (ps_expr (pe_bm PySem.F.plainAttrs_list PySem.F.slot_list_append PySem.F.type_list_append mt_append (pe_ix ix_list (pe_ix ix_list (vis_ok c.toCok hv) ha (plainIx hi)) hb (plainIx hi2)) hp rfl few hl (star1 hs _ _) rfl) rfl) fun D σ H w => ?_
  obtain ⟨P, F, env, L, KK, hf, st, w, f⟩ := w
  simp only [wS] at w
  obtain ⟨hqi, w⟩ := w
  obtain ⟨s0, e0, w⟩ := getK_iff.mp w
  split at w
  · rename_i ds
    obtain ⟨za, w, qa, wa⟩ := atm_ok st w
    obtain ⟨zb, w, qb, wb⟩ := atm_ok st w
    obtain ⟨j, es, j2, gs, ⟨hj, hes, hj2, hgs⟩, hz, w⟩ := w
    have w := frzK_iff _ _ _ w
    obtain ⟨v, L1, fp0, L2', h1, h2, _⟩ := st.sl.getOw e0
    refine ⟨_, h1, P, F, env, L, _, st, wa, fun r env1 z F1 H1 L1' fq c po qq0 => ?_⟩
    obtain ⟨rfl, rfl⟩ := c
    obtain ⟨r2, hfq⟩ := po.rr
    subst hfq
    cases r2
    obtain ⟨q1, xs, q2, ys, q3, zs, g1, g2, g3, g4, g5, g6, g7, g8, g9, _⟩ := po.st.change3 (fp := []) e0 hes hgs (by simpa using po.st.nd) (fun _ z => nomatch z)
    rw [h1] at g1
    injection g1 with g1; injection g1 with g1; subst g1
    refine ⟨q1, xs, za, .ref q2, rfl, rfl, SqL.of g2, atI_of g3 hj g4, P, F1, env1, L1', _, po.st, wb, fun r env2 u F2 H2 L2 fr c po2 qq => ?_⟩
    obtain ⟨rfl, rfl⟩ := c
    have hx := qq qb
    obtain ⟨r3, hfr⟩ := po2.rr
    subst hfr
    cases r3
    obtain ⟨q1', xs', q2', ys', q3', zs', k1, k2, k3, k4, k5, k6, k7, k8, k9, _⟩ := po2.st.change3 (fp := []) e0 hes hgs (by simpa using po2.st.nd) (fun _ z => nomatch z)
    rw [h1] at k1
    injection k1 with k1; injection k1 with k1; injection k1 with k1; subst k1
    rw [hx _ _ g2] at k2
    injection k2 with k2; injection k2 with k2; subst k2
    rw [g4] at k4
    injection k4 with k4; injection k4 with k4; subst k4
    refine ⟨q2, ys', zb, .ref q3', rfl, rfl, SqL.of k5, atI_of k6 hj2 k7, .inl ⟨rfl, zs', SqL.of k8⟩, ?_⟩
    -- the argument, all else frozen
    obtain ⟨L4, fp4, F4, st4, x4, back⟩ := frz_sta po2.st q
    obtain ⟨v4, e4, r4⟩ := st4.sl.getSh (frzE_get e0 hqi)
    rw [h1] at e4
    injection e4 with e4; injection e4 with e4; subst e4
    have sub4 := st4.sub
    cases r4 with
    | lst rq4 rl4 =>
      rename_i xs4
      have a1 := Rd.in' sub4 rq4 (by rw [hx _ _ g2]; simp) ⟨_, hx _ _ g2⟩
      have a1' := sub4 _ _ a1
      rw [hx _ _ g2] at a1'
      injection a1' with a1'; injection a1' with a1'; subst a1'
      obtain ⟨v5, b1, b2⟩ := rl4.get hes
      rw [g4] at b1
      injection b1 with b1; subst b1
      cases b2 with
      | lst rq5 rl5 =>
        rename_i ys5
        have a2 := Rd.in' sub4 rq5 (by rw [k5]; simp) ⟨_, k5⟩
        have a2' := sub4 _ _ a2
        rw [k5] at a2'
        injection a2' with a2'; injection a2' with a2'; subst a2'
        obtain ⟨v6, b3, b4⟩ := rl5.get hgs
        rw [k7] at b3
        injection b3 with b3; subst b3
        cases b4 with
        | lst rq6 rl6 =>
          rename_i zs6
          have a3 := Rd.in' sub4 rq6 (by rw [k8]; simp) ⟨_, k8⟩
          have a3' := sub4 _ _ a3
          rw [k8] at a3'
          injection a3' with a3'; injection a3' with a3'; subst a3'
          refine ⟨_, F4, _, L4, _, st4, w, fun r env3 y F5 H5 L5 fp5 c po5 _ => ?_⟩
          have e5 : Ext F4 H5 := po5.st.f0.trans po5.st.sub
          obtain ⟨zz, c, rz⟩ := flatR_ok po5.rr c
          obtain ⟨F6, L6, env6, s6, c, x6, res⟩ := back F5 H5 env3 L5 _ po5.st c
          obtain ⟨nd6, d6⟩ := res fp5 po5.nd fun a z => (po5.dis a z).1
          obtain ⟨s7, e7, rfl, c⟩ := getK_iff.mp c
          obtain ⟨d, o, nn, c⟩ := lstK1 (rz F6) c
          obtain ⟨hi0, c⟩ := setK_iff.mp c
          obtain ⟨q7, xs7, q8, ys8, q9, zs9, m1, m2, m3, m4, m5, m6, m7, m8, m9, mk⟩ := s6.change3 e7 hes hgs nd6 fun a z => ⟨d6 a z, (po5.dis a z).2⟩
          rw [h1] at m1
          injection m1 with m1; injection m1 with m1; injection m1 with m1; subst m1
          rw [e5 _ _ a1] at m2
          injection m2 with m2; injection m2 with m2; subst m2
          rw [g4] at m4
          injection m4 with m4; injection m4 with m4; subst m4
          rw [e5 _ _ a2] at m5
          injection m5 with m5; injection m5 with m5; subst m5
          rw [k7] at m7
          injection m7 with m7; injection m7 with m7; subst m7
          rw [e5 _ _ a3] at m8
          injection m8 with m8; injection m8 with m8; subst m8
          obtain ⟨L7, s'⟩ := mk (gs ++ [d]) (zs' ++ [y]) fun fq ho nq => ⟨fq ++ (fp5 ++ []), ho.append (.cons (n := nn) o .nil), by simpa using nq, fun a z => by simpa using z⟩
          exact ⟨q3', zs', y, rfl, rfl, e5 _ _ a3, by rw [← k9]; exact hz, f.nx _ _ _ _ _ c s'⟩
  · exact w.elim
theorem hd0_set {ds : List D} {n : Nat} {x : D} {es : List D} {b : Bool} (h : ds[n]? = some (.lst (x :: es))) : ((ds.take n).map (hd0 b) ++ ds.drop n).set n (.lst (.bl b :: es)) = (ds.take (n + 1)).map (hd0 b) ++ ds.drop (n + 1) := by
  have hn := (List.getElem?_eq_some_iff.mp h).1
  have hl : ((ds.take n).map (hd0 b)).length = n := by rw [List.length_map, List.length_take]; omega
  have hd : ds.drop n = .lst (x :: es) :: ds.drop (n + 1) := by rw [List.drop_eq_getElem_cons hn, (List.getElem?_eq_some_iff.mp h).2]
  rw [hd, List.set_append_right _ _ (by omega), hl, Nat.sub_self, List.take_add_one, h]
  simp [hd0]
theorem Sta.drop {K : Fg} {P : Par} {F H : Hp} {env : PW.Env} {σ : LSt} {L : List Addr} {g : Nat} (s : Sta K P F env σ H L) (hg : g < env.length) (hf : P.fx g = false) (o : Option V) : ∃ L', Sta K P F (env.set g .no) (σ.set g o) H L' := by
  obtain ⟨L1, L2, L0, h1, h2⟩ := s.sl.put hg .no o [] (.no .nil)
  rw [List.append_nil] at h1
  have nd := s.nd
  rw [h2] at nd
  have n1 := List.nodup_append.mp nd
  have n2 := List.nodup_append.mp n1.1
  have mem : ∀ a ∈ L1 ++ L2, a ∈ L := fun a z => by
    rw [h2]
    simp only [List.mem_append] at z ⊢
    rcases z with z | z
    · exact .inl (.inl z)
    · exact .inr z
  refine ⟨_, h1, List.nodup_append.mpr ⟨n2.1, n1.2.1, fun a z b w => n1.2.2 a (List.mem_append_left _ z) b w⟩, fun a z => s.dis a (mem a z), s.sub, s.f0, s.z, fun j hj => ?_⟩
  have : g ≠ j := fun e => by subst e; rw [hf] at hj; cases hj
  rw [List.getElem?_set_ne this]
  exact s.fx j hj
theorem st_mset {g i : Nat} {b : Bool} {y x1 z : Str} {p1 p2 p3 p4 p5 p6 p7 : Pos} {k1 k2 : Nat} (c : CokS X N sc k) (h1 : visB N sc i x1 = true) (h2 : locB N sc g y = true) (h3 : visB N sc g z = true) (h4 : fxB m g = false) (h5 : g ≠ i) :
    PS X (.For (.Name y p1) (.Name x1 p2) [.Assign [.Subscript (.Name z p3) (.Constant (.int 0) k1 p4) p5] (.Constant (.bool b) k2 p6) p7] [] pos) (LS X.K m (.mset g i b)) := by
  obtain ⟨l1, l2⟩ := loc_ok c.toCok h2
  have nd : X.N.Nodup := by rw [c.n]; exact c.nd
  have sw : swapsWithSole [.Subscript (.Name z p3) (.Constant (.int 0) k1 p4) p5] (.Constant (.bool b) k2 p6) p7.line X.env = pure false := noswap (x := .Constant (.bool b) k2 p6) rfl (some (.Subscript (.Name z p3) (.Constant (.int 0) k1 p4) p5)) p7.line X.env
  have body := ps_asg (X := X) (pos := p7) (e := .Constant (.bool b) k2 p6) pe_bl (pg_sub (vis_ok c.toCok h3 (pos := p3)) (pe_int (X := X) (i := 0) (j := k1) (pos := p4)) set_list (asgSub (p := p5) rfl X.env)) sw rfl rfl
  refine ps_mono (ps_for c.own c.calm (pi_list (vis_ok c.toCok h1)) (pg_name nd l1 l2 (.inl (c.fn y))) (pss_cons body pss_nil) (nofold rfl X.env)) fun D σ H w => ?_
  obtain ⟨P, F, env, L, KK, hf, st, w, f⟩ := w
  simp only [wS] at w
  obtain ⟨s0, e0, w⟩ := getK_iff.mp w
  split at w
  · rename_i ds
    obtain ⟨hds, w⟩ := w
    obtain ⟨hi, w⟩ := setK_iff.mp w
    obtain ⟨hg, w⟩ := setK_iff.mp w
    rw [List.length_set] at hg
    have fxg : P.fx g = false := by rw [hf]; exact h4
    obtain ⟨v, L1, fp0, L2', q1, q2, _⟩ := st.sl.getOw e0
    obtain ⟨qa, xs, fq, rfl, hr, ho, _⟩ := q2.lst_inv
    have gσ : g < σ.length := by rw [← st.sl.length]; exact hg
    let envn : Nat → PW.Env := fun n => (env.set i (.ow (.lst ((ds.take n).map (hd0 b) ++ ds.drop n)))).set g .no
    obtain ⟨L0, st0⟩ := st.drop hg fxg (σ[g]'gσ)
    rw [List.set_getElem_self] at st0
    have e00 : env.set g .no = envn 0 := by
      show _ = (env.set i (.ow (.lst ([] ++ ds)))).set g .no
      rw [List.nil_append, set_same e0]
    rw [e00] at st0
    refine ⟨_, q1, qa, rfl, ⟨xs, SqL.of hr⟩, fun n M σ' H' => M = ds.length - n ∧ n ≤ ds.length ∧ σ'[i]? = some (some (.ref qa)) ∧ ∃ F' L', Sta X.K P F' (envn n) σ' H' L', ⟨ds.length, by simp, Nat.zero_le _, q1, F, L0, st0⟩, ?_⟩
    rintro n M σ' H' ⟨rfl, hn, q1', F', L', s'⟩
    have ei : (envn n)[i]? = some (.ow (.lst ((ds.take n).map (hd0 b) ++ ds.drop n))) := by
      show ((env.set i _).set g .no)[i]? = _
      rw [List.getElem?_set_ne h5, List.getElem?_set_self hi]
    rcases Nat.lt_or_ge n ds.length with hlt | hge
    · right
      obtain ⟨x0, es, hx0⟩ := hds _ (List.getElem_mem hlt)
      have hdn : ds[n]? = some (.lst (x0 :: es)) := by rw [List.getElem?_eq_getElem hlt, hx0]
      have hl : ((ds.take n).map (hd0 b)).length = n := by rw [List.length_map, List.length_take]; omega
      have hcur : ((ds.take n).map (hd0 b) ++ ds.drop n)[n]? = some (.lst (x0 :: es)) := by
        rw [List.getElem?_append_right (by omega), hl, Nat.sub_self, List.getElem?_drop]
        exact hdn
      obtain ⟨qq, xs', q2', ys, g1, g2, g3, g4, g5, g6, mk⟩ := s'.change2 (fp := []) ei hcur (by simpa using s'.nd) (fun _ z => nomatch z) (fun _ z => nomatch z)
      rw [q1'] at g1
      injection g1 with g1; injection g1 with g1; injection g1 with g1; subst g1
      obtain ⟨L3, s3⟩ := mk (.bl b :: es) (ys.set 0 (.bl b)) fun fq ho nq => ownL_set (ds := x0 :: es) (j := 0) rfl (.leaf rfl (.bl b)) ho (by simp) nq
      rw [hd0_set hdn] at s3
      have sq : SqL X.K H' qa xs' := SqL.of g2
      have gσ' : g < σ'.length := by rw [← s'.sl.length]; show g < ((env.set i _).set g .no).length; rw [List.length_set, List.length_set]; exact hg
      refine ⟨⟨xs', .ref q2', sq, g4⟩, fun σ2 H2 => n + 1 ≤ ds.length ∧ σ2[i]? = some (some (.ref qa)) ∧ ∃ F' L', Sta X.K P F' (envn (n + 1)) σ2 H2 L', fun σ2 H2 h => ⟨ds.length - (n + 1), by omega, rfl, h⟩, fun x H'' hy => ?_⟩
      obtain ⟨rfl, hy⟩ := hy
      have hx := hy xs' sq
      rw [g4] at hx
      injection hx with hx; subst hx
      have h0 : ixN ys.length 0 = some 0 := by
        rw [← g6]
        unfold ixN
        simp
      refine (show ∃ v, (σ'.set g (some (.ref q2')))[g]? = some (some v) ∧ _ from ⟨.ref q2', List.getElem?_set_self gσ', q2', ys, 0, 0, rfl, rfl, g5, h0, ?_⟩)
      obtain ⟨L4, s4⟩ := s3.drop (g := g) (by show g < (((env.set i _).set g .no).set i _).length; rw [List.length_set, List.length_set, List.length_set]; exact hg) fxg (some (.ref q2'))
      refine ⟨by omega, by rw [List.getElem?_set_ne h5]; exact q1', F', L4, ?_⟩
      have ee : ((envn n).set i (.ow (.lst ((ds.take (n + 1)).map (hd0 b) ++ ds.drop (n + 1))))).set g .no = envn (n + 1) := by
        show ((((env.set i _).set g .no).set i _).set g .no) = (env.set i _).set g .no
        rw [List.set_comm _ _ h5, List.set_set, List.set_set]
      rw [← ee]
      exact s4
    · left
      have e0' : n = ds.length := by omega
      subst e0'
      obtain ⟨v9, _, fp9, _, r1, r2, _⟩ := s'.sl.getOw ei
      rw [q1'] at r1
      injection r1 with r1; injection r1 with r1; subst r1
      obtain ⟨q9, xs9, f9, e9, hr9, ho9, _⟩ := r2.lst_inv
      cases e9
      have hl9 := ho9.length
      rw [List.take_length, List.drop_length, List.append_nil, List.length_map] at hl9
      refine ⟨⟨xs9, SqL.of hr9, by omega⟩, ?_⟩
      have ee : envn ds.length = (env.set i (.ow (.lst (ds.map (hd0 b))))).set g .no := by
        show (env.set i (.ow (.lst ((ds.take ds.length).map (hd0 b) ++ ds.drop ds.length)))).set g .no = _
        rw [List.take_length, List.drop_length, List.append_nil]
      rw [ee] at s'
      exact f.nx _ _ _ _ _ w s'
  · exact w.elim
theorem s_flst {es : Es} {xs : List Expr} (h : PA X xs (LA X.K es)) : PE X (.List xs pos) (LE X.K (.flst es)) := by
  refine pe_mono (pe_lst h) fun σ H Q w => ?_
  obtain ⟨P, F, env, L, C, st, w, k⟩ := w
  simp only [wE] at w
  refine ⟨P, F, env, L, _, st, w, fun rs e1 vs F1 H1 L1 fp c st1 q nd dis => ?_⟩
  obtain ⟨ds, q1, hl, c⟩ := tupK_ok (frzd_ext fun a z => (dis a z).1) q (fun a z => frzd_in z) c
  refine ⟨by rw [← q1.length]; exact hl, fun p hp => ?_⟩
  exact ret_lstF (C := fun r => C r e1) (st1.frz nd dis) (fun r v F2 H2 fq c _ _ po => k r e1 v F2 H2 L1 fq c po fun e => nomatch e) c q1 hp
end
end PW

namespace PW
open PySem L2 PyProof.Rows
section
variable {N : List Str} {sc : Scope} {m : List Bool} {st : Stmt} {x : Expr}
theorem inv_rr (a : E) (h : cI N sc (.rr a) x = true) : ∃ p g2 y q2 q, x = .Call (.Name "reversed" p) [.Call (.Name "range" g2) [y] [] q2] [] q ∧ glB sc "reversed" = true ∧ glB sc "range" = true ∧ cE N sc a y = true := by
  unfold cI at h
  split at h
  all_goals first
    | (rename_i e; cases e; simp only [Bool.and_eq_true, decide_eq_true_eq] at h; obtain ⟨⟨⟨⟨rfl, h1⟩, rfl⟩, h2⟩, h3⟩ := h; exact ⟨_, _, _, _, _, rfl, h1, h2, h3⟩)
    | (rename_i e _; cases e; simp only [Bool.and_eq_true, decide_eq_true_eq] at h; obtain ⟨⟨⟨⟨rfl, h1⟩, rfl⟩, h2⟩, h3⟩ := h; exact ⟨_, _, _, _, _, rfl, h1, h2, h3⟩)
    | (rename_i e; cases e; done)
    | (rename_i e _; cases e; done)
    | exact absurd h Bool.false_ne_true
theorem inv_r3 (a b c : E) (h : cI N sc (.r3 a b c) x = true) : ∃ p y z w q, x = .Call (.Name "range" p) [y, z, w] [] q ∧ glB sc "range" = true ∧ cE N sc a y = true ∧ cE N sc b z = true ∧ cE N sc c w = true := by
  unfold cI at h
  split at h
  all_goals first
    | (rename_i e; cases e; simp only [Bool.and_eq_true, decide_eq_true_eq] at h; obtain ⟨⟨⟨⟨rfl, h1⟩, h2⟩, h3⟩, h4⟩ := h; exact ⟨_, _, _, _, _, rfl, h1, h2, h3, h4⟩)
    | (rename_i e _; cases e; simp only [Bool.and_eq_true, decide_eq_true_eq] at h; obtain ⟨⟨⟨⟨rfl, h1⟩, h2⟩, h3⟩, h4⟩ := h; exact ⟨_, _, _, _, _, rfl, h1, h2, h3, h4⟩)
    | (rename_i e; cases e; done)
    | (rename_i e _; cases e; done)
    | exact absurd h Bool.false_ne_true
theorem inv_unl (is : List Nat) (e : E) (h : cS N sc m (.unl is e) st = true) : ∃ t y p, st = .Assign [t] y p ∧ cG N sc m (.tp is) t = true ∧ cE N sc e y = true ∧ compLike y = false ∧ ∀ a b c, y ≠ .Tuple a b c := by
  unfold cS at h
  split at h
  all_goals first
    | (rename_i e; cases e; done)
    | (rename_i e _; cases e; done)
    | (rename_i e _ _; cases e; done)
    | exact absurd h Bool.false_ne_true
    | skip
  all_goals rename_i heq
  all_goals cases heq
  all_goals
    simp only [Bool.and_eq_true, Bool.not_eq_true'] at h
    obtain ⟨⟨⟨h1, h2⟩, h3⟩, h4⟩ := h
    refine ⟨_, _, _, rfl, h1, h2, h3, fun a b c e => ?_⟩
    subst e
    exact Bool.false_ne_true h4
theorem inv_par (i j : Nat) (a b : E) (h : cS N sc m (.par i j a b) st = true) : ∃ y py z pz k1 p1 e f k2 p2 q, st = .Assign [.Tuple [.Name y py, .Name z pz] k1 p1] (.Tuple [e, f] k2 p2) q ∧ locB N sc i y = true ∧ locB N sc j z = true ∧ fxB m i = false ∧ fxB m j = false ∧ i ≠ j ∧ parB sc y z py pz e f = true ∧ cE N sc a e = true ∧ cE N sc b f = true := by
  unfold cS at h
  split at h
  all_goals first
    | (rename_i e; cases e; simp only [Bool.and_eq_true, Bool.not_eq_true', beq_eq_false_iff_ne, ne_eq] at h; obtain ⟨⟨⟨⟨⟨⟨⟨h1, h2⟩, h3⟩, h4⟩, h5⟩, h6⟩, h7⟩, h8⟩ := h; exact ⟨_, _, _, _, _, _, _, _, _, _, _, rfl, h1, h2, h3, h4, h5, h6, h7, h8⟩)
    | (rename_i e _; cases e; simp only [Bool.and_eq_true, Bool.not_eq_true', beq_eq_false_iff_ne, ne_eq] at h; obtain ⟨⟨⟨⟨⟨⟨⟨h1, h2⟩, h3⟩, h4⟩, h5⟩, h6⟩, h7⟩, h8⟩ := h; exact ⟨_, _, _, _, _, _, _, _, _, _, _, rfl, h1, h2, h3, h4, h5, h6, h7, h8⟩)
    | (rename_i e; cases e; done)
    | (rename_i e _; cases e; done)
    | exact absurd h Bool.false_ne_true
theorem inv_ins (i : Nat) (a e : E) (h : cS N sc m (.ins i a e) st = true) : ∃ y p ap z w cp q, st = .Expr (.Call (.Attribute (.Name y p) "insert" ap) [z, w] [] cp) q ∧ visB N sc i y = true ∧ (ap.endLine == cp.line) = true ∧ cE N sc a z = true ∧ cE N sc e w = true := by
  unfold cS at h
  split at h
  all_goals first
    | (rename_i e; cases e; simp only [Bool.and_eq_true, decide_eq_true_eq] at h; obtain ⟨⟨⟨⟨h1, rfl⟩, h2⟩, h3⟩, h4⟩ := h; exact ⟨_, _, _, _, _, _, _, rfl, h1, h2, h3, h4⟩)
    | (rename_i e _; cases e; simp only [Bool.and_eq_true, decide_eq_true_eq] at h; obtain ⟨⟨⟨⟨h1, rfl⟩, h2⟩, h3⟩, h4⟩ := h; exact ⟨_, _, _, _, _, _, _, rfl, h1, h2, h3, h4⟩)
    | (rename_i e; cases e; done)
    | (rename_i e _; cases e; done)
    | exact absurd h Bool.false_ne_true
end
section
variable {X : Cx} {N : List Str} {sc : Scope} {k : Nat} {a b c0 : E} {ea eb ec tg : Expr} {pos : Pos} {m : List Bool}
theorem walk_dn {K : Fg} {F : Hp} {s1 : LSt} {lo : Int} {n : Nat} {sl : Option Nat} : WalkOk K F s1 sl (fun _ => True) (rngDn lo n) (Itc lo (-1) n) := by
  intro i P F2 env σ H L st e _ _
  have hl : (rngDn lo n).length = n := by simp [rngDn]
  refine ⟨fun hi => ?_, fun hi => ?_, fun d x H' hd hy => ?_⟩
  · show i < n
    omega
  · show n ≤ i
    omega
  · obtain ⟨rfl, rfl⟩ := hy
    have hi : i < n := by rw [← hl]; exact (List.getElem?_eq_some_iff.mp hd).1
    have : d = D.int (lo + (i : Nat) * (-1)) := by
      unfold rngDn at hd
      rw [List.getElem?_map, List.getElem?_range hi] at hd
      exact (Option.some.inj hd).symm
    subst this
    exact ⟨F2, st, fun _ _ => ⟨rfl, rfl⟩, .int _⟩
theorem i_rr {p p2 pos2 : Pos} (c : Cok X N sc k) (hg : glB sc "reversed" = true) (hg2 : glB sc "range" = true) (hm : X.mg "reversed" = none) (hm2 : X.mg "range" = none) (hs : okShape ea = true) (ha : PE X ea (LE X.K a)) :
    PI X tg (.Call (.Name "reversed" p) [.Call (.Name "range" p2) [ea] [] pos2] [] pos) (LI X.K (.rr a)) := by
  obtain ⟨g1, _, _⟩ := gl_ok c hg
  obtain ⟨g2, _, _⟩ := gl_ok c hg2
  refine pi_mono (pi_revR g1 hm (prg_1 g2 hm2 ha (star1 hs _ _)) (star1 rfl _ _)) fun σ H Q w => ?_
  obtain ⟨P, F, env, L, C, st, w, k⟩ := w
  simp only [wI] at w
  refine ⟨P, F, env, L, _, st, w, fun r env' v F' H' L' fp c po _ => ?_⟩
  split at c
  · rename_i j
    obtain ⟨r1, _⟩ := po.rr
    cases r1
    exact ⟨j, rfl, by decide, by decide, c.1.1, c.1.2, k _ _ _ _ _ _ _ c.2 po.st walk_dn fun _ _ _ _ g => g⟩
  · exact c.elim
theorem le3 {K : Fg} {a b c : E} {P : Par} {F : Hp} {env : PW.Env} {σ : LSt} {H : Hp} {L : List Addr} (st : Sta K P F env σ H L) {C : R → R → R → PW.Env → Prop} (hw : wE a env fun r e1 => wE b e1 fun u e2 => wE c e2 fun w e3 => C r u w e3) {G : V → V → V → Hp → Prop}
    (k : ∀ r u w env' x y z F' H' L', C r u w env' → Sta K P F' env' σ H' L' → (∀ d, r = .va d → Rep K F' d x) → (∀ d, u = .va d → Rep K F' d y) → (∀ d, w = .va d → Rep K F' d z) → G x y z H') :
    LE K a σ H fun x H1 => LE K b σ H1 fun y H2 => LE K c σ H2 fun z H3 => G x y z H3 := by
  refine ⟨P, F, env, L, _, st, hw, fun r e1 x F1 H1 L1 fp c1 po q1 => ?_⟩
  refine ⟨P.push fp H1 F1, F1, e1, L1, _, po.push, c1, fun u e2 y F2 H2 L2 fq c2 po2 q2 => ?_⟩
  refine ⟨(P.push fp H1 F1).push fq H2 F2, F2, e2, L2, _, po2.push, c2, fun w e3 z F3 H3 L3 fr c3 po3 q3 => ?_⟩
  have st3 := po2.st.pop po3.st
  have st4 := po.st.pop st3
  have f12 : Ext F1 F2 := po2.st.f0
  have f23 : Ext F2 F3 := po3.st.f0
  refine k r u w e3 x y z F3 H3 L3 c3 st4 (fun d e => ?_) (fun d e => ?_) fun d e => ?_
  · subst e; exact (po.rr.1.mono f12).mono f23
  · subst e; exact po2.rr.1.mono f23
  · subst e; exact po3.rr.1
theorem i_r3 {p : Pos} (c : Cok X N sc k) (hg : glB sc "range" = true) (hm : X.mg "range" = none) (hs : okShape ea = true) (hs' : okShape eb = true) (hs'' : okShape ec = true) (ha : PE X ea (LE X.K a)) (hb : PE X eb (LE X.K b)) (hc : PE X ec (LE X.K c0)) :
    PI X tg (.Call (.Name "range" p) [ea, eb, ec] [] pos) (LI X.K (.r3 a b c0)) := by
  obtain ⟨g1, g2, g3⟩ := gl_ok c hg
  refine pi_mono (pi_range3 g1 hm (pa_cons ha (pa_cons hb (pa_cons hc pa_nil (star1 hs'' _ _)) (star1 hs' _ _)) (star1 hs _ _)) (star1 hs _ _) (nostarsB pos (by rw [List.all_cons, List.all_cons, hs', hs'']; rfl))) fun σ H Q w => ?_
  obtain ⟨P, F, env, L, C, st, w, k⟩ := w
  simp only [wI] at w
  refine le3 st w fun r u w env' x y z F' H' L' c st' r1 r2 r3 => ?_
  split at c
  · rename_i i j k0
    cases r1 _ rfl
    cases r2 _ rfl
    cases r3 _ rfl
    obtain ⟨⟨b1, b2, b3, b4, rfl⟩, c⟩ := c
    exact ⟨_, _, _, _, rfl, RgC.neg b1 b2 b3 b4, k _ _ _ _ _ _ _ c st' walk_dn fun _ _ _ _ g => g⟩
  · exact c.elim
theorem par_sw {x y : Str} {px py p1 : Pos} {k1 k2 : _} {p2 : Pos} (c : CokS X N sc k) (hs : okShape ea = true) (hs' : okShape eb = true) (hp : parB sc x y px py ea eb = true) :
    X.env.scope.names.lookup x = some .local ∧ X.env.scope.names.lookup y = some .local ∧ swappedStores [.Tuple [.Name x px, .Name y py] k1 p1] (.Tuple [ea, eb] k2 p2) X.env = pure (some [x, y]) := by
  unfold parB at hp
  simp only [Bool.and_eq_true, decide_eq_true_eq, Bool.not_eq_true'] at hp
  obtain ⟨⟨⟨⟨⟨h1, h2⟩, h3⟩, h4⟩, h5⟩, h6⟩ := hp
  have h1' : X.env.scope.names.lookup x = some .local := by rw [c.sc]; exact h1
  have h2' : X.env.scope.names.lookup y = some .local := by rw [c.sc]; exact h2
  refine ⟨h1', h2', ?_⟩
  have hb : (X.env.blockKind != .function) = false := by unfold PySem.Env.blockKind; rw [c.kd]; rfl
  have e1 : X.env.kindOf x = some .local := h1'
  have e2 : X.env.kindOf y = some .local := h2'
  have e3 : py.line = px.line := (beq_iff_eq.mp h3).symm
  have hne : y ≠ x := fun e => by subst e; simp at h4
  unfold swappedStores
  simp only [List.length_cons, List.length_nil, hb, List.any_cons, List.any_nil, List.filterMap_cons, List.filterMap_nil, e1, e2, e3, List.head?_cons, Option.map_some, Option.getD_some, Expr.pos, h5, h6]
  simp [e3, List.eraseDups_cons, hne]
  intro q
  exfalso
  rcases q with q | q
  · cases ea <;> first | exact Bool.false_ne_true q | exact Bool.false_ne_true hs
  · cases eb <;> first | exact Bool.false_ne_true q | exact Bool.false_ne_true hs'
theorem st_unl {is : List Nat} {xs : List Expr} {kk : Nat} {p : Pos} (c : CokS X N sc k) (hg : cG N sc m (.tp is) (.Tuple xs kk p) = true) (hs : compLike ea = false) (ht : ∀ a b c, ea ≠ .Tuple a b c) (ha : PE X ea (LE X.K a)) : PS X (.Assign [.Tuple xs kk p] ea pos) (LS X.K m (.unl is a)) := by
  obtain ⟨q1, q2⟩ := noswaps (is := is) (xs := xs) (kk := kk) (p := p) hs ht pos.line X.env
  obtain ⟨g1, g2, g3⟩ := gs_ok c (show cG.go N sc m is xs = true by simpa only [cG] using hg)
  refine ps_mono (ps_asg ha (pg_unl c.calm g1 g2 g3) q1 q2 rfl) fun D σ H w => ?_
  obtain ⟨P, F, env, L, KK, hf, st, w, f⟩ := w
  simp only [wS] at w
  refine ⟨P, F, env, L, _, st, w, fun r env' v F' H' L' fp c po _ => ?_⟩
  cases r with
  | va d =>
    cases d with
    | lst ds =>
      obtain ⟨r1, _⟩ := po.rr
      obtain ⟨hl, c⟩ := (show _ ∧ _ from c)
      cases r1 with
      | lst q rp => exact ⟨_, _, rfl, .inl (po.st.sub.rd q), by rw [← rp.length]; exact hl, P, F', env', L', _, _, hf, po.st, rp, hl, c, fun e2 σ2 L2 n s2 => f.nx _ _ _ _ _ n s2⟩
    | _ => exact c.elim
  | ow d =>
    cases d with
    | lst ds =>
      obtain ⟨hl, c⟩ := (show _ ∧ _ from c)
      have o : Own X.K F' H' (.lst ds) v fp := po.rr
      have e : Ext F' (frzd F' H' fp) := frzd_ext fun a z => (po.dis a z).1
      have r1 := o.freeze e fun a z => frzd_in z
      have s2 := po.st.frz po.nd po.dis
      cases r1 with
      | lst q rp => exact ⟨_, _, rfl, .inl (s2.sub.rd q), by rw [← rp.length]; exact hl, P, _, env', L', _, _, hf, s2, rp, hl, c, fun e2 σ2 L2 n s3 => f.nx _ _ _ _ _ n s3⟩
    | _ => exact c.elim
  | rf i => exact c.elim
  | al d => exact c.elim
theorem st_par {i j : Nat} {x y : Str} {px py p1 p2 : Pos} {k1 k2 : _} (c : CokS X N sc k) (h1 : locB N sc i x = true) (h2 : locB N sc j y = true) (hi : fxB m i = false) (hj : fxB m j = false) (hij : i ≠ j) (hp : parB sc x y px py ea eb = true) (hs : okShape ea = true) (hs' : okShape eb = true) (ha : PE X ea (LE X.K a)) (hb : PE X eb (LE X.K b)) :
    PS X (.Assign [.Tuple [.Name x px, .Name y py] k1 p1] (.Tuple [ea, eb] k2 p2) pos) (LS X.K m (.par i j a b)) := by
  obtain ⟨q1, q2, q3⟩ := par_sw (k1 := k1) (p1 := p1) (k2 := k2) (p2 := p2) c hs hs' hp
  have l1 := (loc_ok c.toCok h1).1
  have l2 := (loc_ok c.toCok h2).1
  refine ps_mono (ps_par c.calm (by rw [c.n]; exact c.nd) l1 l2 hij q1 q2 (pa_cons ha (pa_cons hb pa_nil (star1 hs' _ _)) (star1 hs _ _)) q3 rfl) fun D σ H w => ?_
  obtain ⟨P, F, env, L, KK, hf, st, w, f⟩ := w
  simp only [wS] at w
  refine le2 st w fun r u env' v w F' H' L' fp fq c st' r1 r2 nd dis q => ?_
  split at c
  · split at c
    · rename_i d _ e
      obtain ⟨r1, rfl⟩ := r1
      obtain ⟨r2, rfl⟩ := r2
      obtain ⟨hi', c⟩ := setK_iff.mp c
      obtain ⟨hj', c⟩ := setK_iff.mp c
      obtain ⟨L2, s2⟩ := st'.store (o := .sh d) (v := v) (fp := []) hi' (by rw [hf]; exact hi) (.sh r1 .nil) (by simpa using st'.nd) fun _ z => nomatch z
      obtain ⟨L3, s3⟩ := s2.store (o := .sh e) (v := w) (fp := []) hj' (by rw [hf]; exact hj) (.sh r2 .nil) (by simpa using s2.nd) fun _ z => nomatch z
      exact ⟨v, w, rfl, f.nx _ _ _ _ _ c s3⟩
    · exact c.elim
  · exact c.elim
theorem ownL_ins {K : Fg} {F H : Hp} {d : D} {v : V} {fp : List Addr} (nd0 : d.nd = true) (o : Own K F H d v fp) : ∀ {ds : List D} {xs : List V} {fq : List Addr} (n : Nat), OwnL K F H ds xs fq → ∃ fr, OwnL K F H (ds.take n ++ [d] ++ ds.drop n) (xs.take n ++ [v] ++ xs.drop n) fr ∧ fr.Perm (fq ++ fp)
  | _, _, _, _, .nil => ⟨fp ++ [], by simpa using OwnL.cons (n := nd0) o .nil, by simp⟩
  | _, _, _, 0, .cons (n := n5) (fp := f1) (fq := f2) h t => ⟨fp ++ (f1 ++ f2), .cons (n := nd0) o (.cons (n := n5) h t), List.perm_append_comm⟩
  | _, _, _, n + 1, .cons (n := n5) (fp := f1) (fq := f2) h t => by
    obtain ⟨fr, h1, h2⟩ := ownL_ins nd0 o n t
    exact ⟨f1 ++ fr, .cons (n := n5) h h1, by rw [List.append_assoc]; exact h2.append_left f1⟩
theorem st_ins {i : Nat} {x : Str} {p ap cp : Pos} (c : CokS X N sc k) (hv : visB N sc i x = true) (hl : (ap.endLine == cp.line) = true) (hs : okShape ea = true) (hs' : okShape eb = true) (ha : PE X ea (LE X.K a)) (hb : PE X eb (LE X.K b)) :
    PS X (.Expr (.Call (.Attribute (.Name x p) "insert" ap) [ea, eb] [] cp) pos) (LS X.K m (.ins i a b)) := by
  have hp : PA X [ea, eb] (tCons (LE X.K a) (tCons (LE X.K b) tNil)) := pa_cons ha (pa_cons hb pa_nil (star1 hs' _ _)) (star1 hs _ _)
  have hall : [ea, eb].all okShape = true := by rw [List.all_cons, List.all_cons, hs, hs']; rfl
  have few := few_ok (xs := [ea, eb]) hall (show 2 < 20 by decide) cp X.env
  refine ps_mono (ps_expr (pe_bm PySem.F.plainAttrs_list PySem.F.slot_list_insert PySem.F.type_list_insert mt_insert (vis_ok c.toCok hv) hp rfl few hl (star1 hs _ _) (nostarsB cp (by rw [List.all_cons, hs']; rfl))) rfl) fun D σ H w => ?_
  obtain ⟨P, F, env, L, KK, hf, st, w, f⟩ := w
  simp only [wS] at w
  obtain ⟨s0, e0, w⟩ := getK_iff.mp w
  split at w
  · rename_i ds0
    obtain ⟨v, L1, fp, L2, h1, h2, _⟩ := st.sl.getOw e0
    obtain ⟨q, xs, fq, rfl, hr, ho, _⟩ := h2.lst_inv
    refine ⟨_, h1, .inl ⟨rfl, xs, SqL.of hr⟩, ?_⟩
    refine le2 st w fun r u e1 z y F1 H1 L1 fp fq c st' r1 r2 nd dis _ => ?_
    split at c
    · rename_i z0
      obtain ⟨r1, rfl⟩ := r1
      cases r1
      obtain ⟨s1, e1', c⟩ := getK_iff.mp c
      split at c
      · rename_i ds
        obtain ⟨hz, ⟨z1, z2⟩, c⟩ := c
        obtain ⟨d, o, nn, c⟩ := lstK1 r2 c
        obtain ⟨hi, c⟩ := setK_iff.mp c
        have nd' : (L1 ++ fq).Nodup := by simpa using nd
        obtain ⟨q2, xs2, g1, g2, g3, mk⟩ := st'.change e1' nd' (fun a z => dis a (by simpa using z)) r2.there
        rw [h1] at g1
        injection g1 with g1; injection g1 with g1; injection g1 with g1; subst g1
        obtain ⟨L', s'⟩ := mk (ds.take z0.toNat ++ [d] ++ ds.drop z0.toNat) (xs2.take z0.toNat ++ [y] ++ xs2.drop z0.toNat) fun f2 ho nq => by
          obtain ⟨fr, a1, a2⟩ := ownL_ins nn o z0.toNat ho
          exact ⟨fr, a1, a2.nodup_iff.mpr nq, fun a z => a2.mem_iff.mp z⟩
        exact ⟨q, xs2, z0, y, rfl, rfl, g2, by rw [← g3]; exact hz, z1, z2, f.nx _ _ _ _ _ c s'⟩
      · exact c.elim
    · exact c.elim
  · exact w.elim
end
end PW

namespace PW
open PySem L2 PyProof.Rows
/-! ### dicts that are owned -/
theorem Sta.changeD {K : Fg} {P : Par} {F H : Hp} {env : PW.Env} {σ : LSt} {L fp : List Addr} {i : Nat} {ks : List Kd} {ds : List D} (s : Sta K P F env σ H L) (e : env[i]? = some (.ow (.dct ks ds))) (nd : (L ++ fp).Nodup) (dis : ∀ a ∈ fp, F a = none ∧ ¬ P.Z a) (th : ∀ a ∈ fp, ∃ o, H a = some o) :
    ∃ q xs, σ[i]? = some (some (.ref q)) ∧ H q = some (.dK (dkv ks xs)) ∧ (ks.Nodup ∧ ks.length = ds.length) ∧ ds.length = xs.length ∧ ∀ ks' ds' xs', ks'.Nodup ∧ ks'.length = ds'.length → (∀ fq, OwnL K F H ds xs fq → (fq ++ fp).Nodup → ∃ fr, OwnL K F H ds' xs' fr ∧ fr.Nodup ∧ ∀ a ∈ fr, a ∈ fq ++ fp) →
      ∃ L', Sta K P F (env.set i (.ow (.dct ks' ds'))) σ (L2.upd H q (.dK (dkv ks' xs'))) L' := by
  obtain ⟨v, fp0, L1, h1, h2, h3, h4⟩ := s.take e
  obtain ⟨q, xs, fq, rfl, hr, hn, ho, rfl⟩ := h2.dct_inv
  have nd1 := h4.nodup_iff.mp s.nd
  have m1 := List.nodup_append.mp nd1
  have qfq : q ∉ fq := (List.nodup_cons.mp m1.2.1).1
  have qL : q ∈ L := h4.mem_iff.mpr (List.mem_append_right _ List.mem_cons_self)
  have qfp : q ∉ fp := fun z => (List.nodup_append.mp nd).2.2 q qL q z rfl
  refine ⟨q, xs, h1, hr, hn, ho.length, fun ks' ds' xs' hn' mk => ?_⟩
  have nfq : (fq ++ fp).Nodup := List.nodup_append.mpr ⟨(List.nodup_cons.mp m1.2.1).2, (List.nodup_append.mp nd).2.1, fun a z b w => (List.nodup_append.mp nd).2.2 a (h4.mem_iff.mpr (List.mem_append_right _ (List.mem_cons_of_mem _ z))) b w⟩
  obtain ⟨fr, o', nr, mr⟩ := mk fq ho nfq
  have qfr : q ∉ fr := fun z => (List.mem_append.mp (mr q z)).elim qfq qfp
  have s2 : Sta K P F (env.set i .no) σ (L2.upd H q (.dK (dkv ks' xs'))) L1 := h3.upd (fun z => m1.2.2 q z q List.mem_cons_self rfl) (s.dis q qL).1 (s.dis q qL).2
  have memL : ∀ a ∈ fq, a ∈ L := fun a z => h4.mem_iff.mpr (List.mem_append_right _ (List.mem_cons_of_mem _ z))
  have hi : i < env.length := (List.getElem?_eq_some_iff.mp e).1
  obtain ⟨L', s3, _⟩ := s2.give (i := i) (by rw [List.length_set]; exact hi) h1 (.dct (upd_same (o := .dK (dkv ks' xs'))) hn' (o'.mono (Ext.refl _) fun a z => upd_ne (b := a) fun (e : a = q) => qfr (e ▸ z))) (by
      refine List.nodup_append.mpr ⟨m1.1, List.nodup_cons.mpr ⟨qfr, nr⟩, fun a z b w e => ?_⟩
      subst e
      rcases List.mem_cons.mp w with w | w
      · exact m1.2.2 a z q List.mem_cons_self w
      · rcases List.mem_append.mp (mr a w) with w | w
        · exact m1.2.2 a z a (List.mem_cons_of_mem _ w) rfl
        · exact (List.nodup_append.mp nd).2.2 a (h4.mem_iff.mpr (List.mem_append_left _ z)) a w rfl) fun a w => by
      rcases List.mem_cons.mp w with w | w
      · subst w; exact s.dis a qL
      · rcases List.mem_append.mp (mr a w) with w | w
        · exact s.dis a (memL a w)
        · exact dis a w
  rw [List.set_set] at s3
  exact ⟨L', s3⟩
theorem dkv_snoc {ks : List Kd} {xs : List V} {k : Kd} {v : V} (h : ks.length = xs.length) : dkv ks xs ++ [(k.k, v)] = dkv (ks ++ [k]) (xs ++ [v]) := by
  unfold dkv
  rw [List.map_append, List.zip_append (by rw [List.length_map, h])]
  rfl
theorem put_new {ks : List Kd} {xs : List V} {k : Kd} {v : V} (h : ks.length = xs.length) (e : kix ks k = none) : putK (dkv ks xs) k.k v = dkv (ks ++ [k]) (xs ++ [v]) := by
  rw [putK_new v (by rw [valV_dkv k h, e]; rfl), dkv_snoc h]
theorem map_far : ∀ {ks : List Kd} {xs : List V} {k : Kd} {v : V}, k ∉ ks → ks.length = xs.length → (dkv ks xs).map (fun kv => if kv.1 = k.k then (kv.1, v) else kv) = dkv ks xs
  | [], [], _, _, _, _ => rfl
  | [], _ :: _, _, _, _, h => by simp at h
  | _ :: _, [], _, _, _, h => by simp at h
  | a :: ks, x :: xs, k, v, hk, h => by
    have ha : ¬ a.k = k.k := fun e => hk (by rw [Kd.k_inj e]; exact List.mem_cons_self)
    show (if a.k = k.k then (a.k, v) else (a.k, x)) :: (dkv ks xs).map _ = (a.k, x) :: dkv ks xs
    rw [if_neg ha, map_far (fun z => hk (List.mem_cons_of_mem _ z)) (by simpa using h)]
theorem map_near : ∀ {ks : List Kd} {xs : List V} {k : Kd} {v : V} {j : Nat}, ks.Nodup → ks.length = xs.length → kix ks k = some j → (dkv ks xs).map (fun kv => if kv.1 = k.k then (kv.1, v) else kv) = dkv ks (xs.set j v)
  | [], _, _, _, _, _, _, e => by cases e
  | _ :: _, [], _, _, _, _, h, _ => by simp at h
  | a :: ks, x :: xs, k, v, j, n, h, e => by
    rw [kix_cons] at e
    have n := List.nodup_cons.mp n
    show (if a.k = k.k then (a.k, v) else (a.k, x)) :: (dkv ks xs).map _ = _
    by_cases q : a = k
    · rw [if_pos q] at e
      cases e
      subst q
      rw [if_pos rfl, map_far n.1 (by simpa using h)]; rfl
    · rw [if_neg q] at e
      obtain ⟨j', e', rfl⟩ := Option.map_eq_some_iff.mp e
      rw [if_neg (fun z => q (Kd.k_inj z)), map_near n.2 (by simpa using h) e']; rfl
theorem put_old {ks : List Kd} {xs : List V} {k : Kd} {v : V} {j : Nat} (n : ks.Nodup) (h : ks.length = xs.length) (e : kix ks k = some j) : putK (dkv ks xs) k.k v = dkv ks (xs.set j v) := by
  have a : ((dkv ks xs).any fun kv => decide (kv.1 = k.k)) = true := by
    rw [valV_any, valV_dkv k h, e]
    have := kix_lt e
    show (xs[j]?).isSome = true
    rw [List.getElem?_eq_getElem (by omega)]; rfl
  unfold putK
  rw [if_pos a, map_near n h e]
section
variable {X : Cx} {N : List Str} {sc : Scope} {k : Nat} {m : List Bool} {a b : E} {ea eb : Expr} {pos : Pos}
theorem inv_dnew {x : Expr} (h : cE N sc .dnew x = true) : ∃ p, x = .Dict [] [] p := by
  cases x with
  | Dict ks vs p =>
    cases ks with
    | nil => cases vs with
      | nil => exact ⟨p, rfl⟩
      | cons v vs => exfalso; revert h; simp only [cE]; decide
    | cons k ks => exfalso; revert h; simp only [cE]; decide
  | _ => exfalso; revert h; simp only [cE]; decide
/-- a new dict -/
theorem ret_dct {K : Fg} {P : Par} {F H : Hp} {env : PW.Env} {σ : LSt} {L : List Addr} {C : R → Prop} {Q : VK} {p : Addr} (s : Sta K P F env σ H L) (h : Ret K P F env σ H L C Q) (c : C (.ow (.dct [] []))) (hp : H p = none) : Q (.ref p) (L2.upd H p (.dK [])) := by
  have hf : F p = none := by
    cases e : F p with
    | none => rfl
    | some o => rw [s.sub _ _ e] at hp; cases hp
  have k : Ext H (L2.upd H p (.dK [])) := Ext.new hp
  have hpL : p ∉ L := fun z => by obtain ⟨_, e⟩ := s.sl.there p z; rw [hp] at e; cases e
  refine h _ _ F _ [p] c (Ext.refl _) k ⟨s.heap k, .dct (ks := []) (xs := []) upd_same ⟨List.nodup_nil, rfl⟩ .nil, ?_, fun a z => ?_⟩
  · rw [List.nodup_append]
    refine ⟨s.nd, List.nodup_cons.mpr ⟨List.not_mem_nil, List.nodup_nil⟩, fun a h1 b h2 e => ?_⟩
    rw [List.mem_singleton] at h2
    exact hpL (h2 ▸ e ▸ h1)
  · rw [List.mem_singleton] at z
    subst z
    exact ⟨hf, fun z => (s.z _ z).2.1 hp⟩
theorem s_dnew : PE X (.Dict [] [] pos) (LE X.K .dnew) := by
  refine pe_mono pe_dnewK fun σ H Q w => ?_
  obtain ⟨P, F, env, L, C, st, w, k⟩ := w
  simp only [wE] at w
  intro p hp
  exact ret_dct (C := fun r => C r env) st (fun r v F2 H2 fq c _ _ po => k r env v F2 H2 L fq c po fun e => nomatch e) w hp
theorem st_dput {i : Nat} {x : Str} {p p2 : Pos} (c : CokS X N sc k) (hv : visB N sc i x = true) (hs : compLike eb = false) (hi : okShape ea = true) (ha : PE X ea (LE X.K a)) (hb : PE X eb (LE X.K b)) :
    PS X (.Assign [.Subscript (.Name x p) ea p2] eb pos) (LS X.K m (.dput i a b)) := by
  have sw : swapsWith eb (some (.Subscript (.Name x p) ea p2)) pos.line X.env = pure false := noswap hs (some (.Subscript (.Name x p) ea p2)) pos.line X.env
  refine ps_mono (ps_dput c.toCok.hu (vis_ok c.toCok hv) ha hb sw) fun D σ H w => ?_
  obtain ⟨P, F, env, L, KK, hf, st, w, f⟩ := w
  simp only [wS] at w
  obtain ⟨s0, e0, w⟩ := getK_iff.mp w
  split at w
  · rename_i ks0 ds0
    obtain ⟨v, L1, fp0, L2, h1, h2, _⟩ := st.sl.getOw e0
    have q : LE X.K b σ H fun y H1 => LE X.K a σ H1 fun z H2 => ∃ a H4, v = .ref a ∧ DPut H2 a z y H4 ∧ D.nx σ H4 := by
      refine le2 st w fun r u env' y z F' H' L' fp fq c st' r1 r2 nd dis q => ?_
      obtain ⟨ky, vy, c⟩ := rd_view st' (r2.rq true) c
      obtain ⟨kk, rfl, c⟩ := keyK_ok vy c
      obtain ⟨s1, e1', c⟩ := getK_iff.mp c
      split at c
      · rename_i ks ds
        obtain ⟨hz, c⟩ := c
        have r1' : RRs X.K F' H' σ [r] [y] (fp ++ []) := .cons r1.weak .nil
        obtain ⟨dd, o, c⟩ := lstK_ok r1' c
        rw [List.append_nil] at o
        obtain ⟨d, rfl, o2⟩ := own1 o
        have nn : d.nd = true := all_get (i := 0) o.nd rfl
        obtain ⟨hi, c⟩ := setK_iff.mp c
        have nd' : (L' ++ fp).Nodup := (List.nodup_append.mp (by simpa using nd)).1
        obtain ⟨q2, xs2, g1, g2, gn, g3, mk⟩ := st'.changeD e1' nd' (fun a z => dis a (by simp [z])) r1.there
        rw [h1] at g1
        injection g1 with g1; injection g1 with g1; subst g1
        have hl : ks.length = xs2.length := gn.2.trans g3
        have hz' : (dkv ks xs2).length < sizeLine := by rw [dkv_len hl]; exact hz
        unfold dputD at c
        cases e : kix ks kk with
        | none =>
          rw [e] at c
          obtain ⟨L3, s'⟩ := mk (ks ++ [kk]) (ds ++ [d]) (xs2 ++ [y]) ⟨List.nodup_append.mpr ⟨gn.1, List.nodup_cons.mpr ⟨List.not_mem_nil, List.nodup_nil⟩, fun a z b w e2 => by
            rw [List.mem_singleton] at w
            exact kix_none e (w ▸ e2 ▸ z)⟩, by rw [List.length_append, List.length_append, gn.2]; rfl⟩ fun fq ho nq => ⟨fq ++ (fp ++ []), ho.append (.cons (n := nn) o2 .nil), by simpa using nq, fun a z => by simpa using z⟩
          exact ⟨q2, _, rfl, .inl ⟨_, kk.k, g2, rfl, hz', by rw [put_new hl e]⟩, f.nx _ _ _ _ _ c s'⟩
        | some j =>
          rw [e] at c
          have hj : j < ds.length := by rw [← gn.2]; exact kix_lt e
          obtain ⟨L3, s'⟩ := mk ks (ds.set j d) (xs2.set j y) ⟨gn.1, by rw [List.length_set]; exact gn.2⟩ fun fq ho nq => ownL_set nn o2 ho hj nq
          exact ⟨q2, _, rfl, .inl ⟨_, kk.k, g2, rfl, hz', by rw [put_old gn.1 hl e]⟩, f.nx _ _ _ _ _ c s'⟩
      · exact c.elim
    refine (show LE X.K b σ H fun y H1 => tVar i σ H1 fun o H2 => LE X.K a σ H2 fun z H3 => ∃ a H4, o = .ref a ∧ DPut H3 a z y H4 ∧ D.nx σ H4 from ?_)
    obtain ⟨P2, F2, env2, L2, C2, s2, w2, k2⟩ := q
    exact ⟨P2, F2, env2, L2, C2, s2, w2, fun r e v F' H' L' fp c po q => ⟨_, h1, k2 r e v F' H' L' fp c po q⟩⟩
  · exact w.elim
end
end PW

namespace PW
open PySem L2 PyProof.Rows
/-! ### get, setdefault, a list of a dict held in the hand, reversed lists, -= -/
section
variable {X : Cx} {N : List Str} {sc : Scope} {k : Nat} {m : List Bool} {st : Stmt} {x : Expr}
theorem inv_dget (a b d : E) (h : cE N sc (.dget a b d) x = true) : ∃ y ap z w cp, x = .Call (.Attribute y "get" ap) [z, w] [] cp ∧ (ap.endLine == cp.line) = true ∧ notC0 y = true ∧ cE N sc a y = true ∧ cE N sc b z = true ∧ cE N sc d w = true := by
  unfold cE at h
  split at h
  all_goals first
    | (rename_i e; cases e; simp only [Bool.and_eq_true, decide_eq_true_eq] at h; obtain ⟨⟨⟨⟨⟨rfl, h1⟩, h2⟩, h3⟩, h4⟩, h5⟩ := h; exact ⟨_, _, _, _, _, rfl, h1, h2, h3, h4, h5⟩)
    | (rename_i e _; cases e; simp only [Bool.and_eq_true, decide_eq_true_eq] at h; obtain ⟨⟨⟨⟨⟨rfl, h1⟩, h2⟩, h3⟩, h4⟩, h5⟩ := h; exact ⟨_, _, _, _, _, rfl, h1, h2, h3, h4, h5⟩)
    | (rename_i e; cases e; done)
    | (rename_i e _; cases e; done)
    | exact absurd h Bool.false_ne_true
theorem inv_dsp1 (a b : E) (h : cE N sc (.dsp1 a b) x = true) : ∃ y z p, x = .Dict [some y] [z] p ∧ cE N sc a y = true ∧ cE N sc b z = true := by
  unfold cE at h
  split at h
  all_goals first
    | (rename_i e; cases e; simp only [Bool.and_eq_true, decide_eq_true_eq] at h; obtain ⟨h1, h2⟩ := h; exact ⟨_, _, _, rfl, h1, h2⟩)
    | (rename_i e _; cases e; simp only [Bool.and_eq_true, decide_eq_true_eq] at h; obtain ⟨h1, h2⟩ := h; exact ⟨_, _, _, rfl, h1, h2⟩)
    | (rename_i e; cases e; done)
    | (rename_i e _; cases e; done)
    | exact absurd h Bool.false_ne_true
theorem inv_rl (a : E) (h : cI N sc (.rl a) x = true) : ∃ p y q, x = .Call (.Name "reversed" p) [y] [] q ∧ glB sc "reversed" = true ∧ cE N sc a y = true := by
  unfold cI at h
  split at h
  all_goals first
    | (rename_i e; cases e; simp only [Bool.and_eq_true, decide_eq_true_eq] at h; obtain ⟨⟨rfl, h1⟩, h2⟩ := h; exact ⟨_, _, _, rfl, h1, h2⟩)
    | (rename_i e _; cases e; simp only [Bool.and_eq_true, decide_eq_true_eq] at h; obtain ⟨⟨rfl, h1⟩, h2⟩ := h; exact ⟨_, _, _, rfl, h1, h2⟩)
    | (rename_i e; cases e; done)
    | (rename_i e _; cases e; done)
    | exact absurd h Bool.false_ne_true
theorem inv_sdf (i : Nat) (a e : E) (h : cS N sc m (.sdf i a e) st = true) : ∃ y p ap z w cp q, st = .Expr (.Call (.Attribute (.Name y p) "setdefault" ap) [z, w] [] cp) q ∧ visB N sc i y = true ∧ (ap.endLine == cp.line) = true ∧ cE N sc a z = true ∧ cE N sc e w = true := by
  unfold cS at h
  split at h
  all_goals first
    | (rename_i e; cases e; simp only [Bool.and_eq_true, decide_eq_true_eq] at h; obtain ⟨⟨⟨⟨h1, rfl⟩, h2⟩, h3⟩, h4⟩ := h; exact ⟨_, _, _, _, _, _, _, rfl, h1, h2, h3, h4⟩)
    | (rename_i e _; cases e; simp only [Bool.and_eq_true, decide_eq_true_eq] at h; obtain ⟨⟨⟨⟨h1, rfl⟩, h2⟩, h3⟩, h4⟩ := h; exact ⟨_, _, _, _, _, _, _, rfl, h1, h2, h3, h4⟩)
    | (rename_i e; cases e; done)
    | (rename_i e _; cases e; done)
    | exact absurd h Bool.false_ne_true
theorem inv_sdApp (i : Nat) (a e : E) (h : cS N sc m (.sdApp i a e) st = true) : ∃ y p ap z p2 cp ap2 w cp2 q, st = .Expr (.Call (.Attribute (.Call (.Attribute (.Name y p) "setdefault" ap) [z, .List [] p2] [] cp) "append" ap2) [w] [] cp2) q ∧ visB N sc i y = true ∧ (ap.endLine == cp.line) = true ∧ (ap2.endLine == cp2.line) = true ∧ cE N sc a z = true ∧ cE N sc e w = true := by
  unfold cS at h
  split at h
  all_goals first
    | (rename_i e; cases e; simp only [Bool.and_eq_true, decide_eq_true_eq] at h; obtain ⟨⟨⟨⟨⟨⟨h1, rfl⟩, h2⟩, rfl⟩, h2'⟩, h3⟩, h4⟩ := h; exact ⟨_, _, _, _, _, _, _, _, _, _, rfl, h1, h2, h2', h3, h4⟩)
    | (rename_i e _; cases e; simp only [Bool.and_eq_true, decide_eq_true_eq] at h; obtain ⟨⟨⟨⟨⟨⟨h1, rfl⟩, h2⟩, rfl⟩, h2'⟩, h3⟩, h4⟩ := h; exact ⟨_, _, _, _, _, _, _, _, _, _, rfl, h1, h2, h2', h3, h4⟩)
    | (rename_i e; cases e; done)
    | (rename_i e _; cases e; done)
    | exact absurd h Bool.false_ne_true
theorem inv_augSub (i : Nat) (k e : E) (h : cS N sc m (.augSub i k e) st = true) : ∃ y p z q w r, st = .AugAssign (.Subscript (.Name y p) z q) .Sub w r ∧ visB N sc i y = true ∧ cE N sc k z = true ∧ cE N sc e w = true := by
  unfold cS at h
  split at h
  all_goals first
    | (rename_i e; cases e; simp only [Bool.and_eq_true, decide_eq_true_eq] at h; obtain ⟨⟨h1, h2⟩, h3⟩ := h; exact ⟨_, _, _, _, _, _, rfl, h1, h2, h3⟩)
    | (rename_i e _; cases e; simp only [Bool.and_eq_true, decide_eq_true_eq] at h; obtain ⟨⟨h1, h2⟩, h3⟩ := h; exact ⟨_, _, _, _, _, _, rfl, h1, h2, h3⟩)
    | (rename_i e; cases e; done)
    | (rename_i e _; cases e; done)
    | exact absurd h Bool.false_ne_true
theorem inv_dinc (i : Nat) (k e : E) (h : cS N sc m (.dinc i k e) st = true) : ∃ y p z q w r, st = .AugAssign (.Subscript (.Name y p) z q) .Add w r ∧ visB N sc i y = true ∧ cE N sc k z = true ∧ cE N sc e w = true := by
  unfold cS at h
  split at h
  all_goals first
    | (rename_i e; cases e; simp only [Bool.and_eq_true, decide_eq_true_eq] at h; obtain ⟨⟨h1, h2⟩, h3⟩ := h; exact ⟨_, _, _, _, _, _, rfl, h1, h2, h3⟩)
    | (rename_i e _; cases e; simp only [Bool.and_eq_true, decide_eq_true_eq] at h; obtain ⟨⟨h1, h2⟩, h3⟩ := h; exact ⟨_, _, _, _, _, _, rfl, h1, h2, h3⟩)
    | (rename_i e; cases e; done)
    | (rename_i e _; cases e; done)
    | exact absurd h Bool.false_ne_true
theorem inv_bor (i r : Nat) (k : E) (ss : Ss) {xs : List Stmt} (h : cSs N sc m (.bor i r k ss) xs = true) : ∃ y py x px ap z lp cp sp ys, xs = .Assign [.Name y py] (.Call (.Attribute (.Name x px) "setdefault" ap) [z, .List [] lp] [] cp) sp :: ys ∧
    visB N sc i x = true ∧ locB N sc r y = true ∧ fxB m r = false ∧ i ≠ r ∧ (ap.endLine == cp.line) = true ∧ cE N sc k z = true ∧ cSs N sc (setB (setB m i) r) ss ys = true := by
  unfold cSs at h
  split at h
  all_goals first
    | (rename_i e; cases e; simp only [Bool.and_eq_true, decide_eq_true_eq, Bool.not_eq_true'] at h; obtain ⟨⟨⟨⟨⟨⟨⟨h1, h2⟩, h3⟩, h4⟩, rfl⟩, h5⟩, h6⟩, h7⟩ := h; exact ⟨_, _, _, _, _, _, _, _, _, _, rfl, h1, h2, h3, by simpa using h4, h5, h6, h7⟩)
    | (rename_i e _; cases e; simp only [Bool.and_eq_true, decide_eq_true_eq, Bool.not_eq_true'] at h; obtain ⟨⟨⟨⟨⟨⟨⟨h1, h2⟩, h3⟩, h4⟩, rfl⟩, h5⟩, h6⟩, h7⟩ := h; exact ⟨_, _, _, _, _, _, _, _, _, _, rfl, h1, h2, h3, by simpa using h4, h5, h6, h7⟩)
    | (rename_i e; cases e; done)
    | (rename_i e _; cases e; done)
    | exact absurd h Bool.false_ne_true
end
/-- an item that is a list, taken out of its row, which goes on in a wider store -/
theorem ownL_part {K : Fg} {F H : Hp} {es : List D} : ∀ {ds : List D} {xs : List V} {fq : List Addr} {j : Nat}, OwnL K F H ds xs fq → ds[j]? = some (.lst es) → ∃ A B q2 ys f2, xs[j]? = some (.ref q2) ∧ H q2 = some (.lst ys) ∧ OwnL K F H es ys f2 ∧ fq = A ++ (q2 :: f2) ++ B ∧
    ∀ (F' H' : Hp) (d' : D) (fr : List Addr), Ext F F' → (∀ a ∈ A ++ B, H' a = H a) → d'.nd = true → Own K F' H' d' (.ref q2) fr → OwnL K F' H' (ds.set j d') xs (A ++ fr ++ B)
  | _, _, _, _, .nil, e => by simp at e
  | _, _, _, 0, .cons (fp := f1) (fq := fB) h t, e => by
    simp at e; subst e
    obtain ⟨q2, ys, f2, rfl, h1, h2, rfl⟩ := h.lst_inv
    refine ⟨[], fB, q2, ys, f2, rfl, h1, h2, by simp, fun F' H' d' fr x k n' o => ?_⟩
    exact OwnL.cons (n := n') o (t.mono x fun a z => k a (by simpa using z))
  | _, _, _, j + 1, .cons (n := n5) (fp := f1) (fq := fB) h t, e => by
    obtain ⟨A, B, q2, ys, f2, h1, h2, h3, rfl, h5⟩ := ownL_part (j := j) t (by simpa using e)
    refine ⟨f1 ++ A, B, q2, ys, f2, by simpa using h1, h2, h3, by simp [List.append_assoc], fun F' H' d' fr x k n' o => ?_⟩
    have := OwnL.cons (n := n5) (h.mono x fun a z => k a (by simp only [List.mem_append]; exact .inl (.inl z))) (h5 F' H' d' fr x (fun a z => k a (by simp only [List.mem_append] at z ⊢; rcases z with z | z; exact .inl (.inr z); exact .inr z)) n' o)
    simpa [List.append_assoc] using this
/-- a list of a dict in the hand: the dict waits -/
theorem Sta.hole {K : Fg} {P : Par} {F H : Hp} {env : PW.Env} {σ : LSt} {L : List Addr} {i j : Nat} {ks : List Kd} {ds es : List D} (s : Sta K P F env σ H L) (e : env[i]? = some (.ow (.dct ks ds))) (hj : ds[j]? = some (.lst es)) :
    ∃ (a : Addr) (xs : List V) (q : Addr) (f2 : List Addr) (L1 : List Addr) (Z : Addr → Prop), σ[i]? = some (some (.ref a)) ∧ H a = some (.dK (dkv ks xs)) ∧ ks.length = xs.length ∧ xs[j]? = some (.ref q) ∧
      Po K ⟨Z, H, F, P.fx, P.s0⟩ F (env.set i .no) σ H L1 (.ow (.lst es)) (.ref q) f2 ∧
      ∀ (F2 H2 : Hp) (env2 : PW.Env) (σ2 : LSt) (L2 : List Addr) (es' : List D) (fr : List Addr) (f : Nat → Bool) (s0 : LSt), Po K ⟨Z, H, F, f, s0⟩ F2 env2 σ2 H2 L2 (.ow (.lst es')) (.ref q) fr → σ2[i]? = σ[i]? → i < env2.length →
        ∃ L3, Sta K ⟨P.Z, P.H0, P.F0, f, s0⟩ F2 (env2.set i (.ow (.dct ks (ds.set j (.lst es'))))) σ2 H2 L3 := by
  obtain ⟨v, fp0, L1, h1, h2, h3, h4⟩ := s.take e
  obtain ⟨a, xs, fq, rfl, hr, hn, ho, rfl⟩ := h2.dct_inv
  have hlen : ks.length = xs.length := hn.2.trans ho.length
  obtain ⟨A, B, q, ys, f2, g1, g2, g3, rfl, g5⟩ := ownL_part ho hj
  have nd1 := h4.nodup_iff.mp s.nd
  -- the dict's own cells and those of its other items
  let M : List Addr := a :: (A ++ B)
  have pm : (a :: (A ++ (q :: f2) ++ B)).Perm ((q :: f2) ++ M) := by
    show (a :: (A ++ (q :: f2) ++ B)).Perm ((q :: f2) ++ a :: (A ++ B))
    refine (List.Perm.cons a ?_).trans List.perm_middle.symm
    rw [← List.append_assoc]
    exact List.Perm.append_right B List.perm_append_comm
  have nd2 : (L1 ++ ((q :: f2) ++ M)).Nodup := (List.Perm.append_left L1 pm).nodup_iff.mp nd1
  rw [← List.append_assoc] at nd2
  have n2 := List.nodup_append.mp nd2
  have inL : ∀ b ∈ L1 ++ (q :: f2) ++ M, b ∈ L := fun b z => h4.mem_iff.mpr ((List.Perm.append_left L1 pm).mem_iff.mpr (by rw [← List.append_assoc]; exact z))
  have mL : ∀ b ∈ M, b ∈ L := fun b z => inL b (List.mem_append_right _ z)
  refine ⟨a, xs, q, q :: f2, L1, fun b => P.Z b ∨ b ∈ M, h1, hr, hlen, g1, ⟨?_, .lst g2 g3, n2.1, fun b z => ⟨(s.dis b (inL b (List.mem_append_left _ (List.mem_append_right _ z)))).1, ?_⟩⟩, ?_⟩
  · refine h3.par (Ext.refl F) (fun b z => ?_) (fun b z => ?_) h3.fx
    · rcases z with z | z
      · exact ⟨rfl, (s.z b z).2⟩
      · obtain ⟨o, eo⟩ := s.sl.there b (mL b z)
        exact ⟨rfl, by rw [eo]; simp, (s.dis b (mL b z)).1⟩
    · rintro (w | w)
      · exact (h3.dis b z).2 w
      · exact n2.2.2 b (List.mem_append_left _ z) b w rfl
  · rintro (w | w)
    · exact (s.dis b (inL b (List.mem_append_left _ (List.mem_append_right _ z)))).2 w
    · exact n2.2.2 b (List.mem_append_right _ z) b w rfl
  · intro F2 H2 env2 σ2 L2 es' fr f s0 po hσ hi
    have xF : Ext F F2 := po.st.f0
    have keep : ∀ b ∈ M, H2 b = H b := fun b z => (po.st.z b (.inr z)).1
    have own : Own K F2 H2 (.dct ks (ds.set j (.lst es'))) (.ref a) (a :: (A ++ fr ++ B)) := by
      refine .dct ((keep a List.mem_cons_self).trans hr) ⟨hn.1, by rw [List.length_set]; exact hn.2⟩ ?_
      exact g5 F2 H2 (.lst es') fr xF (fun b z => keep b (List.mem_cons_of_mem _ z)) rfl po.rr
    have st2 : Sta K ⟨P.Z, P.H0, P.F0, f, s0⟩ F2 env2 σ2 H2 L2 := po.st.par (s.f0.trans xF) (fun b z => ⟨(po.st.z b (.inl z)).1.trans (s.z b z).1, (po.st.z b (.inl z)).2⟩) (fun b z w => (po.st.dis b z).2 (.inl w)) po.st.fx
    have pm2 : (a :: (A ++ fr ++ B)).Perm (fr ++ M) := by
      show (a :: (A ++ fr ++ B)).Perm (fr ++ a :: (A ++ B))
      refine (List.Perm.cons a ?_).trans List.perm_middle.symm
      rw [← List.append_assoc]
      exact List.Perm.append_right B List.perm_append_comm
    have nd3 : (L2 ++ (a :: (A ++ fr ++ B))).Nodup := by
      refine (List.Perm.append_left L2 pm2).nodup_iff.mpr ?_
      rw [← List.append_assoc]
      refine List.nodup_append.mpr ⟨po.nd, n2.2.1, fun b z c w e => ?_⟩
      subst e
      rcases List.mem_append.mp z with z | z
      · exact (po.st.dis b z).2 (.inr w)
      · exact (po.dis b z).2 (.inr w)
    have dis3 : ∀ b ∈ a :: (A ++ fr ++ B), F2 b = none ∧ ¬ P.Z b := fun b z => by
      rcases List.mem_append.mp (pm2.mem_iff.mp z) with z | z
      · exact ⟨(po.dis b z).1, fun w => (po.dis b z).2 (.inl w)⟩
      · exact ⟨(po.st.z b (.inr z)).2.2, (s.dis b (mL b z)).2⟩
    obtain ⟨L3, s3, _⟩ := st2.give hi (hσ.trans h1) own nd3 dis3
    exact ⟨L3, s3⟩
theorem kix_snoc {ks : List Kd} {kk : Kd} (h : kix ks kk = none) : kix (ks ++ [kk]) kk = some ks.length := by
  unfold kix at h ⊢
  rw [List.findIdx?_append, h]
  simp [List.findIdx?_cons]
theorem set_self {α : Type} {xs : List α} {i : Nat} {a : α} (h : xs[i]? = some a) : xs.set i a = xs := by
  apply List.ext_getElem?
  intro j
  by_cases e : i = j
  · subst e
    rw [List.getElem?_set_self (List.getElem?_eq_some_iff.mp h).1, h]
  · rw [List.getElem?_set_ne e]
section
variable {X : Cx} {N : List Str} {sc : Scope} {k : Nat} {m : List Bool} {a b : E} {ea eb : Expr} {pos : Pos}
theorem m2_of {o e f : Expr} {nm : Str} {ap cp : Pos} (hb : attributeBase o nm X.env (eval o X.env) = eval o X.env) (hl : (ap.endLine == cp.line) = true) (h1 : okShape e = true) (h2 : okShape f = true) : M2 X o nm ap e f cp :=
  ⟨hb, by rw [star1 h1, star1 h2]; rfl, hl, by rw [star1 h1, star1 h2]; rfl⟩
/-- d.setdefault(k, []): what stands behind it -/
theorem le_sd {K : Fg} {P : Par} {F : Hp} {env : PW.Env} {σ : LSt} {H : Hp} {L : List Addr} {i : Nat} {ks0 : List Kd} {ds0 : List D} {C : List Kd → List D → Nat → PW.Env → Prop} {Q : VK} (st : Sta K P F env σ H L) (e0 : env[i]? = some (.ow (.dct ks0 ds0)))
    (w : wE a env fun u env1 => rd true env1 u fun y => keyK y fun kk => getK env1 i fun s => match s with
      | .ow (.dct ks ds) => ks.length < sizeLine ∧ sdK ks ds kk fun ks' ds' j => C ks' ds' j env1
      | _ => False)
    (hQ : ∀ env1 ks' ds' j kk F1 H1 L1 q0 kvs v, C ks' ds' j env1 → i < env1.length → Sta K P F1 (env1.set i (.ow (.dct ks' ds'))) σ H1 L1 → kix ks' kk = some j → σ[i]? = some (some (.ref q0)) → H1 q0 = some (.dK kvs) → valV kvs kk.k = some v → Q v H1) :
    ∃ x, σ[i]? = some (some x) ∧ ∃ q0, x = .ref q0 ∧ IsD H q0 ∧ LE K a σ H fun y H1 => LE K (.lst .nil) σ H1 fun z H2 => ∃ (kvs : List (Key × V)) (kk : Key), H2 q0 = some (.dK kvs) ∧ y = kV kk ∧ kvs.length < sizeLine ∧ (∀ v, valV kvs kk = some v → Q v H2) ∧ (valV kvs kk = none → Q z (L2.upd H2 q0 (.dK (putK kvs kk z)))) := by
  obtain ⟨v0, L0, fp0, L00, h1, h2, _⟩ := st.sl.getOw e0
  obtain ⟨q0, xs0, fq0, rfl, hr0, _, _, _⟩ := h2.dct_inv
  refine ⟨_, h1, q0, rfl, .inl ⟨_, .inl hr0⟩, P, F, env, L, _, st, w, fun u env1 y F1 H1 L1 fp c po _ => ?_⟩
  obtain ⟨ky, vy, c⟩ := rd_view po.st (po.rr.rq true) c
  obtain ⟨kk, rfl, c⟩ := keyK_ok vy c
  obtain ⟨s1, e1, c⟩ := getK_iff.mp c
  split at c
  · rename_i ks ds
    obtain ⟨hz, c⟩ := c
    refine ⟨P, F1, env1, L1, fun r e => r = .ow (.lst []) ∧ e = env1, po.st, ?_, fun r e z F2 H2 L2 fq hre po2 _ => ?_⟩
    · simp only [wE, wEs, lstK]
      exact ⟨Nat.zero_le _, by simp⟩
    · obtain ⟨rfl, rfl⟩ := hre
      obtain ⟨q2, xs2, g1, g2, gn, g3, mk⟩ := po2.st.changeD e1 po2.nd po2.dis po2.rr.there
      rw [h1] at g1
      injection g1 with g1; injection g1 with g1; injection g1 with g1; subst g1
      have hl : ks.length = xs2.length := gn.2.trans g3
      have hi : i < e.length := (List.getElem?_eq_some_iff.mp e1).1
      refine ⟨_, kk.k, g2, rfl, by rw [dkv_len hl]; exact hz, fun v hv => ?_, fun hv => ?_⟩
      · rw [valV_dkv kk hl] at hv
        cases ej : kix ks kk with
        | none => rw [ej] at hv; cases hv
        | some j =>
          unfold sdK at c
          rw [ej] at c hv
          refine hQ e ks ds j kk F2 H2 L2 q0 _ v c hi (by rw [set_self e1]; exact po2.st) ej h1 g2 ?_
          rw [valV_dkv kk hl, ej]
          exact hv
      · have ej : kix ks kk = none := by
          rw [valV_dkv kk hl] at hv
          cases ej : kix ks kk with
          | none => rfl
          | some j =>
            rw [ej] at hv
            have hv : xs2[j]? = none := hv
            rw [List.getElem?_eq_none_iff] at hv
            have := kix_lt ej
            omega
        unfold sdK at c
        rw [ej] at c
        obtain ⟨L3, s'⟩ := mk (ks ++ [kk]) (ds ++ [.lst []]) (xs2 ++ [z]) ⟨List.nodup_append.mpr ⟨gn.1, List.nodup_cons.mpr ⟨List.not_mem_nil, List.nodup_nil⟩, fun a z b w e2 => by
            rw [List.mem_singleton] at w
            exact kix_none ej (w ▸ e2 ▸ z)⟩, by rw [List.length_append, List.length_append, gn.2]; rfl⟩ fun fq' ho nq => ⟨fq' ++ (fq ++ []), ho.append (.cons (n := rfl) (show Own K F2 H2 (.lst []) z fq from po2.rr) .nil), by simpa using nq, fun a z => by simpa using z⟩
        refine hQ e (ks ++ [kk]) (ds ++ [.lst []]) ks.length kk F2 _ L3 q0 _ z c hi (by rw [put_new hl ej]; exact s') (kix_snoc ej) h1 upd_same ?_
        rw [put_new hl ej, valV_dkv kk (by simp [hl]), kix_snoc ej]
        show (xs2 ++ [z])[ks.length]? = some z
        rw [hl]; simp
  · exact c.elim
/-- the list that setdefault gave is the one in the hand -/
theorem hole_eq {H : Hp} {σ : LSt} {i j : Nat} {a q0 : Addr} {ks : List Kd} {xs : List V} {kk : Kd} {kvs : List (Key × V)} {v : V} {q : Addr} (h1 : σ[i]? = some (some (.ref a))) (h2 : H a = some (.dK (dkv ks xs))) (hl : ks.length = xs.length) (h3 : xs[j]? = some (.ref q))
    (e : kix ks kk = some j) (g1 : σ[i]? = some (some (.ref q0))) (g2 : H q0 = some (.dK kvs)) (g3 : valV kvs kk.k = some v) : v = .ref q := by
  rw [h1] at g1
  injection g1 with g1; injection g1 with g1; injection g1 with g1; subst g1
  rw [h2] at g2
  injection g2 with g2; injection g2 with g2; subst g2
  rw [valV_dkv kk hl, e] at g3
  have g3 : xs[j]? = some v := g3
  rw [h3] at g3
  injection g3 with g3
  exact g3.symm
theorem ss_bor {i r : Nat} {ss : Ss} {y x : Str} {py px ap lp cp sp : Pos} {xs : List Stmt} (c : CokS X N sc k) (hv : visB N sc i x = true) (hy : locB N sc r y = true) (hm : fxB m r = false) (hir : i ≠ r) (hl : (ap.endLine == cp.line) = true) (hs : okShape ea = true) (ha : PE X ea (LE X.K a)) (hb : PSs X xs (LSs X.K (setB (setB m i) r) ss)) :
    PSs X (.Assign [.Name y py] (.Call (.Attribute (.Name x px) "setdefault" ap) [ea, .List [] lp] [] cp) sp :: xs) (LSs X.K m (.bor i r a ss)) := by
  obtain ⟨l1, l2⟩ := loc_ok c.toCok hy
  have hA := ps_set (pos := sp) (pos' := py) (by rw [c.n]; exact c.nd) l1 l2 (pe_dsetd (vis_ok c.toCok hv (pos := px)) ha (s_lst (pos := lp) s_Es0) (m2_of (X := X) (o := .Name x px) (nm := "setdefault") (ap := ap) (cp := cp) rfl hl hs rfl)) (noswap rfl _ _ _) (.inl (c.fn y))
  refine pss_mono (pss_cons hA hb) fun D σ H w => ?_
  obtain ⟨P, F, env, L, KK, hf, st, w, f⟩ := w
  simp only [wSs] at w
  obtain ⟨s0, e0, w⟩ := getK_iff.mp w
  split at w
  · rename_i ks0 ds0
    refine le_sd st e0 w fun env1 ks' ds' j kk F1 H1 L1 q0 kvs v c hi s1 ej g1 g2 g3 => ?_
    obtain ⟨es, hes, c⟩ := c
    obtain ⟨_, c⟩ := setK_iff.mp c
    obtain ⟨hr, c⟩ := setK_iff.mp c
    have e1 : (env1.set i (.ow (.dct ks' ds')))[i]? = some (.ow (.dct ks' ds')) := by rw [List.getElem?_set_self hi]
    obtain ⟨a, xs2, q, f2, L2, Z, k1, k2, k3, k4, po, close⟩ := s1.hole e1 hes
    have hvq := hole_eq k1 k2 k3 k4 ej g1 g2 g3
    subst hvq
    rw [List.set_set] at po
    have hx : P.fx r = false := by rw [hf]; exact hm
    obtain ⟨L4, s4⟩ := po.st.store (i := r) (o := .ow (.lst es)) (v := .ref q) (fp := f2) hr hx (by simpa using Slots.ow po.rr .nil) po.nd po.dis
    let P2 : Par := ⟨Z, H1, F1, fxB (setB (setB m i) r), σ.set r (some (.ref q))⟩
    have s5 : Sta X.K P2 F1 ((env1.set i .no).set r (.ow (.lst es))) (σ.set r (some (.ref q))) H1 L4 := s4.par s4.f0 s4.z (fun b z => (s4.dis b z).2) fun _ _ => rfl
    refine ⟨P2, F1, _, L4, _, rfl, s5, c, ⟨fun env2 σ2 F3 H3 L5 n s6 => ?_, fun _ _ _ _ _ n _ => n.elim, fun _ _ _ _ _ n _ => n.elim, fun _ _ _ _ _ _ _ _ n _ => n.elim⟩⟩
    obtain ⟨s7, e7, n⟩ := getK_iff.mp n
    split at n
    · rename_i es'
      obtain ⟨hr2, n⟩ := setK_iff.mp n
      obtain ⟨hi2, n⟩ := setK_iff.mp n
      obtain ⟨v2, fp2, L6, z1, z2, z3, z4⟩ := s6.take e7
      have fr : fxB (setB (setB m i) r) r = true := by rw [setB_get]; simp
      have fi : fxB (setB (setB m i) r) i = true := by rw [setB_get, setB_get]; simp
      have hrl : r < σ.length := by
        have := s5.sl.length
        rw [List.length_set, List.length_set] at this
        rw [List.length_set] at this
        rw [← this]
        simpa using hr
      have t1 : σ2[r]? = some (some (.ref q)) := by
        rw [s6.fx r fr]
        exact List.getElem?_set_self hrl
      rw [t1] at z1
      injection z1 with z1; injection z1 with z1; subst z1
      have t2 : σ2[i]? = σ[i]? := by
        rw [s6.fx i fi]
        exact List.getElem?_set_ne (Ne.symm hir)
      have po3 : Po X.K P2 F3 (env2.set r .no) σ2 H3 L6 (.ow (.lst es')) (.ref q) fp2 := ⟨z3, z2, z4.nodup_iff.mp s6.nd, fun b z => s6.dis b (z4.mem_iff.mpr (List.mem_append_right _ z))⟩
      obtain ⟨L7, s8⟩ := close F3 H3 (env2.set r .no) σ2 L6 es' fp2 _ _ po3 t2 hi2
      refine f.nx _ _ _ _ _ n (s8.par s8.f0 s8.z (fun b z => (s8.dis b z).2) fun j2 hj2 => ?_)
      have hj3 : fxB m j2 = true := by rw [← hf]; exact hj2
      have hjr : j2 ≠ r := fun e => by rw [e, hm] at hj3; cases hj3
      have hj4 : fxB (setB (setB m i) r) j2 = true := by rw [setB_get, setB_get, hj3]; rfl
      rw [s8.fx j2 hj4]
      rw [show (σ.set r (some (V.ref q)))[j2]? = σ[j2]? from List.getElem?_set_ne (Ne.symm hjr)]
      exact st.fx j2 hj2
    · exact n.elim
  · exact w.elim
theorem st_sdApp {i : Nat} {x : Str} {p ap p2 cp ap2 cp2 : Pos} {e : E} {ee : Expr} (c : CokS X N sc k) (hv : visB N sc i x = true) (hl : (ap.endLine == cp.line) = true) (hl2 : (ap2.endLine == cp2.line) = true) (hs : okShape ea = true) (hs2 : okShape ee = true) (ha : PE X ea (LE X.K a)) (he : PE X ee (LE X.K e)) :
    PS X (.Expr (.Call (.Attribute (.Call (.Attribute (.Name x p) "setdefault" ap) [ea, .List [] p2] [] cp) "append" ap2) [ee] [] cp2) pos) (LS X.K m (.sdApp i a e)) := by
  have hp : PA X [ee] (tCons (LE X.K e) tNil) := pa_cons he pa_nil (star1 hs2 _ _)
  have few : ((backTo cp2 (starEach [ee] X.env)).all (fun x => !x.1) && (backToKw cp2 (keywordEach [] X.env)).all (fun x => x.1.isSome) && decide ([ee].length + ([] : List Keyword).length + (if ([] : List Keyword).isEmpty then 0 else 1) < 30)) = true := by
    rw [star1 hs2]; rfl
  have ho := pe_dsetd (vis_ok c.toCok hv (pos := p)) ha (s_lst (pos := p2) s_Es0) (m2_of (X := X) (o := .Name x p) (nm := "setdefault") (ap := ap) (cp := cp) rfl hl hs rfl)
  refine ps_mono (ps_expr (pe_bm PySem.F.plainAttrs_list PySem.F.slot_list_append PySem.F.type_list_append mt_append ho hp rfl few hl2 (star1 hs2 _ _) rfl) rfl) fun D σ H w => ?_
  obtain ⟨P, F, env, L, KK, hf, st, w, f⟩ := w
  simp only [wS] at w
  obtain ⟨s0, e0, w⟩ := getK_iff.mp w
  split at w
  · rename_i ks0 ds0
    refine le_sd st e0 w fun env1 ks' ds' j kk F1 H1 L1 q0 kvs v c hi s1 ej g1 g2 g3 => ?_
    obtain ⟨es, hes, hz, c⟩ := c
    obtain ⟨_, c⟩ := setK_iff.mp c
    have e1 : (env1.set i (.ow (.dct ks' ds')))[i]? = some (.ow (.dct ks' ds')) := by rw [List.getElem?_set_self hi]
    obtain ⟨a0, xs2, q, f2, L9, Z, k1, k2, k3, k4, po, close⟩ := s1.hole e1 hes
    have hvq := hole_eq k1 k2 k3 k4 ej g1 g2 g3
    subst hvq
    rw [List.set_set] at po
    obtain ⟨q', ys0, f30, hq', hr0, ho0, hf20⟩ := Own.lst_inv po.rr
    injection hq' with hq'; subst hq'
    refine ⟨.inl ⟨rfl, ys0, SqL.of hr0⟩, _, F1, _, L9, _, po.push, c, fun r e3 y F4 H4 L4 fp c po4 _ => ?_⟩
    have st5 := po.st.pop po4.st
    have r5 : Own X.K F4 H4 (.lst es) (.ref q) f2 := po.rr.pushed (q := false) po4.st (fun e => nomatch e) fun _ _ => rfl
    obtain ⟨q', ys, f3, hq', hr, ho, hf2⟩ := r5.lst_inv
    injection hq' with hq'; subst hq'
    subst hf2
    obtain ⟨d, o, nn, c⟩ := lstK1 po4.rr c
    obtain ⟨hi3, c⟩ := setK_iff.mp c
    have qL : q ∉ L4 := fun z => (po4.st.dis q z).2 (.inr List.mem_cons_self)
    have qP : q ∉ fp := fun z => (po4.dis q z).2 (.inr List.mem_cons_self)
    have q3 : q ∉ f3 := (List.nodup_cons.mp (List.nodup_append.mp po.nd).2.1).1
    have oN : Own X.K F4 (L2.upd H4 q (.lst (ys ++ [y]))) (.lst (es ++ [d])) (.ref q) (q :: (f3 ++ (fp ++ []))) :=
      .lst upd_same ((ho.append (.cons (n := nn) o .nil)).mono (Ext.refl _) fun b z => upd_ne fun e => by
        subst e
        simp only [List.append_nil, List.mem_append] at z
        exact z.elim q3 qP)
    have poN : Po X.K ⟨Z, H1, F1, P.fx, P.s0⟩ F4 e3 σ (L2.upd H4 q (.lst (ys ++ [y]))) L4 (.ow (.lst (es ++ [d]))) (.ref q) (q :: (f3 ++ (fp ++ []))) := by
      refine ⟨st5.upd qL (po4.st.z q (.inr List.mem_cons_self)).2.2 (po.dis q List.mem_cons_self).2, oN, ?_, fun b z => ?_⟩
      · refine List.nodup_append.mpr ⟨po4.st.nd, List.nodup_cons.mpr ⟨fun z => ?_, ?_⟩, fun b z c2 w e => ?_⟩
        · simp only [List.append_nil, List.mem_append] at z
          exact z.elim q3 qP
        · rw [List.append_nil]
          refine List.nodup_append.mpr ⟨(List.nodup_cons.mp (List.nodup_append.mp po.nd).2.1).2, (List.nodup_append.mp po4.nd).2.1, fun b z c2 w e => ?_⟩
          subst e
          exact (po4.dis b w).2 (.inr (List.mem_cons_of_mem _ z))
        · subst e
          rcases List.mem_cons.mp w with w | w
          · subst w; exact qL z
          · simp only [List.append_nil, List.mem_append] at w
            rcases w with w | w
            · exact (po4.st.dis b z).2 (.inr (List.mem_cons_of_mem _ w))
            · exact (List.nodup_append.mp po4.nd).2.2 b z b w rfl
      · rcases List.mem_cons.mp z with z | z
        · subst z
          exact ⟨(po4.st.z b (.inr List.mem_cons_self)).2.2, (po.dis b List.mem_cons_self).2⟩
        · simp only [List.append_nil, List.mem_append] at z
          rcases z with z | z
          · exact ⟨(po4.st.z b (.inr (List.mem_cons_of_mem _ z))).2.2, (po.dis b (List.mem_cons_of_mem _ z)).2⟩
          · exact ⟨(po4.dis b z).1, fun w => (po4.dis b z).2 (.inl w)⟩
    obtain ⟨L7, s8⟩ := close F4 _ e3 σ L4 (es ++ [d]) _ _ _ poN rfl hi3
    exact ⟨q, ys, y, rfl, rfl, hr, by rw [← ho.length]; exact hz, f.nx _ _ _ _ _ c s8⟩
  · exact w.elim
theorem st_sdf {i : Nat} {x : Str} {p ap cp : Pos} (c : CokS X N sc k) (hv : visB N sc i x = true) (hl : (ap.endLine == cp.line) = true) (hs : okShape ea = true) (hs2 : okShape eb = true) (ha : PE X ea (LE X.K a)) (hb : PE X eb (LE X.K b)) :
    PS X (.Expr (.Call (.Attribute (.Name x p) "setdefault" ap) [ea, eb] [] cp) pos) (LS X.K m (.sdf i a b)) := by
  refine ps_mono (ps_expr (pe_dsetd (vis_ok c.toCok hv (pos := p)) ha hb (m2_of (X := X) (o := .Name x p) (nm := "setdefault") (ap := ap) (cp := cp) rfl hl hs hs2)) rfl) fun D σ H w => ?_
  obtain ⟨P, F, env, L, KK, hf, st, w, f⟩ := w
  simp only [wS] at w
  obtain ⟨s0, e0, w⟩ := getK_iff.mp w
  split at w
  · rename_i ks0 ds0
    obtain ⟨v0, L0, fp0, L00, h1, h2, _⟩ := st.sl.getOw e0
    obtain ⟨q0, xs0, fq0, rfl, hr0, _, _, _⟩ := h2.dct_inv
    refine ⟨_, h1, q0, rfl, .inl ⟨_, .inl hr0⟩, ?_⟩
    refine le2 st w fun u r env' y z F' H' L' fp fq c st' r1 r2 nd dis q => ?_
    obtain ⟨ky, vy, c⟩ := rd_view st' r1 c
    obtain ⟨kk, rfl, c⟩ := keyK_ok vy c
    obtain ⟨s1, e1, c⟩ := getK_iff.mp c
    split at c
    · rename_i ks ds
      obtain ⟨hz, c⟩ := c
      have nd' : (L' ++ fq).Nodup := by
        have n := List.nodup_append.mp nd
        exact List.nodup_append.mpr ⟨n.1, (List.nodup_append.mp n.2.1).2.1, fun a z b w => n.2.2 a z b (List.mem_append_right _ w)⟩
      obtain ⟨q2, xs2, g1, g2, gn, g3, mk⟩ := st'.changeD e1 nd' (fun a z => dis a (List.mem_append_right _ z)) r2.there
      rw [h1] at g1
      injection g1 with g1; injection g1 with g1; injection g1 with g1; subst g1
      have hlk : ks.length = xs2.length := gn.2.trans g3
      refine ⟨_, kk.k, g2, rfl, by rw [dkv_len hlk]; exact hz, fun v hv => ?_, fun hv => ?_⟩
      · rw [valV_dkv kk hlk] at hv
        cases ej : kix ks kk with
        | none => rw [ej] at hv; cases hv
        | some j =>
          rw [ej] at c
          exact f.nx _ _ _ _ _ c st'
      · have ej : kix ks kk = none := by
          rw [valV_dkv kk hlk] at hv
          cases ej : kix ks kk with
          | none => rfl
          | some j =>
            rw [ej] at hv
            have hv : xs2[j]? = none := hv
            rw [List.getElem?_eq_none_iff] at hv
            have := kix_lt ej
            omega
        rw [ej] at c
        have r2' : RRs X.K F' H' σ [r] [z] (fq ++ []) := .cons (r2.q false) .nil
        obtain ⟨dd, o, c⟩ := lstK_ok r2' c
        rw [List.append_nil] at o
        obtain ⟨d, rfl, o2⟩ := own1 o
        have nn : d.nd = true := all_get (i := 0) o.nd rfl
        obtain ⟨hi, c⟩ := setK_iff.mp c
        obtain ⟨L3, s'⟩ := mk (ks ++ [kk]) (ds ++ [d]) (xs2 ++ [z]) ⟨List.nodup_append.mpr ⟨gn.1, List.nodup_cons.mpr ⟨List.not_mem_nil, List.nodup_nil⟩, fun a z b w e2 => by
            rw [List.mem_singleton] at w
            exact kix_none ej (w ▸ e2 ▸ z)⟩, by rw [List.length_append, List.length_append, gn.2]; rfl⟩ fun fq' ho nq => ⟨fq' ++ (fq ++ []), ho.append (.cons (n := nn) o2 .nil), by simpa using nq, fun a z => by simpa using z⟩
        rw [put_new hlk ej]
        exact f.nx _ _ _ _ _ c s'
    · exact c.elim
  · exact w.elim
theorem s_dget {b d : E} {ey ez ew : Expr} {ap cp : Pos} (c : Cok X N sc k) (hl : (ap.endLine == cp.line) = true) (hc0 : notC0 ey = true) (hs : okShape ey = true) (hs1 : okShape ez = true) (hs2 : okShape ew = true) (ha : PE X ey (LE X.K a)) (hb : PE X ez (LE X.K b)) (hd : PE X ew (LE X.K d)) :
    PE X (.Call (.Attribute ey "get" ap) [ez, ew] [] cp) (LE X.K (.dget a b d)) := by
  refine ⟨fun pins s σ H Q I w => (pe_dget2 c.hu ha hb hd (m2_of (X := X) (o := ey) (nm := "get") (ap := ap) (cp := cp) (nobase hc0 "get" X.env (eval ey X.env)) hl hs1 hs2)).run pins s σ H Q I ?_⟩
  obtain ⟨P, F, env, L, C, st, w, k⟩ := w
  simp only [wE] at w
  refine ⟨P, F, env, L, _, st, w, fun r e1 x F1 H1 L1 fp c1 po q1 => ?_⟩
  obtain ⟨d0, v0, ht, c1⟩ := rd_view po.st (po.rr.rq true) c1
  cases d0 with
  | dct ks0 ds0 =>
    obtain ⟨q, xs0, rfl, hr0, _, _⟩ := v0.dct po.st.sub
    refine ⟨q, rfl, .inl ⟨_, hr0⟩, P.push fp H1 F1, F1, e1, L1, _, po.push, c1, fun u e2 y F2 H2 L2 fq c2 po2 q2 => ?_⟩
    refine ⟨(P.push fp H1 F1).push fq H2 F2, F2, e2, L2, _, po2.push, c2, fun wv e3 z F3 H3 L3 fr c3 po3 q3 => ?_⟩
    have st2 := po2.st.pop po3.st
    have st3 := po.st.pop st2
    have r1 := po.rr.pushed (q := false) st2 (fun e => nomatch e) fun _ _ => rfl
    have r2 := po2.rr.pushed (q := false) po3.st (fun e => nomatch e) fun _ _ => rfl
    have key : ∃ dd, View X.K F3 H3 dd (.ref q) ∧ (frz r = true → Rep X.K F3 dd (.ref q)) ∧ rd false e3 u (fun y => dgetS (frz r) dd y wv fun z => C z e3) := by
      cases r with
      | va d' => exact ⟨d', .inl r1.1, fun _ => r1.1, c3⟩
      | ow d' => obtain ⟨d, v, c⟩ := rd_view st3 r1 c3; exact ⟨d, v, (fun e => nomatch e), c⟩
      | rf d' => obtain ⟨d, v, c⟩ := rd_view st3 r1 c3; exact ⟨d, v, (fun e => nomatch e), c⟩
      | al d' => obtain ⟨d, v, c⟩ := rd_view st3 r1 c3; exact ⟨d, v, (fun e => nomatch e), c⟩
    obtain ⟨dd, vd, hfd, c3⟩ := key
    obtain ⟨ky, vy, c3⟩ := rd_view st3 r2 c3
    cases dd with
    | dct ks ds =>
      unfold dgetS at c3
      obtain ⟨kk, rfl, c3⟩ := keyK_ok vy c3
      obtain ⟨q', xs, hq', hr, n, hv⟩ := vd.dct st3.sub
      injection hq' with hq'; subst hq'
      have hlk : ks.length = xs.length := n.2.trans hv.length
      refine ⟨_, .inl ⟨_, kk.k, hr, rfl, rfl⟩, ?_⟩
      rw [valV_dkv kk hlk]
      cases e : dgt ks ds kk with
      | some d1 =>
        rw [e] at c3
        obtain ⟨j, e1', e2'⟩ := dgt_some e
        obtain ⟨v', e3', hv'⟩ := hv.get e2'
        rw [e1']
        show Q ((xs[j]?).getD z) H3
        rw [e3']
        refine item_ret (C := fun r => C r e3) st3 (fun r v F2 H2 fq c _ _ po => k r e3 v F2 H2 L3 fq c po fun e => nomatch e) c3 hv' fun hfr => ?_
        cases hfd hfr with
        | dct q2 n2 r2 =>
          obtain ⟨v2, e4, r2⟩ := r2.get e2'
          have ee := dkv_inj hlk (n2.2.trans (by assumption : RepL _ _ _ _).length) (rd_inj hr (st3.sub.rd q2))
          rw [ee] at e3'
          rw [e3'] at e4; injection e4 with e4; subst e4
          exact r2
      | none =>
        rw [e] at c3
        have hn : (kix ks kk).bind (fun i => xs[i]?) = none := by
          cases ej : kix ks kk with
          | none => rfl
          | some j =>
            unfold dgt at e
            rw [ej] at e
            have e : ds[j]? = none := e
            rw [List.getElem?_eq_none_iff] at e
            have := kix_lt ej
            rw [n.2] at this
            omega
        rw [hn]
        exact k wv e3 z F3 H3 L3 fr c3 ⟨st3, po3.rr, po3.nd, fun b z => ⟨(po3.dis b z).1, fun w => (po3.dis b z).2 (.inl (.inl w))⟩⟩ fun e => nomatch e
    | _ => exact c3.elim
  | _ => cases ht
theorem st_frzP {q : List Bool} {s : PW.S} {st : Stmt} (hs : PS X st (LS X.K m s)) : PS X st (LS X.K m (.frzP q s)) := by
  refine ps_mono hs fun D σ H w => ?_
  obtain ⟨P, F, env, L, KK, hf, st, w, f⟩ := w
  simp only [wS] at w
  have w := frzK_iff _ _ _ w
  obtain ⟨L1, fp, pm, h1, h2⟩ := frz_slots (q := q) st.sl
  have nd := pm.nodup_iff.mp st.nd
  have dis : ∀ a ∈ fp, F a = none ∧ ¬ P.Z a := fun a z => st.dis a (pm.mem_iff.mpr (List.mem_append_right _ z))
  have x1 : Ext F (frzd F H fp) := frzd_ext fun a z => (dis a z).1
  refine ⟨P, frzd F H fp, frzE q env, L1, KK, hf, ⟨h1 _ x1 fun a z => frzd_in z, (List.nodup_append.mp nd).1, fun a z => ⟨?_, (st.dis a (pm.mem_iff.mpr (List.mem_append_left _ z))).2⟩, frzd_sub st.sub, st.f0.trans x1, fun a z => ⟨(st.z a z).1, (st.z a z).2.1, ?_⟩, st.fx⟩, w, f⟩
  · rw [frzd_out fun w => (List.nodup_append.mp nd).2.2 a z a w rfl]
    exact (st.dis a (pm.mem_iff.mpr (List.mem_append_left _ z))).1
  · rw [frzd_out fun w => (dis a w).2 z]
    exact (st.z a z).2.2
theorem s_dsp1 (ha : PE X ea (LE X.K a)) (hb : PE X eb (LE X.K b)) : PE X (.Dict [some ea] [eb] pos) (LE X.K (.dsp1 a b)) := by
  refine pe_mono (pe_disp (pps_cons ha hb pps_nil) rfl rfl (fun e => nomatch e) (Nat.le_of_ble_eq_true rfl)) fun σ H Q w => ?_
  obtain ⟨P, F, env, L, C, st, w, k⟩ := w
  simp only [wE] at w
  intro p hp
  have po : Po X.K P F env σ (L2.upd H p (.dK [])) L (.ow (.dct [] [])) (.ref p) [p] := by
    have hf : F p = none := by
      cases e : F p with
      | none => rfl
      | some o => rw [st.sub _ _ e] at hp; cases hp
    have hpL : p ∉ L := fun z => by obtain ⟨_, e⟩ := st.sl.there p z; rw [hp] at e; cases e
    refine ⟨st.heap (Ext.new hp), .dct (ks := []) (xs := []) upd_same ⟨List.nodup_nil, rfl⟩ .nil, ?_, fun a z => ?_⟩
    · rw [List.nodup_append]
      refine ⟨st.nd, List.nodup_cons.mpr ⟨List.not_mem_nil, List.nodup_nil⟩, fun a h1 b h2 e => ?_⟩
      rw [List.mem_singleton] at h2
      exact hpL (h2 ▸ e ▸ h1)
    · rw [List.mem_singleton] at z
      subst z
      exact ⟨hf, fun z => (st.z _ z).2.1 hp⟩
  refine ⟨_, F, env, L, _, po.push, w, fun u env1 y F1 H1 L1 fp c po1 _ => ?_⟩
  obtain ⟨ky, vy, c⟩ := rd_view po1.st (po1.rr.rq true) c
  obtain ⟨kk, rfl, c⟩ := keyK_ok vy c
  refine ⟨_, F1, env1, L1, _, po1.st, c, fun r env2 z F2 H2 L9 fq c po2 _ => ?_⟩
  obtain ⟨d, o, nn, c⟩ := lstK1 po2.rr c
  have st2 := po.st.pop po2.st
  have e0 : H2 p = some (.dK []) := by rw [(po2.st.z p (.inr List.mem_cons_self)).1]; exact upd_same
  have hF : F2 p = none := (po2.st.z p (.inr List.mem_cons_self)).2.2
  have pL : p ∉ L9 := fun z => (po2.st.dis p z).2 (.inr List.mem_cons_self)
  have pQ : p ∉ fq := fun z => (po2.dis p z).2 (.inr List.mem_cons_self)
  have hZ : ¬ P.Z p := (po.dis p List.mem_cons_self).2
  refine ⟨e0, [(kk.k, z)], rfl, Nat.le_of_ble_eq_true rfl, ?_⟩
  show Q (.ref p) (L2.upd H2 p (.dK [(kk.k, z)]))
  refine k (.ow (.dct [kk] [d])) env2 _ F2 _ L9 (p :: (fq ++ [])) c ⟨st2.upd pL hF hZ, .dct (ks := [kk]) (xs := [z]) upd_same ⟨List.nodup_cons.mpr ⟨List.not_mem_nil, List.nodup_nil⟩, rfl⟩ (OwnL.mono (Ext.refl _) (.cons (n := nn) o .nil) fun b z => upd_ne fun e => pQ (by subst e; simpa using z)), ?_, fun b z => ?_⟩ fun e => nomatch e
  · rw [List.append_nil]
    refine List.nodup_append.mpr ⟨st2.nd, List.nodup_cons.mpr ⟨pQ, (List.nodup_append.mp po2.nd).2.1⟩, fun b z c w e => ?_⟩
    subst e
    rcases List.mem_cons.mp w with w | w
    · subst w; exact pL z
    · exact (List.nodup_append.mp po2.nd).2.2 b z b w rfl
  · rw [List.append_nil] at z
    rcases List.mem_cons.mp z with z | z
    · subst z; exact ⟨hF, hZ⟩
    · exact ⟨(po2.dis b z).1, fun w => (po2.dis b z).2 (.inl w)⟩
theorem walk_rev {K : Fg} {F : Hp} {s1 : LSt} {ds : List D} {xs : List V} {q : Addr} (h : Rd F q (.lst xs)) (r : RepL K F ds xs) {sl : Option Nat} : WalkOk K F s1 sl (fun _ => True) ds.reverse (Itv K q xs.length) := by
  intro i P F2 env σ H L st e _ _
  have sq : SqL K H q xs := .inl ((e.trans st.sub).rd h)
  have hl := r.length
  refine ⟨fun hi => ?_, fun hi => ?_, fun d x H' hd hy => ?_⟩
  · rw [List.length_reverse] at hi
    obtain ⟨x, hx⟩ := go_some (xs := xs) (i := xs.length - 1 - i) (by omega)
    exact ⟨by omega, xs, x, sq, hx⟩
  · rw [List.length_reverse] at hi
    show xs.length ≤ i
    omega
  · obtain ⟨rfl, hy⟩ := hy
    have hi : i < ds.length := by have := (List.getElem?_eq_some_iff.mp hd).1; rwa [List.length_reverse] at this
    rw [List.getElem?_reverse hi] at hd
    obtain ⟨v, hv, rv⟩ := r.get hd
    have := hy xs sq
    rw [← hl, hv] at this; injection this with this; subst this
    exact ⟨F2, st, fun _ _ => ⟨rfl, rfl⟩, rv.mono e⟩
theorem i_rl {p : Pos} {tg : Expr} (c : Cok X N sc k) (hg : glB sc "reversed" = true) (hm : X.mg "reversed" = none) (hs : okShape ea = true) (ha : PE X ea (LE X.K a)) :
    PI X tg (.Call (.Name "reversed" p) [ea] [] pos) (LI X.K (.rl a)) := by
  obtain ⟨g1, _, _⟩ := gl_ok c hg
  refine pi_mono (pi_reversed g1 hm (pa_cons ha pa_nil (star1 hs _ _)) (star1 hs _ _)) fun σ H Q w => ?_
  obtain ⟨P, F, env, L, C, st, w, k⟩ := w
  simp only [wI] at w
  refine ⟨P, F, env, L, _, st, w, fun r env' v F' H' L' fp c po _ => ?_⟩
  split at c
  · split at c
    · rename_i ds
      obtain ⟨r1, _⟩ := po.rr
      cases r1 with
      | lst q r => exact ⟨_, _, rfl, .inl (po.st.sub.rd q), k _ _ _ _ _ _ _ c po.st (walk_rev q r) fun _ _ _ _ g => g⟩
    · exact c.elim
  · split at c
    · rename_i ds
      have o : Own X.K F' H' (.lst ds) v fp := po.rr
      have e : Ext F' (frzd F' H' fp) := frzd_ext fun a z => (po.dis a z).1
      have s2 := po.st.frz po.nd po.dis
      have r1 := o.freeze e fun a z => frzd_in z
      cases r1 with
      | lst q r => exact ⟨_, _, rfl, .inl (s2.sub.rd q), k _ _ _ _ _ _ _ c s2 (walk_rev q r) fun _ _ _ _ g => g⟩
    · exact c.elim
  · exact c.elim
theorem st_augSub {i : Nat} {x : Str} {p p2 : Pos} {e : E} {ee : Expr} (c : CokS X N sc k) (hv : visB N sc i x = true) (hi : okShape ea = true) (ha : PE X ea (LE X.K a)) (he : PE X ee (LE X.K e)) :
    PS X (.AugAssign (.Subscript (.Name x p) ea p2) .Sub ee pos) (LS X.K m (.augSub i a e)) := by
  refine ps_mono (ps_augS (vis_ok c.toCok hv) ha get_list he ip_sub set_list (by intro ov iv new; cases ea <;> first | rfl | cases hi)) fun D σ H w => ?_
  obtain ⟨P, F, env, L, KK, hf, st, w, f⟩ := w
  simp only [wS] at w
  obtain ⟨s0, e0, w⟩ := getK_iff.mp w
  split at w
  · rename_i ds0
    obtain ⟨v, L1, fp0, L2, h1, h2, _⟩ := st.sl.getOw e0
    refine ⟨_, h1, P, F, env, L, _, st, w, fun r env1 z F1 H1 L1' fq c po q => ?_⟩
    split at c
    · rename_i za
      obtain ⟨r2, hfq⟩ := po.rr
      subst hfq
      cases r2
      obtain ⟨s1, e1', c⟩ := getK_iff.mp c
      split at c
      · rename_i ds
        obtain ⟨j, xx, ⟨hj, hes⟩, c⟩ := c
        obtain ⟨q1, xs, g1, g2, g3, _⟩ := po.st.change (fp := []) e1' (by simpa using po.st.nd) (fun _ z => nomatch z) (fun _ z => nomatch z)
        obtain ⟨v1, _, fp1, _, z1, z2, _⟩ := po.st.sl.getOw e1'
        obtain ⟨q1', xs1, fq1, rfl, hr1, ho1, _⟩ := z2.lst_inv
        rw [z1] at g1
        injection g1 with g1; injection g1 with g1; injection g1 with g1; subst g1
        rw [hr1] at g2
        injection g2 with g2; injection g2 with g2; subst g2
        obtain ⟨vy, fy, gy1, gy2, _⟩ := ho1.get hes
        have hvy := (gy2.leaf_inv rfl).1
        cases hvy
        rw [h1] at z1
        injection z1 with z1; injection z1 with z1; subst z1
        refine ⟨q1', xs1, za, .int xx, rfl, rfl, SqL.of hr1, atI_of g3 hj gy1, P, F1, env1, L1', _, po.st, c, fun r env2 y F2 H2 L2 fp c po2 qq => ?_⟩
        split at c
        · rename_i yy
          obtain ⟨r3, hfr⟩ := po2.rr
          subst hfr
          cases r3
          obtain ⟨s3, e3, c⟩ := getK_iff.mp c
          split at c
          · rename_i ds3
            obtain ⟨j2, hj2, c⟩ := c
            obtain ⟨hi2, c⟩ := setK_iff.mp c
            obtain ⟨q4, xs4, k1, k2, k3, mk⟩ := po2.st.change (fp := []) e3 (by simpa using po2.st.nd) (fun _ z => nomatch z) (fun _ z => nomatch z)
            rw [h1] at k1
            injection k1 with k1; injection k1 with k1; injection k1 with k1; subst k1
            have hjl : j2 < ds3.length := (ixN_seq hj2).2.1
            obtain ⟨L3, s'⟩ := mk (ds3.set j2 (.int (xx - yy))) (xs4.set j2 (.int (xx - yy))) fun fq ho nq => ownL_set rfl (.leaf rfl (.int _)) ho hjl nq
            exact ⟨xx, yy, rfl, rfl, q1', xs4, za, j2, rfl, rfl, k2, by rw [← k3]; exact hj2, f.nx _ _ _ _ _ c s'⟩
          · exact c.elim
        · exact c.elim
      · exact c.elim
    · exact c.elim
  · exact w.elim
theorem st_dinc {i : Nat} {x : Str} {p p2 : Pos} {e : E} {ee : Expr} (c : CokS X N sc k) (hv : visB N sc i x = true) (hi : okShape ea = true) (ha : PE X ea (LE X.K a)) (he : PE X ee (LE X.K e)) :
    PS X (.AugAssign (.Subscript (.Name x p) ea p2) .Add ee pos) (LS X.K m (.dinc i a e)) := by
  refine ps_mono (ps_daug c.toCok.hu (vis_ok c.toCok hv) ha he (rd := ipI fun i j => i + j) ip_add (by intro ov iv new; cases ea <;> first | rfl | cases hi)) fun D σ H w => ?_
  obtain ⟨P, F, env, L, KK, hf, st, w, f⟩ := w
  simp only [wS] at w
  obtain ⟨s0, e0, w⟩ := getK_iff.mp w
  split at w
  · rename_i ks0 ds0
    obtain ⟨v0, L0, fp0, L00, h1, h2, _⟩ := st.sl.getOw e0
    obtain ⟨q0, xs0, fq0, rfl, hr0, _, _, _⟩ := h2.dct_inv
    refine ⟨_, h1, P, F, env, L, _, st, w, fun u env1 y F1 H1 L1 fp c po _ => ?_⟩
    obtain ⟨ky, vy, c⟩ := rd_view po.st (po.rr.rq true) c
    obtain ⟨kk, rfl, c⟩ := keyK_ok vy c
    obtain ⟨s1, e1, c⟩ := getK_iff.mp c
    split at c
    · rename_i ks ds
      obtain ⟨xx, hx, c⟩ := c
      obtain ⟨v1, _, fp1, _, z1, z2, _⟩ := po.st.sl.getOw e1
      obtain ⟨q1, xs1, fq1, rfl, hr1, hn1, ho1, _⟩ := z2.dct_inv
      rw [h1] at z1
      injection z1 with z1; injection z1 with z1; injection z1 with z1; subst z1
      have hlk : ks.length = xs1.length := hn1.2.trans ho1.length
      obtain ⟨j, ej, hj⟩ := dgt_some hx
      obtain ⟨vy2, fy, gy1, gy2, _⟩ := ho1.get hj
      have hvy := (gy2.leaf_inv rfl).1
      cases hvy
      refine ⟨q0, .int xx, rfl, .inl ⟨_, kk.k, .inl hr1, rfl, by rw [valV_dkv kk hlk, ej]; exact gy1.symm⟩, P, F1, env1, L1, _, po.st, c, fun r env2 y2 F2 H2 L2 fr c po2 qq => ?_⟩
      split at c
      · rename_i yy
        obtain ⟨r3, hfr⟩ := po2.rr
        subst hfr
        cases r3
        obtain ⟨s3, e3, c⟩ := getK_iff.mp c
        split at c
        · rename_i ks3 ds3
          obtain ⟨j2, ⟨hj2, hsz⟩, c⟩ := c
          obtain ⟨hi2, c⟩ := setK_iff.mp c
          obtain ⟨q4, xs4, k1, k2, kn, k3, mk⟩ := po2.st.changeD (fp := []) e3 (by simpa using po2.st.nd) (fun _ z => nomatch z) (fun _ z => nomatch z)
          rw [h1] at k1
          injection k1 with k1; injection k1 with k1; injection k1 with k1; subst k1
          have hl4 : ks3.length = xs4.length := kn.2.trans k3
          have hjl : j2 < ds3.length := by rw [← kn.2]; exact kix_lt hj2
          obtain ⟨L3, s'⟩ := mk ks3 (ds3.set j2 (.int (xx + yy))) (xs4.set j2 (.int (xx + yy))) ⟨kn.1, by rw [List.length_set]; exact kn.2⟩ fun fq ho nq => ownL_set rfl (.leaf rfl (.int _)) ho hjl nq
          refine ⟨xx, yy, rfl, rfl, _, .inl ⟨_, kk.k, k2, rfl, ?_, rfl⟩, ?_⟩
          · rw [dkv_len hl4]; exact hsz
          · rw [put_old kn.1 hl4 hj2]
            exact f.nx _ _ _ _ _ c s'
        · exact c.elim
      · exact c.elim
    · exact c.elim
  · exact w.elim
end
end PW

namespace PW
open PySem L2 PyProof.Rows
theorem shpI {N : List Str} {sc : Scope} {it : PW.It} {x : Expr} (h : cI N sc it x = true) : okShape x = true := by
  cases it with
  | sq e =>
    simp only [cI, Bool.and_eq_true] at h
    exact shp e x h.2
  | sl i => cases x <;> first | rfl | (exfalso; revert h; simp only [cI]; decide)
  | r1 a => cases x <;> first | rfl | (exfalso; revert h; simp only [cI]; decide)
  | r2 a b => cases x <;> first | rfl | (exfalso; revert h; simp only [cI]; decide)
  | zip a => cases x <;> first | rfl | (exfalso; revert h; simp only [cI]; decide)
  | en a => cases x <;> first | rfl | (exfalso; revert h; simp only [cI]; decide)
  | rr a => cases x <;> first | rfl | (exfalso; revert h; simp only [cI]; decide)
  | rl a => cases x <;> first | rfl | (exfalso; revert h; simp only [cI]; decide)
  | r3 a b c => cases x <;> first | rfl | (exfalso; revert h; simp only [cI]; decide)
theorem inv_zip {N : List Str} {sc : Scope} {x : Expr} (es : Es) (h : cI N sc (.zip es) x = true) : ∃ p y z q, x = .Call (.Name "zip" p) [y, z] [] q ∧ glB sc "zip" = true ∧ cEs N sc es [y, z] = true := by
  cases x with
  | Call g xs ks q =>
    cases g with
    | Name g p =>
      rcases xs with _ | ⟨y, _ | ⟨z, _ | ⟨w, xs⟩⟩⟩ <;> cases ks
      all_goals first
        | (simp only [cI, Bool.and_eq_true, decide_eq_true_eq] at h
           obtain ⟨⟨rfl, h1⟩, h2⟩ := h
           exact ⟨p, y, z, q, rfl, h1, h2⟩)
        | (simp only [cI] at h; cases h)
    | _ => exfalso; revert h; simp only [cI]; decide
  | _ => exfalso; revert h; simp only [cI]; decide
theorem inv_en {N : List Str} {sc : Scope} {x : Expr} (es : Es) (h : cI N sc (.en es) x = true) : ∃ p y q, x = .Call (.Name "enumerate" p) [y] [] q ∧ glB sc "enumerate" = true ∧ cEs N sc es [y] = true := by
  cases x with
  | Call g xs ks q =>
    cases g with
    | Name g p =>
      rcases xs with _ | ⟨y, _ | ⟨z, _ | ⟨w, xs⟩⟩⟩ <;> cases ks
      all_goals first
        | (simp only [cI, Bool.and_eq_true, decide_eq_true_eq] at h
           obtain ⟨⟨rfl, h1⟩, h2⟩ := h
           exact ⟨p, y, q, rfl, h1, h2⟩)
        | (simp only [cI] at h; cases h)
    | _ => exfalso; revert h; simp only [cI]; decide
  | _ => exfalso; revert h; simp only [cI]; decide
theorem tp_zip {es : Es} {tg : Expr} (h : tpOk (.zip es) tg = true) : ∃ elts kk p, tg = .Tuple elts kk p := by
  cases tg <;> first | exact ⟨_, _, _, rfl⟩ | exact absurd h Bool.false_ne_true
theorem tp_en {es : Es} {tg : Expr} (h : tpOk (.en es) tg = true) : ∃ elts kk p, tg = .Tuple elts kk p := by
  cases tg <;> first | exact ⟨_, _, _, rfl⟩ | exact absurd h Bool.false_ne_true
theorem inv_r1 {N : List Str} {sc : Scope} {x : Expr} (a : E) (h : cI N sc (.r1 a) x = true) : ∃ p y q, x = .Call (.Name "range" p) [y] [] q ∧ glB sc "range" = true ∧ cE N sc a y = true := by
  cases x with
  | Call g xs ks q =>
    cases g with
    | Name g p =>
      rcases xs with _ | ⟨y, _ | ⟨z, _ | ⟨w, xs⟩⟩⟩ <;> cases ks
      all_goals first
        | (simp only [cI, Bool.and_eq_true, decide_eq_true_eq] at h
           obtain ⟨⟨rfl, h1⟩, h2⟩ := h
           exact ⟨p, y, q, rfl, h1, h2⟩)
        | (simp only [cI] at h; cases h)
    | _ => exfalso; revert h; simp only [cI]; decide
  | _ => exfalso; revert h; simp only [cI]; decide
theorem inv_r2 {N : List Str} {sc : Scope} {x : Expr} (a b : E) (h : cI N sc (.r2 a b) x = true) : ∃ p y z q, x = .Call (.Name "range" p) [y, z] [] q ∧ glB sc "range" = true ∧ cE N sc a y = true ∧ cE N sc b z = true := by
  cases x with
  | Call g xs ks q =>
    cases g with
    | Name g p =>
      rcases xs with _ | ⟨y, _ | ⟨z, _ | ⟨w, xs⟩⟩⟩ <;> cases ks
      all_goals first
        | (simp only [cI, Bool.and_eq_true, decide_eq_true_eq] at h
           obtain ⟨⟨⟨rfl, h1⟩, h2⟩, h3⟩ := h
           exact ⟨p, y, z, q, rfl, h1, h2, h3⟩)
        | (simp only [cI] at h; cases h)
    | _ => exfalso; revert h; simp only [cI]; decide
  | _ => exfalso; revert h; simp only [cI]; decide
theorem inv_isl {N : List Str} {sc : Scope} {x : Expr} (i : Nat) (h : cI N sc (.sl i) x = true) : ∃ y p, x = .Name y p ∧ visB N sc i y = true := by
  cases x with
  | Name y p => exact ⟨y, p, rfl, by simpa only [cI] using h⟩
  | _ => exfalso; revert h; simp only [cI]; decide
theorem blk_pg {X : Cx} {N : List Str} {sc : Scope} {k : Nat} (c : Cok X N sc k) {s : Scope} {i : Nat} {y : Str} {p : Pos} (hl : locB N (relS s sc) i y = true) (ho : ownB s y = true) (s0 : Shared) (H : Hp) (C : Addr) (cl : List (Str × Addr)) (fp : List Addr) :
    PG (X.blk s0 H s (compEnvC s cl C X.env) fp) (.Name y p) (gName i) := by
  have e : (compEnvC s cl C X.env).scope = relS s sc := by rw [← c.sc]; rfl
  unfold locB at hl
  simp only [Bool.and_eq_true, decide_eq_true_eq] at hl
  obtain ⟨h1, h2⟩ := hl
  refine pg_name (X := X.blk s0 H s (compEnvC s cl C X.env) fp) (by show X.N.Nodup; rw [c.n]; exact c.nd) (by show X.N[i]? = some y; rw [c.n]; exact h1) ?_ ?_
  · show L2.Loc (compEnvC s cl C X.env).scope y
    unfold L2.Loc
    rw [e]
    split at h2 <;> first | exact .inl (by assumption) | exact .inr (by assumption) | cases h2
  · unfold ownB at ho
    split at ho
    · rename_i q
      right
      show (compEnvC s cl C X.env).scope.names.lookup y = some .local
      rw [e]
      exact lookup_relS_keep (by decide) q
    · rename_i q
      left
      show (s.names.lookup y == some .cell) = true
      rw [q]; rfl
    · cases ho
theorem blk_cok {X : Cx} {N : List Str} {sc : Scope} {k : Nat} (c : Cok X N sc k) (s : Scope) (s0 : Shared) (H : Hp) (C : Addr) (cl : List (Str × Addr)) (fp : List Addr) : Cok (X.blk s0 H s (compEnvC s cl C X.env) fp) N (relS s sc) k :=
  ⟨c.n, c.nd, by rw [← c.sc]; rfl, c.calm, c.room⟩
theorem slot_ne {it : PW.It} {i : Nat} (h : slB it i = true) : ∀ j, it.slot = some j → j ≠ i := by
  intro j hj
  cases it with
  | sl k =>
    have e : k = j := Option.some.inj hj
    subst e
    simpa [slB] using h
  | sq _ => cases hj
  | r1 _ => cases hj
  | r2 _ _ => cases hj
  | zip _ => cases hj
  | en _ => cases hj
  | rr _ => cases hj
  | rl _ => cases hj
  | r3 _ _ _ => cases hj


/-! ### a comprehension's target -/
theorem blk_nm {X : Cx} {N : List Str} {sc : Scope} {k : Nat} (c : Cok X N sc k) {s : Scope} {it : PW.It} {i : Nat} {y : Str} {p : Pos} (h : nmB N (relS s sc) s it i y = true) (s0 : Shared) (H : Hp) (C : Addr) (cl : List (Str × Addr)) (fp : List Addr) :
    PG (X.blk s0 H s (compEnvC s cl C X.env) fp) (.Name y p) (gName i) := by
  unfold nmB at h
  simp only [Bool.and_eq_true] at h
  exact blk_pg c h.1.1 h.1.2 s0 H C cl fp
theorem nm_ne {N : List Str} {sc s : Scope} {it : PW.It} {i : Nat} {y : Str} (h : nmB N sc s it i y = true) : ∀ j, it.slot = some j → j ≠ i := by
  unfold nmB at h
  simp only [Bool.and_eq_true] at h
  exact slot_ne h.2
/-- several names -/
def LGws (K : Fg) (is : List Nat) : TGs := fun vs σ H Q => ∃ (P : Par) (F : Hp) (env : PW.Env) (L : List Addr) (ds : List D) (C : PW.Env → Prop) (σ0 : LSt) (ks : List Nat), (∀ j, P.fx j = false) ∧ Sta K P F env σ H L ∧ RepL K F ds vs ∧ ds.length = is.length ∧ tgt.go is ds env C ∧
  (σ.length = σ0.length ∧ (∀ j, j ∉ ks → σ[j]? = σ0[j]?) ∧ ∀ j ∈ is, j ∈ ks) ∧
  ∀ env' σ' L', C env' → Sta K P F env' σ' H L' → σ'.length = σ0.length → (∀ j, j ∉ ks → σ'[j]? = σ0[j]?) → Q σ' H
theorem gws_ok {X : Cx} {N : List Str} {sc : Scope} {k : Nat} (c : Cok X N sc k) {s : Scope} {it : PW.It} (s0 : Shared) (H0 : Hp) (C0 : Addr) (cl : List (Str × Addr)) (fp : List Addr) : ∀ {is : List Nat} {xs : List Expr}, gsB N (relS s sc) s it is xs = true →
    PGs (X.blk s0 H0 s (compEnvC s cl C0 X.env) fp) xs (LGws X.K is) ∧ (assignEach xs (compEnvC s cl C0 X.env)).length = is.length ∧ (assignEach xs (compEnvC s cl C0 X.env)).findIdx? (·.1) = none ∧ (ownG is xs).map (·.2) = is ∧ ∀ j, it.slot = some j → j ∉ is
  | [], [], _ => ⟨⟨fun pins s σ H vs us Q I r w => pgs_nil.run pins s σ H vs us Q I r (by
      obtain ⟨P, F, env, L, ds, C, σ0, ks, hf, st, rp, hl, w, ⟨hl2, ho, _⟩, k⟩ := w
      cases ds with
      | nil => cases rp; exact ⟨rfl, k _ _ _ w st hl2 ho⟩
      | cons d ds => simp at hl)⟩, rfl, rfl, rfl, fun _ _ z => nomatch z⟩
  | [], _ :: _, h => by simp only [gsB] at h; cases h
  | i :: is, [], h => by simp only [gsB] at h; cases h
  | i :: is, x :: xs, h => by
    cases x with
    | Name x p =>
      simp only [gsB, Bool.and_eq_true] at h
      obtain ⟨h1, h3⟩ := h
      obtain ⟨q1, q2, q3, q4, q5⟩ := gws_ok c s0 H0 C0 cl fp h3
      refine ⟨⟨fun pins s σ H vs us Q I r w => (pgs_cons (blk_nm c h1 s0 H0 C0 cl fp) q1).run pins s σ H vs us Q I r ?_⟩, ?_, ?_, ?_, ?_⟩
      · obtain ⟨P, F, env, L, ds, C, σ0, ks, hf, st, rp, hl, w, ⟨hl2, ho, hk⟩, k⟩ := w
        cases ds with
        | nil => simp at hl
        | cons d ds =>
          cases rp with
          | cons r0 rs =>
            obtain ⟨hi, w⟩ := setK_iff.mp (show setK env i (.sh d) _ from w)
            obtain ⟨L', s'⟩ := st.store (o := .sh d) (v := _) (fp := []) hi (hf i) (.sh r0 .nil) (by simpa using st.nd) fun _ z => nomatch z
            refine ⟨_, _, rfl, P, F, _, L', ds, C, σ0, ks, hf, s', rs, by simpa using hl, w, ⟨by rw [List.length_set]; exact hl2, fun j hj => ?_, fun j hj => hk j (List.mem_cons_of_mem _ hj)⟩, k⟩
            rw [List.getElem?_set_ne fun e => hj (by rw [← e]; exact hk i List.mem_cons_self)]
            exact ho j hj
      · show (assignEach xs (compEnvC s cl C0 X.env)).length + 1 = is.length + 1
        rw [q2]
      · show List.findIdx? _ ((false, _) :: assignEach xs (compEnvC s cl C0 X.env)) = none
        rw [List.findIdx?_cons]
        simp [q3]
      · show i :: (ownG is xs).map (·.2) = i :: is
        rw [q4]
      · intro j hj z
        rcases List.mem_cons.mp z with z | z
        · exact nm_ne h1 j hj z
        · exact q5 j hj z
    | _ => simp only [gsB] at h; cases h
theorem gws_st {N : List Str} {sc s : Scope} {it : PW.It} : ∀ {is : List Nat} {xs : List Expr}, gsB N sc s it is xs = true → (ownG is xs).map (·.2) = is ∧ ∀ j, it.slot = some j → j ∉ is
  | [], [], _ => ⟨rfl, fun _ _ z => nomatch z⟩
  | [], _ :: _, h => by simp only [gsB] at h; cases h
  | i :: is, [], h => by simp only [gsB] at h; cases h
  | i :: is, x :: xs, h => by
    cases x with
    | Name x p =>
      simp only [gsB, Bool.and_eq_true] at h
      obtain ⟨h1, h3⟩ := h
      obtain ⟨q4, q5⟩ := gws_st h3
      refine ⟨?_, ?_⟩
      · show i :: (ownG is xs).map (·.2) = i :: is
        rw [q4]
      · intro j hj z
        rcases List.mem_cons.mp z with z | z
        · exact nm_ne h1 j hj z
        · exact q5 j hj z
    | _ => simp only [gsB] at h; cases h
theorem blk_gw {X : Cx} {N : List Str} {sc : Scope} {k : Nat} (c : Cok X N sc k) {s : Scope} {it : PW.It} {g : G} {tg : Expr} (h : gB N (relS s sc) s it g tg = true) : (ownP g tg).map (·.2) = g.sl ∧ g.sl.Nodup ∧ (∀ j, it.slot = some j → j ∉ g.sl) ∧
    ∀ (s0 : Shared) (H : Hp) (C : Addr) (cl : List (Str × Addr)) (fp : List Addr), PG (X.blk s0 H s (compEnvC s cl C X.env) fp) tg (LGw X.K g) := by
  cases g with
  | nm i =>
    cases tg with
    | Name y p =>
      have h : nmB N (relS s sc) s it i y = true := by simpa only [gB] using h
      refine ⟨rfl, by simp [G.sl], fun j hj z => nm_ne h j hj (by simpa [G.sl] using z), fun s0 H C cl fp => pg_mono (blk_nm c h s0 H C cl fp) fun v σ H Q w => ?_⟩
      obtain ⟨P, F, env, L, d, C, hf, st, r, w, k⟩ := w
      obtain ⟨hi, w⟩ := setK_iff.mp (show setK env i (.sh d) C from w)
      obtain ⟨L', s'⟩ := st.store (o := .sh d) (v := v) (fp := []) hi (hf i) (.sh r .nil) (by simpa using st.nd) fun _ z => nomatch z
      refine k _ _ _ w s' List.length_set fun j hj => ?_
      exact List.getElem?_set_ne fun e => hj (by rw [← e]; exact List.mem_singleton.mpr rfl)
    | _ => simp only [gB] at h; cases h
  | tp is =>
    cases tg with
    | Tuple xs kk p =>
      have h : (gsB N (relS s sc) s it is xs && decide is.Nodup) = true := by simpa only [gB] using h
      simp only [Bool.and_eq_true, decide_eq_true_eq] at h
      obtain ⟨h1, h2⟩ := h
      have q (s0 : Shared) (H : Hp) (C : Addr) (cl : List (Str × Addr)) (fp : List Addr) := gws_ok c s0 H C cl fp h1
      obtain ⟨q4, q5⟩ := gws_st h1
      refine ⟨q4, h2, q5, fun s0 H C cl fp => ?_⟩
      obtain ⟨g1, g2, g3, _, _⟩ := q s0 H C cl fp
      refine pg_mono (pg_tup (X := X.blk s0 H s (compEnvC s cl C X.env) fp) c.calm g1 g2 g3) fun v σ H Q w => ?_
      obtain ⟨P, F, env, L, d, C, hf, st, r, w, k⟩ := w
      cases r with
      | tup q rp =>
        obtain ⟨hl, w⟩ := (show _ ∧ _ from w)
        exact ⟨_, _, rfl, st.sub.sqT q, by rw [← rp.length]; exact hl, P, F, env, L, _, C, σ, is, hf, st, rp, hl, w, ⟨rfl, fun _ _ => rfl, fun _ z => z⟩, k⟩
      | _ => exact w.elim
    | _ => simp only [gB] at h; cases h

mutual
theorem sE : ∀ (e : E) {X : Cx} {N : List Str} {sc : Scope} {k : Nat}, Cok X N sc k → ∀ (x : Expr), cE N sc e x = true → okE (gmOf X k) e → PE X x (LE X.K e)
  | .v i, X, N, sc, k, c, x, h, o => by
    obtain ⟨y, p, rfl, h⟩ := inv_v i h
    exact s_v c h
  | .mv i, X, N, sc, k, c, x, h, o => by
    obtain ⟨y, p, rfl, h⟩ := inv_mv i h
    exact s_mv c h
  | .fz e, X, N, sc, k, c, x, h, o => s_fz (sE e c x (by simpa only [cE] using h) (by simpa only [okE] using o))
  | .fzw e, X, N, sc, k, c, x, h, o => pe_mono (sE e c x (by simpa only [cE] using h) (by simpa only [okE] using o)) fun σ H Q w => le_fzw w
  | .unw e, X, N, sc, k, c, x, h, o => pe_mono (sE e c x (by simpa only [cE] using h) (by simpa only [okE] using o)) fun σ H Q w => le_unw w
  | .non, X, N, sc, k, c, x, h, o => by
    obtain ⟨j, p, rfl⟩ := inv_non h
    exact s_const pe_non (fun _ _ => by simp only [wE]) fun _ => .non
  | .bl b, X, N, sc, k, c, x, h, o => by
    obtain ⟨j, p, rfl⟩ := inv_bl b h
    exact s_const pe_bl (fun _ _ => by simp only [wE]) fun _ => .bl b
  | .int z, X, N, sc, k, c, x, h, o => by
    obtain ⟨j, p, rfl⟩ := inv_int z h
    exact s_const pe_int (fun _ _ => by simp only [wE]) fun _ => .int z
  | .str s, X, N, sc, k, c, x, h, o => by
    obtain ⟨j, p, rfl⟩ := inv_str s h
    exact s_const pe_str (fun _ _ => by simp only [wE]) fun _ => .str s
  | .gl y d, X, N, sc, k, c, x, h, o => by
    obtain ⟨p, rfl, h1⟩ := inv_gl y d h
    exact s_gl c h1 (by simpa only [okE] using o)
  | .op op a b, X, N, sc, k, c, x, h, o => by
    obtain ⟨l, r, p, rfl, h1, h2⟩ := inv_op op a b h
    simp only [okE] at o
    exact s_op (E0 := .op op a b) (a := a) (b := b) (sem := opS op) (fun env C => by simp only [wE]) (by simp only [E.qt]) (pe_op (op_sound op) (sE a c l h1 o.1) (sE b c r h2 o.2))
  | .cmp op a b, X, N, sc, k, c, x, h, o => by
    obtain ⟨l, r, p, rfl, h1, h2⟩ := inv_cmp op a b h
    simp only [okE] at o
    exact s_op (E0 := .cmp op a b) (a := a) (b := b) (sem := fun d e C => cmpS op d e fun z => C (.va (.bl z))) (fun env C => by simp only [wE]) (by simp only [E.qt]) (pe_cmpR (cmp_sound op c.un) (sE a c l h1 o.1) (sE b c r h2 o.2) (nomarks (shp b r h2) op))
  | .neg a, X, N, sc, k, c, x, h, o => by
    obtain ⟨l, p, rfl, h⟩ := inv_neg a h
    exact s_neg (sE a c l h (by simpa only [okE] using o))
  | .nt a, X, N, sc, k, c, x, h, o => by
    obtain ⟨l, p, rfl, h⟩ := inv_nt a h
    exact s_nt (sE a c l h (by simpa only [okE] using o))
  | .an a b, X, N, sc, k, c, x, h, o => by
    obtain ⟨l, n, r, p, rfl, h1, h2⟩ := inv_an a b h
    simp only [okE] at o
    rcases h2 with ⟨rfl, h2⟩ | ⟨_, h2⟩
    · exact s_an (sE a c l h1 o.1) (pe_one (sE b c n h2 o.2))
    · exact s_an (sE a c l h1 o.1) (sE b c _ h2 o.2)
  | .orr a b, X, N, sc, k, c, x, h, o => by
    obtain ⟨l, n, r, p, rfl, h1, h2⟩ := inv_or a b h
    simp only [okE] at o
    rcases h2 with ⟨rfl, h2⟩ | ⟨_, h2⟩
    · exact s_or (sE a c l h1 o.1) (pe_one (sE b c n h2 o.2))
    · exact s_or (sE a c l h1 o.1) (sE b c _ h2 o.2)
  | .ite t a b, X, N, sc, k, c, x, h, o => by
    obtain ⟨z, l, r, p, rfl, h0, h1, h2⟩ := inv_ite t a b h
    simp only [okE] at o
    exact s_ite (sT t c z h0 o.1) (sE a c l h1 o.2.1) (sE b c r h2 o.2.2)
  | .ix a b, X, N, sc, k, c, x, h, o => by
    obtain ⟨l, r, p, rfl, h1, h2⟩ := inv_ix a b h
    simp only [okE] at o
    exact s_ix (sE a c l h1 o.1) (sE b c r h2 o.2) (shp b r h2)
  | .sl a lo hi, X, N, sc, k, c, x, h, o => by
    obtain ⟨l, u, w, p, q, rfl, h1, h2, h3⟩ := inv_sl a lo hi h
    simp only [okE] at o
    exact s_sl (sE a c l h1 o.1) (sO lo c u h2 o.2.1) (sO hi c w h3 o.2.2)
  | .tup es, X, N, sc, k, c, x, h, o => by
    obtain ⟨xs, kk, p, rfl, h⟩ := inv_tup es h
    exact s_tup (sEs es c xs h (by simpa only [okE] using o))
  | .lst es, X, N, sc, k, c, x, h, o => by
    obtain ⟨xs, p, rfl, h⟩ := inv_lst es h
    exact s_lst (sEs es c xs h (by simpa only [okE] using o))
  | .call f sp m es, X, N, sc, k, c, x, h, o => by
    obtain ⟨p, xs, q, rfl, h1, h2⟩ := inv_call f sp m es h
    simp only [okE] at o
    exact s_call c h1 o.1 h2 (sEs es c xs h2 o.2)
  | .cb b .nil, X, N, sc, k, c, x, h, o => by
    obtain ⟨p, y, ys, q, rfl, h1, h2⟩ := inv_cb b .nil h
    simp only [cEs] at h2; cases h2
  | .cb b (.cons a .nil), X, N, sc, k, c, x, h, o => by
    obtain ⟨p, y, ys, q, rfl, h1, h2⟩ := inv_cb b (.cons a .nil) h
    simp only [okE, okEs] at o
    have hx := shps _ _ h2
    have h3 : cE N sc a y = true ∧ ys = [] := by
      simp only [cEs, Bool.and_eq_true] at h2
      refine ⟨h2.1, ?_⟩
      cases ys with
      | nil => rfl
      | cons z zs => have := h2.2; simp only [cEs] at this; cases this
    obtain ⟨h3, rfl⟩ := h3
    exact s_cb c h1 o.1 hx (pa_cons (sE a c y h3 o.2.1) pa_nil (star1 (shp a y h3) [] X.env)) cb_key1
  | .cb b (.cons a (.cons a2 es)), X, N, sc, k, c, x, h, o => by
    obtain ⟨p, y, ys, q, rfl, h1, h2⟩ := inv_cb b (.cons a (.cons a2 es)) h
    simp only [okE] at o
    refine s_cb c h1 o.1 (shps _ _ h2) (sEs (.cons a (.cons a2 es)) c _ h2 o.2) (cb_key2 fun env C w => ?_)
    simp only [wEs] at w ⊢
    exact w
  | .mt m o' es, X, N, sc, k, c, x, h, o => by
    obtain ⟨y, ap, xs, cp, rfl, h1, h2, h3, h4⟩ := inv_mt m o' es h
    simp only [okE] at o
    exact s_mt c h1 h2.1 h2.2 (shp o' y h3) h4 (sE o' c y h3 o.1) (sEs es c xs h4 o.2)
  | .isi a ty, X, N, sc, k, c, x, h, o => by
    obtain ⟨p1, y, p2, q, rfl, h1, h2, h3⟩ := inv_isi a ty h
    simp only [okE] at o
    exact s_isi c h1 o.1 h3 o.2.1 (shp a y h2) (sE a c y h2 o.2.2)
  | .lc g it t e, X, N, sc, k, c, x, h, o => by
    obtain ⟨elt, tg, iter, ifs, s, q, rfl, h0, h1, h2, h3, h6, h7⟩ := inv_lc g it t e h
    simp only [okE] at o
    obtain ⟨g1, g2, g3, g4⟩ := blk_gw c h3
    refine s_lc c ⟨sI it c _ iter h0 h1 o.1, by rw [c.sc, c.n]; exact blkOk_by h2, g1, g2, g4, fun s0 H C cl fp => ?_, fun s0 H C cl fp => sE e (blk_cok c s s0 H C cl fp) elt h7 o.2.2, g3, nofold (shpI h1) X.env⟩
    rcases h6 with ⟨rfl, rfl⟩ | ⟨z, rfl, h6⟩
    · exact ⟨fun pins s1 σ H1 Q I w => pts_nil.run pins s1 σ H1 Q I (by
        obtain ⟨P, F, env, L, C, st, w, k⟩ := w
        simp only [wT] at w
        exact k _ _ _ _ _ w st)⟩
    · exact pts_one (sT t (blk_cok c s s0 H C cl fp) z h6 o.2.1)
  | .chv op op' a b d, X, N, sc, k, c, x, h, o => by
    obtain ⟨l, r, w, p, rfl, h1, h2, h3⟩ := inv_chv op op' a b d h
    simp only [okE] at o
    exact s_chv c (sE a c l h1 o.1) (sE b c r h2 o.2.1) (sE d c w h3 o.2.2) (shp b r h2) (shp d w h3)
  | .rg l a b, X, N, sc, k, c, x, h, o => by
    obtain ⟨p1, y, z, p2, p3, q, rfl, h1, h2, h3, h4⟩ := inv_rg l a b h
    simp only [okE] at o
    exact s_rg c h1 o.1 h2 o.2.1 (shp a y h3) (shp b z h4) (sE a c y h3 o.2.2.1) (sE b c z h4 o.2.2.2)
  | .rv a, X, N, sc, k, c, x, h, o => by
    obtain ⟨l, k0, p1, p2, p3, q, rfl, h1⟩ := inv_rv a h
    exact s_rv (sE a c l h1 (by simpa only [okE] using o))
  | .pop i, X, N, sc, k, c, x, h, o => by
    obtain ⟨y, p, ap, cp, rfl, h1, h2⟩ := inv_pop i h
    exact s_pop c h1 h2
  | .popI i e, X, N, sc, k, c, x, h, o => by
    obtain ⟨y, p, ap, z, cp, rfl, h1, h2, h3⟩ := inv_popI i e h
    simp only [okE] at o
    exact s_popI c h1 h2 (shp e z h3) (sE e c z h3 o)
  | .frz q e, X, N, sc, k, c, x, h, o => by
    simp only [cE, Bool.and_eq_true] at h
    exact s_frzE (sE e c x h.2 (by simpa only [okE] using o))
  | .dnew, X, N, sc, k, c, x, h, o => by
    obtain ⟨p, rfl⟩ := inv_dnew h
    exact s_dnew
  | .dsp1 a b, X, N, sc, k, c, x, h, o => by
    obtain ⟨y, z, p, rfl, h1, h2⟩ := inv_dsp1 a b h
    simp only [okE] at o
    exact s_dsp1 (sE a c y h1 o.1) (sE b c z h2 o.2)
  | .dget a b d, X, N, sc, k, c, x, h, o => by
    obtain ⟨y, ap, z, w, cp, rfl, h1, h2, h3, h4, h5⟩ := inv_dget a b d h
    simp only [okE] at o
    exact s_dget c h1 h2 (shp a y h3) (shp b z h4) (shp d w h5) (sE a c y h3 o.1) (sE b c z h4 o.2.1) (sE d c w h5 o.2.2)
  | .flst es, X, N, sc, k, c, x, h, o => by
    obtain ⟨xs, p, rfl, h⟩ := inv_flst es h
    exact s_flst (sEs es c xs h (by simpa only [okE] using o))
theorem sO : ∀ (e : OE) {X : Cx} {N : List Str} {sc : Scope} {k : Nat}, Cok X N sc k → ∀ (x : Option Expr), cO N sc e x = true → okO (gmOf X k) e → PO X x (LO X.K e)
  | .no, X, N, sc, k, c, x, h, o => by
    cases x with
    | none => exact s_O (fun e y h => nomatch h) (fun _ => rfl) (fun e h => nomatch h)
    | some y => simp only [cO] at h; cases h
  | .so e, X, N, sc, k, c, x, h, o => by
    cases x with
    | none => simp only [cO] at h; cases h
    | some y =>
      refine s_O (fun e' y' h1 h2 => ?_) (fun h => nomatch h) (fun _ _ => ⟨y, rfl⟩)
      cases h1; cases h2
      exact sE e c y (by simpa only [cO] using h) (by simpa only [okO] using o)
theorem sEs : ∀ (es : Es) {X : Cx} {N : List Str} {sc : Scope} {k : Nat}, Cok X N sc k → ∀ (xs : List Expr), cEs N sc es xs = true → okEs (gmOf X k) es → PA X xs (LA X.K es)
  | .nil, X, N, sc, k, c, [], h, o => s_Es0
  | .nil, X, N, sc, k, c, _ :: _, h, o => by simp only [cEs] at h; cases h
  | .cons e es, X, N, sc, k, c, [], h, o => by simp only [cEs] at h; cases h
  | .cons e es, X, N, sc, k, c, x :: xs, h, o => by
    simp only [cEs, Bool.and_eq_true] at h
    simp only [okEs] at o
    exact s_Es1 (shp e x h.1) (sE e c x h.1 o.1) (sEs es c xs h.2 o.2)
theorem sT : ∀ (t : T) {X : Cx} {N : List Str} {sc : Scope} {k : Nat}, Cok X N sc k → ∀ (x : Expr), cT N sc t x = true → okT (gmOf X k) t → PT X x (LT X.K t)
  | .yes, X, N, sc, k, c, x, h, o => (inv_tyes h).elim
  | .tr e, X, N, sc, k, c, x, h, o => by
    simp only [cT, Bool.and_eq_true] at h
    exact t_tr h.1 (sE e c x h.2 (by simpa only [okT] using o))
  | .cmp op a b, X, N, sc, k, c, x, h, o => by
    obtain ⟨l, r, p, rfl, h1, h2⟩ := inv_tcmp op a b h
    simp only [okT] at o
    exact t_cmp c (sE a c l h1 o.1) (sE b c r h2 o.2) (shp b r h2)
  | .ch op op' a b d, X, N, sc, k, c, x, h, o => by
    obtain ⟨l, r, w, p, rfl, h1, h2, h3⟩ := inv_tch op op' a b d h
    simp only [okT] at o
    exact t_ch c (sE a c l h1 o.1) (sE b c r h2 o.2.1) (sE d c w h3 o.2.2) (shp b r h2) (shp d w h3)
  | .an a b, X, N, sc, k, c, x, h, o => by
    obtain ⟨l, n, r, p, rfl, h1, h2⟩ := inv_tan a b h
    simp only [okT] at o
    rcases h2 with ⟨rfl, h2⟩ | ⟨_, h2⟩
    · exact t_an (sT a c l h1 o.1) (pw_and1 (sT b c n h2 o.2))
    · exact t_an (sT a c l h1 o.1) (pt_pw (sT b c _ h2 o.2))
  | .orr a b, X, N, sc, k, c, x, h, o => by
    obtain ⟨l, n, r, p, rfl, h1, h2⟩ := inv_tor a b h
    simp only [okT] at o
    rcases h2 with ⟨rfl, h2⟩ | ⟨_, h2⟩
    · exact t_or (sT a c l h1 o.1) (pw_or1 (sT b c n h2 o.2))
    · exact t_or (sT a c l h1 o.1) (pt_pw (sT b c _ h2 o.2))
  | .nt a, X, N, sc, k, c, x, h, o => by
    obtain ⟨l, p, rfl, h⟩ := inv_tnt a h
    exact t_nt (sT a c l h (by simpa only [okT] using o))
theorem sI : ∀ (it : PW.It) {X : Cx} {N : List Str} {sc : Scope} {k : Nat}, Cok X N sc k → ∀ (tg x : Expr), tpOk it tg = true → cI N sc it x = true → okI (gmOf X k) it → PI X tg x (LI X.K it)
  | .sq e, X, N, sc, k, c, tg, x, ht, h, o => by
    simp only [cI, Bool.and_eq_true] at h
    exact i_sq (sE e c x h.2 (by simpa only [okI] using o))
  | .sl i, X, N, sc, k, c, tg, x, ht, h, o => by
    obtain ⟨y, p, rfl, h⟩ := inv_isl i h
    exact i_sl c h
  | .r1 a, X, N, sc, k, c, tg, x, ht, h, o => by
    obtain ⟨p, y, q, rfl, h1, h2⟩ := inv_r1 a h
    simp only [okI] at o
    exact i_r1 c h1 o.1 (shp a y h2) (sE a c y h2 o.2)
  | .r2 a b, X, N, sc, k, c, tg, x, ht, h, o => by
    obtain ⟨p, y, z, q, rfl, h1, h2, h3⟩ := inv_r2 a b h
    simp only [okI] at o
    exact i_r2 c h1 o.1 (shp a y h2) (shp b z h3) (sE a c y h2 o.2.1) (sE b c z h3 o.2.2)
  | .zip es, X, N, sc, k, c, tg, x, ht, h, o => by
    obtain ⟨p, y, z, q, rfl, h1, h2⟩ := inv_zip es h
    obtain ⟨elts, kk, tp, rfl⟩ := tp_zip ht
    simp only [okI] at o
    have hx := shps _ _ h2
    simp only [List.all_cons, Bool.and_eq_true] at hx
    exact i_zip c h1 o.1 hx.1 hx.2.1 (sEs es c _ h2 o.2)
  | .en es, X, N, sc, k, c, tg, x, ht, h, o => by
    obtain ⟨p, y, q, rfl, h1, h2⟩ := inv_en es h
    obtain ⟨elts, kk, tp, rfl⟩ := tp_en ht
    simp only [okI] at o
    have hx := shps _ _ h2
    simp only [List.all_cons, Bool.and_eq_true] at hx
    exact i_en c h1 o.1 hx.1 (sEs es c _ h2 o.2)
  | .rr a, X, N, sc, k, c, tg, x, ht, h, o => by
    obtain ⟨p, g2, y, q2, q, rfl, h1, h2, h3⟩ := inv_rr a h
    simp only [okI] at o
    exact i_rr c h1 h2 o.1 o.2.1 (shp a y h3) (sE a c y h3 o.2.2)
  | .rl a, X, N, sc, k, c, tg, x, ht, h, o => by
    obtain ⟨p, y, q, rfl, h1, h2⟩ := inv_rl a h
    simp only [okI] at o
    exact i_rl c h1 o.1 (shp a y h2) (sE a c y h2 o.2)
  | .r3 a b e, X, N, sc, k, c, tg, x, ht, h, o => by
    obtain ⟨p, y, z, w, q, rfl, h1, h2, h3, h4⟩ := inv_r3 a b e h
    simp only [okI] at o
    exact i_r3 c h1 o.1 (shp a y h2) (shp b z h3) (shp e w h4) (sE a c y h2 o.2.1) (sE b c z h3 o.2.2.1) (sE e c w h4 o.2.2.2)
end
end PW

namespace PW
open PySem L2 PyProof.Rows
section
variable {N : List Str} {sc : Scope} {m : List Bool} {x : Stmt}
theorem inv_asg (g : G) (e : E) (h : cS N sc m (.asg g e) x = true) : ∃ t y p, x = .Assign [t] y p ∧ cG N sc m g t = true ∧ cE N sc e y = true ∧ (∀ is, g = .tp is → compLike y = false ∧ ∀ a b c, y ≠ .Tuple a b c) := by
  cases x with
  | Assign ts y p =>
    rcases ts with _ | ⟨t, _ | ⟨t2, ts⟩⟩
    · simp only [cS] at h; cases h
    · simp only [cS, Bool.and_eq_true] at h
      obtain ⟨⟨h1, h2⟩, h3⟩ := h
      refine ⟨t, y, p, rfl, h1, h2, fun is hg => ?_⟩
      subst hg
      have hs := shp e y h2
      cases y <;> first | (exact absurd h3 Bool.false_ne_true) | (exact absurd hs Bool.false_ne_true) | exact ⟨rfl, fun _ _ _ z => nomatch z⟩
    · simp only [cS] at h; cases h
  | _ => exfalso; revert h; simp only [cS]; decide
theorem inv_ex (e : E) (h : cS N sc m (.ex e) x = true) : ∃ y p, x = .Expr y p ∧ compLike y = false ∧ cE N sc e y = true := by
  cases x with
  | Expr y p =>
    simp only [cS, Bool.and_eq_true] at h
    exact ⟨y, p, rfl, by simpa using h.1, h.2⟩
  | _ => exfalso; revert h; simp only [cS]; decide
theorem inv_ret (e : E) (h : cS N sc m (.ret e) x = true) : ∃ y p, x = .Return (some y) p ∧ cE N sc e y = true := by
  cases x with
  | Return o p =>
    cases o with
    | none => simp only [cS] at h; cases h
    | some y => exact ⟨y, p, rfl, by simpa only [cS] using h⟩
  | _ => exfalso; revert h; simp only [cS]; decide
theorem inv_retN (h : cS N sc m .retN x = true) : ∃ p, x = .Return none p := by
  cases x with
  | Return o p =>
    cases o with
    | none => exact ⟨p, rfl⟩
    | some y => simp only [cS] at h; cases h
  | _ => exfalso; revert h; simp only [cS]; decide
theorem inv_ifs (t : T) (a b : Ss) (h : cS N sc m (.ifs t a b) x = true) : ∃ c u w p, x = .If c u w p ∧ cT N sc t c = true ∧ cSs N sc m a u = true ∧ cSs N sc m b w = true := by
  cases x with
  | If c u w p =>
    simp only [cS, Bool.and_eq_true] at h
    exact ⟨c, u, w, p, rfl, h.1.1, h.1.2, h.2⟩
  | _ => exfalso; revert h; simp only [cS]; decide
theorem inv_for (g : G) (it : PW.It) (b : Ss) (h : cS N sc m (.for g it b) x = true) : ∃ t y u p, x = .For t y u [] p ∧ cG N sc m g t = true ∧ (notSl it = true ∧ tpOk it t = true) ∧ cI N sc it y = true ∧ cSs N sc m b u = true := by
  cases x with
  | For t y u w p =>
    cases w with
    | nil =>
      simp only [cS, Bool.and_eq_true] at h
      exact ⟨t, y, u, p, rfl, h.1.1.1, h.1.1.2, h.1.2, h.2⟩
    | cons _ _ => simp only [cS] at h; cases h
  | _ => exfalso; revert h; simp only [cS]; decide
theorem inv_fors (g : G) (i : Nat) (b : Ss) (h : cS N sc m (.fors g i b) x = true) : ∃ t y q u p, x = .For t (.Name y q) u [] p ∧ cG N sc (setB m i) g t = true ∧ visB N sc i y = true ∧ cSs N sc (setB m i) b u = true := by
  cases x with
  | For t y u w p =>
    cases w with
    | nil =>
      cases y with
      | Name y q =>
        simp only [cS, Bool.and_eq_true] at h
        exact ⟨t, y, q, u, p, rfl, h.1.1.1, h.1.1.2, h.2⟩
      | _ => exfalso; revert h; simp only [cS]; decide
    | cons _ _ => cases y <;> (simp only [cS] at h; cases h)
  | _ => exfalso; revert h; simp only [cS]; decide
theorem inv_whl (t : T) (b : Ss) (h : cS N sc m (.whl t b) x = true) : ∃ c u p, x = .While c u [] p ∧ cT N sc t c = true ∧ cSs N sc m b u = true := by
  cases x with
  | While c u w p =>
    cases w with
    | nil =>
      simp only [cS, Bool.and_eq_true] at h
      exact ⟨c, u, p, rfl, h.1, h.2⟩
    | cons _ _ => simp only [cS] at h; cases h
  | _ => exfalso; revert h; simp only [cS]; decide
theorem inv_brk (h : cS N sc m .brk x = true) : ∃ p, x = .Break p := by
  cases x with
  | Break p => exact ⟨p, rfl⟩
  | _ => exfalso; revert h; simp only [cS]; decide
theorem inv_cont (h : cS N sc m .cont x = true) : ∃ p, x = .Continue p := by
  cases x with
  | Continue p => exact ⟨p, rfl⟩
  | _ => exfalso; revert h; simp only [cS]; decide
theorem inv_pass (h : cS N sc m .pass x = true) : (∃ p, x = .Pass p) ∨ ∃ s j q p, x = .Expr (.Constant (.str s) j q) p := by
  cases x with
  | Pass p => exact .inl ⟨p, rfl⟩
  | Expr y p =>
    cases y with
    | Constant c j q =>
      cases c with
      | str s => exact .inr ⟨s, j, q, p, rfl⟩
      | _ => exfalso; revert h; simp only [cS]; decide
    | _ => exfalso; revert h; simp only [cS]; decide
  | _ => exfalso; revert h; simp only [cS]; decide
theorem inv_app (i : Nat) (e : E) (h : cS N sc m (.app i e) x = true) : ∃ y p ap z cp q, x = .Expr (.Call (.Attribute (.Name y p) "append" ap) [z] [] cp) q ∧ visB N sc i y = true ∧ (ap.endLine == cp.line) = true ∧ cE N sc e z = true := by
  cases x with
  | Expr w q =>
    cases w with
    | Call f as ks cp =>
      cases f with
      | Attribute o a ap =>
        cases o with
        | Name y p =>
          rcases as with _ | ⟨z, _ | ⟨z2, as⟩⟩ <;> cases ks
          all_goals first
            | (simp only [cS, Bool.and_eq_true, decide_eq_true_eq] at h
               obtain ⟨⟨⟨h1, rfl⟩, h2⟩, h3⟩ := h
               exact ⟨y, p, ap, z, cp, q, rfl, h1, h2, h3⟩)
            | (simp only [cS] at h; cases h)
        | _ => exfalso; revert h; simp only [cS]; decide
      | _ => exfalso; revert h; simp only [cS]; decide
    | _ => exfalso; revert h; simp only [cS]; decide
  | _ => exfalso; revert h; simp only [cS]; decide
theorem inv_set (i : Nat) (k e : E) (h : cS N sc m (.set i k e) x = true) : ∃ y p z q w r, x = .Assign [.Subscript (.Name y p) z q] w r ∧ visB N sc i y = true ∧ cE N sc k z = true ∧ cE N sc e w = true ∧ compLike w = false := by
  cases x with
  | Assign ts w r =>
    rcases ts with _ | ⟨t, _ | ⟨t2, ts⟩⟩
    · simp only [cS] at h; cases h
    · cases t with
      | Subscript o z q =>
        cases o with
        | Name y p =>
          simp only [cS, Bool.and_eq_true] at h
          exact ⟨y, p, z, q, w, r, rfl, h.1.1.1, h.1.1.2, h.1.2, by simpa using h.2⟩
        | _ => exfalso; revert h; simp only [cS]; decide
      | _ => exfalso; revert h; simp only [cS]; decide
    · cases t with
      | Subscript o z q => cases o <;> (simp only [cS] at h; cases h)
      | _ => exfalso; revert h; simp only [cS]; decide
  | _ => exfalso; revert h; simp only [cS]; decide
theorem inv_dput (i : Nat) (k e : E) (h : cS N sc m (.dput i k e) x = true) : ∃ y p z q w r, x = .Assign [.Subscript (.Name y p) z q] w r ∧ visB N sc i y = true ∧ cE N sc k z = true ∧ cE N sc e w = true ∧ compLike w = false := by
  cases x with
  | Assign ts w r =>
    rcases ts with _ | ⟨t, _ | ⟨t2, ts⟩⟩
    · simp only [cS] at h; cases h
    · cases t with
      | Subscript o z q =>
        cases o with
        | Name y p =>
          simp only [cS, Bool.and_eq_true] at h
          exact ⟨y, p, z, q, w, r, rfl, h.1.1.1, h.1.1.2, h.1.2, by simpa using h.2⟩
        | _ => exfalso; revert h; simp only [cS]; decide
      | _ => exfalso; revert h; simp only [cS]; decide
    · cases t with
      | Subscript o z q => cases o <;> (simp only [cS] at h; cases h)
      | _ => exfalso; revert h; simp only [cS]; decide
  | _ => exfalso; revert h; simp only [cS]; decide
theorem inv_setP (i : Nat) (a k e : E) (h : cS N sc m (.setP i a k e) x = true) : ∃ y p b p2 z q w r, x = .Assign [.Subscript (.Subscript (.Name y p) b p2) z q] w r ∧ visB N sc i y = true ∧ cE N sc a b = true ∧ cE N sc k z = true ∧ cE N sc e w = true ∧ compLike w = false := by
  cases x with
  | Assign ts w r =>
    rcases ts with _ | ⟨t, _ | ⟨t2, ts⟩⟩
    · simp only [cS] at h; cases h
    · cases t with
      | Subscript o z q =>
        cases o with
        | Subscript o b p2 =>
          cases o with
          | Name y p =>
            simp only [cS, Bool.and_eq_true] at h
            exact ⟨y, p, b, p2, z, q, w, r, rfl, h.1.1.1.1, h.1.1.1.2, h.1.1.2, h.1.2, by simpa using h.2⟩
          | _ => exfalso; revert h; simp only [cS]; decide
        | _ => exfalso; revert h; simp only [cS]; decide
      | _ => exfalso; revert h; simp only [cS]; decide
    · cases t with
      | Subscript o z q =>
        cases o with
        | Subscript o b p2 => cases o <;> (simp only [cS] at h; cases h)
        | _ => exfalso; revert h; simp only [cS]; decide
      | _ => exfalso; revert h; simp only [cS]; decide
  | _ => exfalso; revert h; simp only [cS]; decide
end
theorem inv_gnm {N : List Str} {sc : Scope} {m : List Bool} {i : Nat} {t : Expr} (h : cG N sc m (.nm i) t = true) : ∃ y p, t = .Name y p ∧ locB N sc i y = true ∧ fxB m i = false := by
  cases t with
  | Name y p =>
    simp only [cG, Bool.and_eq_true] at h
    exact ⟨y, p, rfl, h.1, by simpa using h.2⟩
  | _ => exfalso; revert h; simp only [cG]; decide
theorem inv_gtp {N : List Str} {sc : Scope} {m : List Bool} {is : List Nat} {t : Expr} (h : cG N sc m (.tp is) t = true) : ∃ xs k p, t = .Tuple xs k p := by
  cases t with
  | Tuple xs k p => exact ⟨xs, k, p, rfl⟩
  | _ => exfalso; revert h; simp only [cG]; decide
theorem le_fz {K : Fg} {e : E} {σ : LSt} {H : Hp} {Q : VK} (w : LE K (.fz e) σ H Q) : LE K e σ H Q := by
  obtain ⟨P, F, env, L, C, st, w, k⟩ := w
  simp only [wE] at w
  refine ⟨P, F, env, L, _, st, w, fun r env' v F' H' L' fp c po _ => ?_⟩
  cases r with
  | va d => exact k _ _ _ _ _ _ _ c po fun e => nomatch e
  | ow d =>
    have o : Own K F' H' d v fp := po.rr
    have e : Ext F' (frzd F' H' fp) := frzd_ext fun a z => (po.dis a z).1
    exact k _ _ _ _ _ _ [] c (po_va (po.st.frz po.nd po.dis) (o.freeze e fun a z => frzd_in z)) fun e => nomatch e
  | rf i => exact c.elim
  | al d => exact c.elim
theorem comp_lc {N : List Str} {sc : Scope} {g : Gm} : ∀ (e : E) (y : Expr), cE N sc e y = true → compLike y = true → okE g e → ∃ i it t d, cE N sc (.lc i it t d) y = true ∧ okE g (.lc i it t d) ∧ ∀ K σ H Q, LE K e σ H Q → LE K (.lc i it t d) σ H Q
  | .lc i it t d, y, h, hc, o => ⟨i, it, t, d, h, o, fun _ _ _ _ w => w⟩
  | .fz e, y, h, hc, o =>
    let ⟨i, it, t, d, h1, h2, h3⟩ := comp_lc e y (by simpa only [cE] using h) hc (by simpa only [okE] using o)
    ⟨i, it, t, d, h1, h2, fun K σ H Q w => h3 K σ H Q (le_fz w)⟩
  | .fzw e, y, h, hc, o =>
    let ⟨i, it, t, d, h1, h2, h3⟩ := comp_lc e y (by simpa only [cE] using h) hc (by simpa only [okE] using o)
    ⟨i, it, t, d, h1, h2, fun K σ H Q w => h3 K σ H Q (le_fzw w)⟩
  | .unw e, y, h, hc, o =>
    let ⟨i, it, t, d, h1, h2, h3⟩ := comp_lc e y (by simpa only [cE] using h) hc (by simpa only [okE] using o)
    ⟨i, it, t, d, h1, h2, fun K σ H Q w => h3 K σ H Q (le_unw w)⟩
  | .frz _ e, y, h, hc, o => by
    simp only [cE, Bool.and_eq_true] at h
    rw [hc] at h
    exact absurd h.1 Bool.false_ne_true
  | .flst _, y, h, hc, o => by cases y <;> first | (exact absurd hc Bool.false_ne_true) | (exfalso; revert h; simp only [cE]; decide)
  | .dsp1 _ _, y, h, hc, o => by cases y <;> first | (exact absurd hc Bool.false_ne_true) | (exfalso; revert h; simp only [cE]; decide)
  | .dget _ _ _, y, h, hc, o => by cases y <;> first | (exact absurd hc Bool.false_ne_true) | (exfalso; revert h; simp only [cE]; decide)
  | .dnew, y, h, hc, o => by cases y <;> first | (exact absurd hc Bool.false_ne_true) | (exfalso; revert h; simp only [cE]; decide)
  | .v i, y, h, hc, o => by cases y <;> first | (exact absurd hc Bool.false_ne_true) | (exfalso; revert h; simp only [cE]; decide)
  | .mv i, y, h, hc, o => by cases y <;> first | (exact absurd hc Bool.false_ne_true) | (exfalso; revert h; simp only [cE]; decide)
  | .non, y, h, hc, o => by cases y <;> first | (exact absurd hc Bool.false_ne_true) | (exfalso; revert h; simp only [cE]; decide)
  | .bl b, y, h, hc, o => by cases y <;> first | (exact absurd hc Bool.false_ne_true) | (exfalso; revert h; simp only [cE]; decide)
  | .int b, y, h, hc, o => by cases y <;> first | (exact absurd hc Bool.false_ne_true) | (exfalso; revert h; simp only [cE]; decide)
  | .str b, y, h, hc, o => by cases y <;> first | (exact absurd hc Bool.false_ne_true) | (exfalso; revert h; simp only [cE]; decide)
  | .gl z d, y, h, hc, o => by cases y <;> first | (exact absurd hc Bool.false_ne_true) | (exfalso; revert h; simp only [cE]; decide)
  | .op o' a b, y, h, hc, o => by cases y <;> first | (exact absurd hc Bool.false_ne_true) | (exfalso; revert h; simp only [cE]; decide)
  | .cmp o' a b, y, h, hc, o => by cases y <;> first | (exact absurd hc Bool.false_ne_true) | (exfalso; revert h; simp only [cE]; decide)
  | .neg a, y, h, hc, o => by cases y <;> first | (exact absurd hc Bool.false_ne_true) | (exfalso; revert h; simp only [cE]; decide)
  | .nt a, y, h, hc, o => by cases y <;> first | (exact absurd hc Bool.false_ne_true) | (exfalso; revert h; simp only [cE]; decide)
  | .an a b, y, h, hc, o => by cases y <;> first | (exact absurd hc Bool.false_ne_true) | (exfalso; revert h; simp only [cE]; decide)
  | .orr a b, y, h, hc, o => by cases y <;> first | (exact absurd hc Bool.false_ne_true) | (exfalso; revert h; simp only [cE]; decide)
  | .ite t a b, y, h, hc, o => by cases y <;> first | (exact absurd hc Bool.false_ne_true) | (exfalso; revert h; simp only [cE]; decide)
  | .ix a b, y, h, hc, o => by cases y <;> first | (exact absurd hc Bool.false_ne_true) | (exfalso; revert h; simp only [cE]; decide)
  | .sl a lo hi, y, h, hc, o => by cases y <;> first | (exact absurd hc Bool.false_ne_true) | (exfalso; revert h; simp only [cE]; decide)
  | .tup es, y, h, hc, o => by cases y <;> first | (exact absurd hc Bool.false_ne_true) | (exfalso; revert h; simp only [cE]; decide)
  | .lst es, y, h, hc, o => by cases y <;> first | (exact absurd hc Bool.false_ne_true) | (exfalso; revert h; simp only [cE]; decide)
  | .call f sp m es, y, h, hc, o => by cases y <;> first | (exact absurd hc Bool.false_ne_true) | (exfalso; revert h; simp only [cE]; decide)
  | .mt m o' es, y, h, hc, o => by cases y <;> first | (exact absurd hc Bool.false_ne_true) | (exfalso; revert h; simp only [cE]; decide)
  | .cb b es, y, h, hc, o => by cases y <;> first | (exact absurd hc Bool.false_ne_true) | (exfalso; revert h; simp only [cE]; decide)
  | .chv _ _ _ _ _, y, h, hc, o => by cases y <;> first | (exact absurd hc Bool.false_ne_true) | (exfalso; revert h; simp only [cE]; decide)
  | .popI _ _, y, h, hc, o => by cases y <;> first | (exact absurd hc Bool.false_ne_true) | (exfalso; revert h; simp only [cE]; decide)
  | .pop _, y, h, hc, o => by cases y <;> first | (exact absurd hc Bool.false_ne_true) | (exfalso; revert h; simp only [cE]; decide)
  | .rv _, y, h, hc, o => by cases y <;> first | (exact absurd hc Bool.false_ne_true) | (exfalso; revert h; simp only [cE]; decide)
  | .rg _ _ _, y, h, hc, o => by cases y <;> first | (exact absurd hc Bool.false_ne_true) | (exfalso; revert h; simp only [cE]; decide)
  | .isi a ty, y, h, hc, o => by cases y <;> first | (exact absurd hc Bool.false_ne_true) | (exfalso; revert h; simp only [cE]; decide)
theorem lc_parts {X : Cx} {N : List Str} {sc : Scope} {k : Nat} (c : Cok X N sc k) {g : G} {it : PW.It} {t : T} {e : E} {x : Expr} (h : cE N sc (.lc g it t e) x = true) (o : okE (gmOf X k) (.lc g it t e)) :
    ∃ elt tg iter ifs s q, x = .ListComp elt [⟨tg, iter, ifs, 0⟩] s q ∧ LcOk X N sc g (ownP g tg) tg it t e elt iter ifs s := by
  obtain ⟨elt, tg, iter, ifs, s, q, rfl, h0, h1, h2, h3, h6, h7⟩ := inv_lc g it t e h
  simp only [okE] at o
  obtain ⟨g1, g2, g3, g4⟩ := blk_gw c h3
  refine ⟨elt, tg, iter, ifs, s, q, rfl, sI it c _ iter h0 h1 o.1, by rw [c.sc, c.n]; exact blkOk_by h2, g1, g2, g4, fun s0 H C cl fp => ?_, fun s0 H C cl fp => sE e (blk_cok c s s0 H C cl fp) elt h7 o.2.2, g3, nofold (shpI h1) X.env⟩
  rcases h6 with ⟨rfl, rfl⟩ | ⟨z, rfl, h6⟩
  · exact ⟨fun pins s1 σ H1 Q I w => pts_nil.run pins s1 σ H1 Q I (by
      obtain ⟨P, F, env, L, C, st, w, k⟩ := w
      simp only [wT] at w
      exact k _ _ _ _ _ w st)⟩
  · exact pts_one (sT t (blk_cok c s s0 H C cl fp) z h6 o.2.1)
end PW

namespace PW
open PySem L2 PyProof.Rows
mutual
theorem sS {X : Cx} {N : List Str} {sc : Scope} {k : Nat} (c : CokS X N sc k) : ∀ (s : PW.S) (m : List Bool) (x : Stmt), cS N sc m s x = true → okS (gmOf X k) s → PS X x (LS X.K m s)
  | .asg g e, m, x, h, o => by
    obtain ⟨t, y, p, rfl, h1, h2, h3⟩ := inv_asg g e h
    simp only [okS] at o
    cases g with
    | nm i =>
      obtain ⟨z, q, rfl, h4, h5⟩ := inv_gnm h1
      cases hc : compLike y with
      | false => exact st_asg c h4 h5 hc (sE e c.toCok y h2 o)
      | true =>
        obtain ⟨i, it, t, d, g1, g2, g3⟩ := comp_lc e y h2 hc o
        obtain ⟨elt, tg, iter, ifs, s, q2, rfl, hl⟩ := lc_parts c.toCok g1 g2
        exact st_asgLc c h4 h5 hl fun σ H Q => g3 _ σ H Q
    | tp is =>
      obtain ⟨h4, h5⟩ := h3 is rfl
      obtain ⟨xs, kk, q, rfl⟩ := inv_gtp h1
      exact st_asgTp c h1 h4 h5 (sE e c.toCok y h2 o)
  | .ex e, m, x, h, o => by
    obtain ⟨y, p, rfl, h1, h2⟩ := inv_ex e h
    exact st_ex h1 (sE e c.toCok y h2 (by simpa only [okS] using o))
  | .ret e, m, x, h, o => by
    obtain ⟨y, p, rfl, h2⟩ := inv_ret e h
    exact st_ret (sE e c.toCok y h2 (by simpa only [okS] using o))
  | .retN, m, x, h, o => by
    obtain ⟨p, rfl⟩ := inv_retN h
    exact st_retN
  | .ifs t a b, m, x, h, o => by
    obtain ⟨z, u, w, p, rfl, h1, h2, h3⟩ := inv_ifs t a b h
    simp only [okS] at o
    exact st_ifs (sT t c.toCok z h1 o.1) (sSs c a m u h2 o.2.1) (sSs c b m w h3 o.2.2)
  | .for g it b, m, x, h, o => by
    obtain ⟨t, y, u, p, rfl, h1, h2, h3, h4⟩ := inv_for g it b h
    simp only [okS] at o
    refine st_for c (g_ok c h1) ?_ (sI it c.toCok t y h2.2 h3 o.1) (sSs c b m u h4 o.2) (nofold (shpI h3) X.env)
    cases it <;> first | rfl | cases h2.1
  | .fors g i b, m, x, h, o => by
    obtain ⟨t, y, q, u, p, rfl, h1, h2, h3⟩ := inv_fors g i b h
    simp only [okS] at o
    exact st_fors c h2 (g_ok c h1) (sSs c b (setB m i) u h3 o)
  | .whl t b, m, x, h, o => by
    obtain ⟨z, u, p, rfl, h1, h2⟩ := inv_whl t b h
    simp only [okS] at o
    exact st_whl c (sT t c.toCok z h1 o.1) (sSs c b m u h2 o.2)
  | .brk, m, x, h, o => by
    obtain ⟨p, rfl⟩ := inv_brk h
    exact st_brk
  | .cont, m, x, h, o => by
    obtain ⟨p, rfl⟩ := inv_cont h
    exact st_cont
  | .pass, m, x, h, o => by
    rcases inv_pass h with ⟨p, rfl⟩ | ⟨s, j, q, p, rfl⟩
    · exact st_pass
    · exact st_doc
  | .app i e, m, x, h, o => by
    obtain ⟨y, p, ap, z, cp, q, rfl, h1, h2, h3⟩ := inv_app i e h
    exact st_app c h1 h2 (shp e z h3) (sE e c.toCok z h3 (by simpa only [okS] using o))
  | .set i ke e, m, x, h, o => by
    obtain ⟨y, p, z, q, w, r, rfl, h1, h2, h3, h4⟩ := inv_set i ke e h
    simp only [okS] at o
    exact st_set c h1 h4 (shp ke z h2) (sE ke c.toCok z h2 o.1) (sE e c.toCok w h3 o.2)
  | .dput i ke e, m, x, h, o => by
    obtain ⟨y, p, z, q, w, r, rfl, h1, h2, h3, h4⟩ := inv_dput i ke e h
    simp only [okS] at o
    exact st_dput c h1 h4 (shp ke z h2) (sE ke c.toCok z h2 o.1) (sE e c.toCok w h3 o.2)
  | .setP i ae ke e, m, x, h, o => by
    obtain ⟨y, p, b, p2, z, q, w, r, rfl, h1, h5, h2, h3, h4⟩ := inv_setP i ae ke e h
    simp only [okS] at o
    exact st_setP c h1 h4 (shp ae b h5) (shp ke z h2) (sE ae c.toCok b h5 o.1) (sE ke c.toCok z h2 o.2.1) (sE e c.toCok w h3 o.2.2)
  | .rev i, m, x, h, o => by
    obtain ⟨y, p, ap, cp, q, rfl, h1, h2⟩ := inv_rev i h
    exact st_rev c h1 h2
  | .frz q s, m, x, h, o => st_frz (sS c s (orB m q) x (by simpa only [cS] using h) (by simpa only [okS] using o))
  | .appP i ae e, m, x, h, o => by
    obtain ⟨y, p, b, p2, ap, z, cp, q, rfl, h1, h2, h3, h4⟩ := inv_appP i ae e h
    simp only [okS] at o
    exact st_appP c h1 h2 (shp ae b h3) (shp e z h4) (sE ae c.toCok b h3 o.1) (sE e c.toCok z h4 o.2)
  | .augS i ke e, m, x, h, o => by
    obtain ⟨y, p, z, q, w, r, rfl, h1, h2, h3⟩ := inv_augS i ke e h
    simp only [okS] at o
    exact st_augS c h1 (shp ke z h2) (sE ke c.toCok z h2 o.1) (sE e c.toCok w h3 o.2)
  | .appPP q i ae be e, m, x, h, o => by
    obtain ⟨y, p, b1, p1, b2, p2, ap, z, cp, r, rfl, h1, h2, h3, h4, h5⟩ := inv_appPP q i ae be e h
    simp only [okS] at o
    exact st_appPP c h1 h2 (shp ae b1 h3) (shp be b2 h4) (shp e z h5) (sE ae c.toCok b1 h3 o.1) (sE be c.toCok b2 h4 o.2.1) (sE e c.toCok z h5 o.2.2)
  | .clrP i ae be, m, x, h, o => by
    obtain ⟨y, p, b1, p1, b2, p2, ap, cp, r, rfl, h1, h2, h3, h4⟩ := inv_clrP i ae be h
    simp only [okS] at o
    exact st_clrP c h1 h2 (shp ae b1 h3) (shp be b2 h4) (sE ae c.toCok b1 h3 o.1) (sE be c.toCok b2 h4 o.2)
  | .ext i e, m, x, h, o => by
    obtain ⟨y, p, ap, z, cp, q, rfl, h1, h2, h3⟩ := inv_ext i e h
    simp only [okS] at o
    exact st_ext c h1 h2 (shp e z h3) (sE e c.toCok z h3 o)
  | .augN i e, m, x, h, o => by
    obtain ⟨y, p, z, q, rfl, h1, h2, h3⟩ := inv_augN i e h
    simp only [okS] at o
    exact st_augN c h1 h2 (sE e c.toCok z h3 o)
  | .unl is e, m, x, h, o => by
    obtain ⟨t, y, p, rfl, h1, h2, h3, h4⟩ := inv_unl is e h
    obtain ⟨xs, kk, q, rfl⟩ := inv_gtp h1
    simp only [okS] at o
    exact st_unl c h1 h3 h4 (sE e c.toCok y h2 o)
  | .par i j a b, m, x, h, o => by
    obtain ⟨y, py, z, pz, k1, p1, e, f, k2, p2, q, rfl, h1, h2, h3, h4, h5, h6, h7, h8⟩ := inv_par i j a b h
    simp only [okS] at o
    exact st_par c h1 h2 h3 h4 h5 h6 (shp a e h7) (shp b f h8) (sE a c.toCok e h7 o.1) (sE b c.toCok f h8 o.2)
  | .ins i a e, m, x, h, o => by
    obtain ⟨y, p, ap, z, w, cp, q, rfl, h1, h2, h3, h4⟩ := inv_ins i a e h
    simp only [okS] at o
    exact st_ins c h1 h2 (shp a z h3) (shp e w h4) (sE a c.toCok z h3 o.1) (sE e c.toCok w h4 o.2)
  | .frzP q s, m, x, h, o => st_frzP (sS c s m x (by simpa only [cS] using h) (by simpa only [okS] using o))
  | .sdf i ke e, m, x, h, o => by
    obtain ⟨y, p, ap, z, w, cp, q, rfl, h1, h2, h3, h4⟩ := inv_sdf i ke e h
    simp only [okS] at o
    exact st_sdf c h1 h2 (shp ke z h3) (shp e w h4) (sE ke c.toCok z h3 o.1) (sE e c.toCok w h4 o.2)
  | .sdApp i ke e, m, x, h, o => by
    obtain ⟨y, p, ap, z, p2, cp, ap2, w, cp2, q, rfl, h1, h2, h2', h3, h4⟩ := inv_sdApp i ke e h
    simp only [okS] at o
    exact st_sdApp c h1 h2 h2' (shp ke z h3) (shp e w h4) (sE ke c.toCok z h3 o.1) (sE e c.toCok w h4 o.2)
  | .augSub i ke e, m, x, h, o => by
    obtain ⟨y, p, z, q, w, r, rfl, h1, h2, h3⟩ := inv_augSub i ke e h
    simp only [okS] at o
    exact st_augSub c h1 (shp ke z h2) (sE ke c.toCok z h2 o.1) (sE e c.toCok w h3 o.2)
  | .dinc i ke e, m, x, h, o => by
    obtain ⟨y, p, z, q, w, r, rfl, h1, h2, h3⟩ := inv_dinc i ke e h
    simp only [okS] at o
    exact st_dinc c h1 (shp ke z h2) (sE ke c.toCok z h2 o.1) (sE e c.toCok w h3 o.2)
  | .mset g i b, m, x, h, o => by
    obtain ⟨y, p1, x1, p2, z, p3, k1, p4, p5, k2, p6, p7, p8, rfl, h1, h2, h3, h4, h5⟩ := inv_mset g i b h
    exact st_mset c h1 h2 h3 h4 h5
theorem sSs {X : Cx} {N : List Str} {sc : Scope} {k : Nat} (c : CokS X N sc k) : ∀ (ss : Ss) (m : List Bool) (xs : List Stmt), cSs N sc m ss xs = true → okSs (gmOf X k) ss → PSs X xs (LSs X.K m ss)
  | .nil, m, [], h, o => ss_nil
  | .nil, m, _ :: _, h, o => by simp only [cSs] at h; cases h
  | .cons s ss, m, [], h, o => by simp only [cSs] at h; cases h
  | .cons s ss, m, x :: xs, h, o => by
    simp only [cSs, Bool.and_eq_true] at h
    simp only [okSs] at o
    exact ss_cons (sS c s m x h.1 o.1) (sSs c ss m xs h.2 o.2)
  | .bor i r ke ss, m, xs, h, o => by
    obtain ⟨y, py, x, px, ap, z, lp, cp, sp, xs, rfl, h1, h2, h3, h4, h5, h6, h7⟩ := inv_bor i r ke ss h
    simp only [okSs] at o
    exact ss_bor c h1 h2 h3 h4 h5 (shp ke z h6) (sE ke c.toCok z h6 o.1) (sSs c ss _ xs h7 o.2)
end
end PW

namespace PW
open PySem L2 PyProof.Rows

/-! ### a def's body and its promise -/
def envA : List Bool → List D → PW.Env
  | true :: m, d :: ds => .ow d :: envA m ds
  | false :: m, d :: ds => .sh d :: envA m ds
  | _, _ => []
def noK : Nat → PW.Env
  | 0 => []
  | n + 1 => .no :: noK n
def env0 (m : List Bool) (ds : List D) (n : Nat) : PW.Env := envA m ds ++ noK (n - m.length)
def endK : List Bool → PW.Env → (List D → Prop) → Prop
  | [], _, k => k []
  | true :: m, s :: env, k => match s with
    | .ow d => endK m env fun ds => k (d :: ds)
    | _ => False
  | false :: m, _ :: env, k => endK m env k
  | _, [], _ => False
def rtK (r : R) (p : Prop) : Prop :=
  match r with
  | .va _ => p
  | .ow _ => p
  | _ => False
def ends (sp : PSp) (m : List Bool) (g : sp.G) : KS where
  nx := fun env => endK m env fun outs => sp.post g (.va .non) outs
  rt := fun r env => rtK r (endK m env fun outs => sp.post g r outs)
  bk := fun _ => False
  ct := fun _ => False
/-- in the pure world: the code keeps the promise -/
def Cor (sp : PSp) (m : List Bool) (n : Nat) (ir : Ss) : Prop := ∀ (g : sp.G) (ds : List D), sp.pre g ds → ds.length = m.length → wSs ir (env0 m ds n) (ends sp m g)

theorem slots_no {K : Fg} {F H : Hp} : ∀ n, Slots K F H (noK n) (List.replicate n none) []
  | 0 => .nil
  | n + 1 => .no (slots_no n)
theorem slots_args {K : Fg} {F H : Hp} {m : List Bool} {ds : List D} {vs : List V} {L : List Addr} (h : Args K F H m ds vs L) (n : Nat) : Slots K F H (envA m ds ++ noK n) (vs.map some ++ List.replicate n none) L := by
  induction h with
  | nil => exact slots_no n
  | sh r _ ih => exact .sh r ih
  | ow r _ ih => exact .ow r ih
theorem outs_end {K : Fg} {F H : Hp} : ∀ {m : List Bool} {env : PW.Env} {σ : LSt} {vs : List V} {L : List Addr} {k : List D → Prop}, Slots K F H env σ L → vs.length = m.length → (∀ i, fxB m i = true → σ[i]? = (vs.map some)[i]?) → endK m env k →
    ∃ outs Lo, Outs K F H m vs outs Lo ∧ k outs ∧ Lo.Sublist L
  | [], env, σ, [], L, k, s, hl, hf, w => ⟨[], [], .nil, w, List.nil_sublist _⟩
  | [], _, _, _ :: _, _, _, _, hl, _, _ => by simp at hl
  | _ :: _, _, _, [], _, _, _, hl, _, _ => by simp at hl
  | true :: m, env, σ, v :: vs, L, k, s, hl, hf, w => by
    cases s with
    | nil => simp only [endK] at w
    | no s => simp only [endK] at w
    | sh r s => simp only [endK] at w
    | ow r s =>
      simp only [endK] at w
      obtain ⟨outs, Lo, h1, h2, h3⟩ := outs_end s (by simpa using hl) (fun i hi => by simpa using hf (i + 1) (by simpa [fxB] using hi)) w
      have := hf 0 rfl
      simp at this
      subst this
      exact ⟨_, _, .ow r h1, h2, List.Sublist.append (List.Sublist.refl _) h3⟩
  | false :: m, env, σ, v :: vs, L, k, s, hl, hf, w => by
    cases s with
    | nil => simp only [endK] at w
    | no s =>
      simp only [endK] at w
      obtain ⟨outs, Lo, h1, h2, h3⟩ := outs_end s (by simpa using hl) (fun i hi => by simpa using hf (i + 1) (by simpa [fxB] using hi)) w
      exact ⟨_, _, .sh h1, h2, h3⟩
    | sh r s =>
      simp only [endK] at w
      obtain ⟨outs, Lo, h1, h2, h3⟩ := outs_end s (by simpa using hl) (fun i hi => by simpa using hf (i + 1) (by simpa [fxB] using hi)) w
      exact ⟨_, _, .sh h1, h2, h3⟩
    | ow r s =>
      simp only [endK] at w
      obtain ⟨outs, Lo, h1, h2, h3⟩ := outs_end s (by simpa using hl) (fun i hi => by simpa using hf (i + 1) (by simpa [fxB] using hi)) w
      exact ⟨_, _, .sh h1, h2, h3.trans (List.sublist_append_right _ _)⟩
/-- THE RULE: a def of the text, by its code in the pure world -/
theorem fn_ok {P : Program} {w : World} {K : Fg} {mg : Str → Option Value} {base : Heap} {x qual : Str} {st : Stmt} {f : Addr} {fd : FuncData} {N ps : List Str} {k : Nat} {sp : PSp} {m : List Bool} {ir : Ss}
    (F : Fun K x qual st f fd) (S : FnScope N ps (defScope st)) (hm : m.length = ps.length) (hc : cSs N (defScope st) m ir (defBody st) = true) (ok : okSs ⟨P, w, K, mg, base, k⟩ ir) (cor : Cor sp m N.length ir) :
    FnOk P w K mg base CX0 (k + 1) f fd ps (Lift K sp m) := by
  refine F.ok S (fun vs H Q E h => ?_) fun cdv A outer s H vs Q E hr h => ?_
  · obtain ⟨g, ds, F, L, ha, _⟩ := h
    rw [ha.len.1, hm]
  · obtain ⟨g, ds, FF, L, ha, nd, hn, hsub, hpre, hpost⟩ := h
    have c : CokS (cxOf CX0 P w K mg base N qual (defScope st) f cdv A outer s H E).nox N (defScope st) k := ⟨⟨rfl, S.nd, rfl, rfl, hr⟩, fun _ => rfl, PassesOwn.never, S.kind⟩
    refine ⟨_, sSs c ir m (defBody st) hc ok, ?_⟩
    have hl := ha.len
    let P0 : Par := ⟨fun a => H a ≠ none ∧ FF a = none ∧ a ∉ L, H, FF, fxB m, L2.start N vs⟩
    have s0 : Sta K P0 FF (env0 m ds N.length) (L2.start N vs) H L := by
      refine ⟨?_, nd, fun a z => ⟨hn a z, fun q => q.2.2 z⟩, hsub, Ext.refl _, fun a z => ⟨rfl, z.1, z.2.1⟩, fun _ _ => rfl⟩
      unfold env0 L2.start
      rw [hl.1]
      exact slots_args ha _
    refine ⟨P0, FF, _, L, ends sp m g, rfl, s0, cor g ds hpre hl.2, ?_⟩
    have hfx : ∀ {env : PW.Env} {σ : LSt} {F' H' : Hp} {L' : List Addr}, Sta K P0 F' env σ H' L' → ∀ i, fxB m i = true → σ[i]? = (vs.map some)[i]? := fun {env σ F' H' L'} s i hi => by
      rw [s.fx i hi]
      have hlt : i < (vs.map some).length := by
        rw [List.length_map, hl.1]
        unfold fxB at hi
        cases e : m[i]? with
        | none => rw [e] at hi; cases hi
        | some b => exact (List.getElem?_eq_some_iff.mp e).1
      show (vs.map some ++ List.replicate _ none)[i]? = _
      rw [List.getElem?_append_left hlt]
    have kept : ∀ {env : PW.Env} {σ : LSt} {F' H' : Hp} {L' : List Addr}, Sta K P0 F' env σ H' L' → ∀ a, H a ≠ none → FF a = none → a ∉ L → H' a = H a ∧ F' a = none := fun {env σ F' H' L'} s a h1 h2 h3 => ⟨(s.z a ⟨h1, h2, h3⟩).1, (s.z a ⟨h1, h2, h3⟩).2.2⟩
    refine ⟨fun env σ F' H' L' n s => ?_, fun _ _ _ _ _ n _ => n.elim, fun _ _ _ _ _ n _ => n.elim, fun r env σ v F' H' L' fp n po => ?_⟩
    · obtain ⟨outs, Lo, h1, h2, h3⟩ := outs_end s.sl hl.1 (hfx s) n
      refine hpost _ outs h2 .non F' H' Lo [] s.f0 s.sub (fun a z1 z2 z3 => ⟨(kept s a z1 z2 z3).1, (kept s a z1 z2 z3).2, fun z => ?_⟩) h1 ⟨.non, rfl⟩ (by simpa using h3.nodup s.nd) fun a z => ?_
      · exact (s.dis a (h3.subset (by simpa using z))).2 ⟨z1, z2, z3⟩
      · exact (s.dis a (h3.subset (by simpa using z))).1
    · have fin : ∀ (q : endK m env fun outs => sp.post g r outs), RR K F' H' [] r v fp → Q v H' := fun q rr => by
        obtain ⟨outs, Lo, h1, h2, h3⟩ := outs_end po.st.sl hl.1 (hfx po.st) q
        refine hpost _ outs h2 v F' H' Lo fp po.st.f0 po.st.sub (fun a z1 z2 z3 => ⟨(kept po.st a z1 z2 z3).1, (kept po.st a z1 z2 z3).2, fun z => ?_⟩) h1 rr ((List.Sublist.append h3 (List.Sublist.refl _)).nodup po.nd) fun a z => ?_
        · rcases List.mem_append.mp z with z | z
          · exact (po.st.dis a (h3.subset z)).2 ⟨z1, z2, z3⟩
          · exact (po.dis a z).2 ⟨z1, z2, z3⟩
        · rcases List.mem_append.mp z with z | z
          · exact (po.st.dis a (h3.subset z)).1
          · exact (po.dis a z).1
      cases r with
      | va d => exact fin n po.rr
      | ow d => exact fin n po.rr
      | rf i => exact n.elim
      | al d => exact n.elim
theorem FnS.mono {P : Program} {w : World} {K : Fg} {mg : Str → Option Value} {base : Heap} {j k : Nat} {f : Str} {sp : PSp} {m : List Bool} (h : FnS P w K mg base j f sp m) (hk : j ≤ k) : FnS P w K mg base k f sp m := by
  obtain ⟨a, fd, ps, h1, h2, h3, h4⟩ := h.ex
  exact ⟨⟨a, fd, ps, h1, h2, h3, h4.mono hk⟩⟩
end PW

namespace PW
open PySem L2

local macro_rules
  | `(tactic| array_get_dec) => `(tactic| (conv => whnf) <;> repeat (first | refine And.intro rfl ?_ | refine And.intro (by assumption) ?_ | refine ⟨_, rfl, ?_⟩ | refine And.intro (Nat.le_of_ble_eq_true rfl) ?_ | refine And.intro (by decide) ?_ | refine And.intro (.inr (by decide)) ?_ | refine And.intro (fun _ => trivial) ?_ | refine And.intro (fun (h : false = true) => Bool.noConfusion h) (fun _ => ?_) | refine And.intro (fun _ => ?_) (fun (h : true = false) => Bool.noConfusion h) | refine And.intro ⟨by decide, by decide, by decide⟩ ?_); (conv => whnf))
/-! ### loops by a promise -/
theorem for_list {g : G} {body : Env → KS → Prop} {K : KS} (ds : List D) (I : Nat → Env → Prop) (h0 : ∀ env, I ds.length env → K.nx env)
    (hs : ∀ k d env (f : Env → Prop), ds[k]? = some d → I k env → (∀ e, I (k + 1) e → f e) → tgt g d env fun env1 => body env1 (K.loop f)) : ∀ env, I 0 env → wFor g body K ds env := by
  suffices h : ∀ n k env, ds.length - k = n → k ≤ ds.length → I k env → wFor g body K (ds.drop k) env by
    intro env h0'
    simpa using h ds.length 0 env rfl (Nat.zero_le _) h0'
  intro n
  induction n with
  | zero =>
    intro k env hk hle hi
    have : k = ds.length := by omega
    subst this
    rw [List.drop_length, wFor_nil']
    exact h0 env hi
  | succ n ih =>
    intro k env hk hle hi
    have hlt : k < ds.length := by omega
    rw [List.drop_eq_getElem_cons hlt, wFor_cons']
    exact hs k _ env _ (List.getElem?_eq_getElem hlt) hi fun e he => ih (k + 1) e (by omega) (by omega) he
theorem rangeD_get {lo : Int} {n k : Nat} {d : D} (h : (rangeD lo n)[k]? = some d) : k < n ∧ d = .int (lo + k) := by
  unfold rangeD at h
  rw [List.getElem?_map] at h
  by_cases hk : k < n
  · rw [List.getElem?_range hk] at h
    injection h with h
    exact ⟨hk, h.symm⟩
  · rw [List.getElem?_eq_none (by simpa using hk)] at h
    cases h
theorem for_range {g : G} {body : Env → KS → Prop} {K : KS} (lo : Int) (n : Nat) (I : Nat → Env → Prop) (h0 : ∀ env, I n env → K.nx env)
    (hs : ∀ (k : Nat) env (f : Env → Prop), k < n → I k env → (∀ e, I (k + 1) e → f e) → tgt g (.int (lo + k)) env fun env1 => body env1 (K.loop f)) (env : Env) (h : I 0 env) : wFor g body K (rangeD lo n) env := by
  refine for_list (rangeD lo n) I (fun env q => h0 env ?_) (fun k d env f hd hi hf => ?_) env h
  · simpa [rangeD] using q
  · obtain ⟨hk, rfl⟩ := rangeD_get hd
    exact hs k env f hk hi hf

/-! ### the deal -/
/-- a deal from which n more may be drawn -/
def Dl (n : Nat) (d : D) : Prop := ∃ (row : List Int) (at' total : Int), d = .lst [.lst (row.map .int), .lst [.int at'], .int total] ∧ 0 ≤ at' ∧ at' + n ≤ 1099511627776 ∧ row.length ≤ 1099511627776
theorem Dl.mono {m n : Nat} {d : D} (h : Dl n d) (hm : m ≤ n) : Dl m d := by
  obtain ⟨row, a, t, e, h1, h2, h3⟩ := h
  exact ⟨row, a, t, e, h1, by omega, h3⟩
def sp__law_deal : PSp where
  G := List Int
  pre ns ds := ds = [.scr ns] ∧ ns.length ≤ 63
  post _ r outs := ∃ d, r = .ow d ∧ outs = [] ∧ Dl 549755813888 d
def sp__law_take : PSp where
  G := Nat × D × Int
  pre g ds := ds = [g.2.1, .int g.2.2] ∧ Dl (g.1 + 1) g.2.1 ∧ 0 < g.2.2
  post g r outs := ∃ v d, r = .va (.int v) ∧ outs = [d] ∧ Dl g.1 d ∧ 0 ≤ v ∧ v < g.2.2

def nm__law_deal : PySem.Str := "_law_deal"
def ir__law_deal_1 : Ss :=
  .cons (.ifs (.cmp .Gt (.v 4) (.int 0)) (.cons (.app 1 (.op .Mod (.v 4) (.int 1009))) (.cons (.asg (.nm 4) (.op .FloorDiv (.v 4) (.int 1009))) .nil)) (.nil)) .nil
def ir__law_deal_2 : Ss :=
  .cons (.asg (.nm 4) (.op .Mod (.op .Add (.op .Add (.op .Mult (.v 4) (.int 16807)) (.int 12345)) (.v 5)) (.int 2147483647))) (.cons (.app 1 (.op .Mod (.op .FloorDiv (.v 4) (.int 7)) (.int 1009))) .nil)
def ir__law_deal_3 : Ss :=
  .cons (.asg (.nm 4) (.cb .abs (.cons (.cb .int (.cons (.ix (.v 0) (.v 2)) .nil)) .nil))) (.cons (.ifs (.cmp .GtE (.v 4) (.op .Pow (.int 10) (.int 18))) (.cons (.for (.nm 5) (.r1 (.int 40)) ir__law_deal_1) .nil) (.cons (.asg (.nm 4) (.op .Add (.op .Add (.op .Mult (.op .Mod (.v 4) (.int 2147483629)) (.int 48271)) (.op .Mult (.v 2) (.int 69621))) (.int 11))) (.cons (.for (.nm 5) (.r1 (.int 5)) ir__law_deal_2) .nil))) .nil)
def ir__law_deal : Ss :=
  .cons (.asg (.nm 1) (.lst (.nil))) (.cons (.for (.nm 2) (.r1 (.cb .min2 (.cons (.cb .len (.cons (.v 0) .nil)) (.cons (.int 63) .nil)))) ir__law_deal_3) (.cons (.asg (.nm 3) (.op .Add (.cb .sum (.cons (.v 1) .nil)) (.cb .len (.cons (.v 0) .nil)))) (.cons (.ret (.lst (.cons (.mv 1) (.cons (.lst (.cons (.int 0) .nil)) (.cons (.v 3) .nil))))) .nil)))
def nm__law_take : PySem.Str := "_law_take"
def ir__law_take : Ss :=
  .cons (.asg (.nm 2) (.ix (.ix (.v 0) (.int 1)) (.int 0))) (.cons (.setP 0 (.int 1) (.int 0) (.op .Add (.v 2) (.int 1))) (.cons (.ifs (.cmp .Lt (.v 2) (.cb .len (.cons (.ix (.v 0) (.int 0)) .nil))) (.cons (.ret (.op .Mod (.ix (.ix (.v 0) (.int 0)) (.v 2)) (.v 1))) .nil) (.nil)) (.cons (.ret (.op .Mod (.op .FloorDiv (.op .Add (.op .Add (.op .Mult (.v 2) (.int 7919)) (.op .Mult (.ix (.v 0) (.int 2)) (.int 31))) (.op .Mult (.op .Mult (.v 2) (.v 2)) (.int 17))) (.int 3)) (.v 1))) .nil)))

theorem atI_map {xs : List Int} {a : Int} (h0 : 0 ≤ a) (h1 : a < xs.length) : ∃ v, atI (xs.map D.int) a = some (.int v) := by
  obtain ⟨n, rfl⟩ := Int.eq_ofNat_of_zero_le h0
  have hn : n < xs.length := by omega
  exact ⟨xs[n], atI_nat (by rw [List.getElem?_map, List.getElem?_eq_getElem hn]; rfl)⟩
theorem cor_take : Cor sp__law_take [true, false] 3 ir__law_take := by
  rintro ⟨n, d, many⟩ ds ⟨rfl, ⟨row, at', total, rfl, h1, h2, h3⟩, h4⟩ hl
  have h2 : at' + (n + 1 : Nat) ≤ 1099511627776 := h2
  have h4 : 0 < many := h4
  have hd : Dl n (.lst [.lst (row.map .int), .lst [.int (at' + 1)], .int total]) := ⟨row, at' + 1, total, rfl, by omega, by omega, h3⟩
  have fin : ∀ v : Int, (sp__law_take).post (n, .lst [.lst (row.map .int), .lst [.int at'], .int total], many) (.va (.int (v % many))) [.lst [.lst (row.map .int), .lst [.int (at' + 1)], .int total]] :=
    fun v => ⟨_, _, rfl, rfl, hd, Int.emod_nonneg _ (by omega), Int.emod_lt_of_pos _ h4⟩
  array_get_dec
  refine ⟨1, _, ⟨rfl, rfl⟩, ?_⟩
  array_get_dec
  refine ⟨_, 0, ⟨rfl, rfl⟩, ?_⟩
  array_get_dec
  refine ⟨fun hc => ?_, fun hc => ?_⟩
  · array_get_dec
    have hc : at' < row.length := by simpa using hc
    obtain ⟨v, hv⟩ := atI_map h1 hc
    refine ⟨_, hv, ?_⟩
    array_get_dec
    exact fin v
  · array_get_dec
    refine ⟨.inr (by constructor <;> omega), ?_⟩
    array_get_dec
    exact fin _
theorem map_int_app (row : List Int) (v : Int) : row.map D.int ++ [.int v] = (row ++ [v]).map D.int := by simp
theorem deal1 (n : Nat) (c0 k : Slot) (K : KS) (hK : ∀ (row : List Int) cell t, row.length ≤ n + 40 → K.nx [c0, .ow (.lst (row.map .int)), k, .no, .sh (.int cell), t]) (row : List Int) (cell : Int) (t : Slot) (hr : row.length ≤ n) (hn : n ≤ 10000) :
    wFor (.nm 5) (wSs ir__law_deal_1) K (rangeD 0 40) [c0, .ow (.lst (row.map .int)), k, .no, .sh (.int cell), t] := by
  refine for_range 0 40 (fun j env => ∃ (row : List Int) (cell : Int) (t : Slot), row.length ≤ n + j ∧ env = [c0, .ow (.lst (row.map .int)), k, .no, .sh (.int cell), t]) ?_ ?_ _ ⟨row, cell, t, hr, rfl⟩
  · rintro env ⟨row, cell, t, h, rfl⟩; exact hK row cell t h
  · rintro j env f hj ⟨row, cell, t, h, rfl⟩ hf
    conv => whnf
    refine ⟨fun hc => ?_, fun hc => ?_⟩
    · conv => whnf
      refine ⟨by decide, ?_⟩
      conv => whnf
      refine ⟨by rw [List.length_map]; exact Nat.lt_of_le_of_lt h (Nat.lt_of_lt_of_le (show n + j < 16777216 by omega) (by decide)), ?_⟩
      conv => whnf
      refine ⟨rfl, ?_⟩
      conv => whnf
      refine ⟨by decide, ?_⟩
      conv => whnf
      exact hf _ ⟨row ++ [_], _, _, by rw [List.length_append]; simp; omega, by rw [← map_int_app]⟩
    · conv => whnf
      exact hf _ ⟨row, _, _, by omega, rfl⟩
theorem deal2 (n : Nat) (c0 k : Slot) (K : KS) (hK : ∀ (row : List Int) cell t, row.length ≤ n + 40 → K.nx [c0, .ow (.lst (row.map .int)), k, .no, .sh (.int cell), t]) (row : List Int) (cell : Int) (t : Slot) (hr : row.length ≤ n) (hn : n ≤ 10000) :
    wFor (.nm 5) (wSs ir__law_deal_2) K (rangeD 0 5) [c0, .ow (.lst (row.map .int)), k, .no, .sh (.int cell), t] := by
  refine for_range 0 5 (fun j env => ∃ (row : List Int) (cell : Int) (t : Slot), row.length ≤ n + j ∧ env = [c0, .ow (.lst (row.map .int)), k, .no, .sh (.int cell), t]) ?_ ?_ _ ⟨row, cell, t, hr, rfl⟩
  · rintro env ⟨row, cell, t, h, rfl⟩; exact hK row cell t (by omega)
  · rintro j env f hj ⟨row, cell, t, h, rfl⟩ hf
    conv => whnf
    refine ⟨.inr (by decide), ?_⟩
    conv => whnf
    refine ⟨by decide, ?_⟩
    conv => whnf
    refine ⟨by decide, ?_⟩
    conv => whnf
    refine ⟨by decide, ?_⟩
    conv => whnf
    refine ⟨by rw [List.length_map]; exact Nat.lt_of_le_of_lt h (Nat.lt_of_lt_of_le (show n + j < 16777216 by omega) (by decide)), ?_⟩
    conv => whnf
    refine ⟨rfl, ?_⟩
    conv => whnf
    exact hf _ ⟨row ++ [_], _, _, by rw [List.length_append]; simp; omega, by rw [← map_int_app]⟩
theorem atI_ns {xs : List Int} {a : Int} (h0 : 0 ≤ a) (h1 : a < xs.length) : ∃ v, atI xs a = some v := by
  obtain ⟨n, rfl⟩ := Int.eq_ofNat_of_zero_le h0
  have hn : n < xs.length := by omega
  exact ⟨xs[n], atI_nat (List.getElem?_eq_getElem hn)⟩
theorem cor_deal : Cor sp__law_deal [false] 6 ir__law_deal := by
  rintro ns ds ⟨rfl, h1⟩ hl
  have h1 : ns.length ≤ 63 := h1
  array_get_dec
  refine ⟨by constructor <;> (split <;> omega), ?_⟩
  array_get_dec
  have hm : ∀ k : Nat, k < (if (63 : Int) < (ns.length : Int) then (63 : Int) else (ns.length : Int)).toNat → k < ns.length := fun k hk => by split at hk <;> omega
  refine for_range 0 _ (fun j env => ∃ (row : List Int) (k c t : Slot), row.length ≤ 40 * j ∧ env = [.sh (.scr ns), .ow (.lst (row.map .int)), k, .no, c, t]) ?_ ?_ _ ⟨[], .no, .no, .no, by simp, rfl⟩
  · rintro env ⟨row, k, c, t, h, rfl⟩
    array_get_dec
    have h : row.length ≤ 40 * (if (63 : Int) < (ns.length : Int) then (63 : Int) else (ns.length : Int)).toNat := h
    refine ⟨row, 0, _, rfl, by decide, by decide, ?_⟩
    split at h <;> omega
  · rintro j env f hj ⟨row, k, c, t, h, rfl⟩ hf
    have hj' := hm j hj
    have hf' : ∀ (row : List Int) (cell : Int) (t : Slot), row.length ≤ 40 * j + 40 → f [.sh (.scr ns), .ow (.lst (row.map .int)), .sh (.int (0 + j)), .no, .sh (.int cell), t] := fun row cell t h => hf _ ⟨row, _, _, _, by omega, rfl⟩
    obtain ⟨v, hv⟩ := atI_ns (xs := ns) (a := 0 + (j : Int)) (by omega) (by omega)
    conv => whnf
    refine ⟨v, hv, ?_⟩
    array_get_dec
    refine ⟨fun hc => ?_, fun hc => ?_⟩
    · array_get_dec
      exact deal1 (40 * j) _ _ _ hf' row _ t h (by omega)
    · array_get_dec
      exact deal2 (40 * j) _ _ _ hf' row _ t h (by omega)
end PW

namespace PW
open PySem L2
local macro_rules
  | `(tactic| array_get_dec) => `(tactic| (conv => whnf) <;> repeat (first | refine And.intro rfl ?_ | refine And.intro (by assumption) ?_ | refine ⟨_, rfl, ?_⟩ | refine And.intro (Nat.le_of_ble_eq_true rfl) ?_ | refine And.intro (by decide) ?_ | refine And.intro (.inr (by decide)) ?_ | refine And.intro (fun _ => trivial) ?_ | refine And.intro (fun (h : false = true) => Bool.noConfusion h) (fun _ => ?_) | refine And.intro (fun _ => ?_) (fun (h : true = false) => Bool.noConfusion h) | refine And.intro ⟨by decide, by decide, by decide⟩ ?_); (conv => whnf))
/-! ### likeness -/
mutual
def same : D → D → Bool
  | .tup a, .tup b => sameL a b
  | .lst a, .lst b => sameL a b
  | .bl a, .bl b => decide (a = b)
  | .int a, .int b => decide (a = b)
  | .str a, .str b => decide (a = b)
  | .non, .non => true
  | _, _ => false
def sameL : List D → List D → Bool
  | [], [] => true
  | a :: as, b :: bs => same a b && sameL as bs
  | _, _ => false
end
/-- plain data of a depth below n -/
def okd : Nat → D → Prop
  | 0, _ => False
  | n + 1, .tup ds => ds.length < 4611686018427387904 ∧ ∀ d ∈ ds, okd n d
  | n + 1, .lst ds => ds.length < 4611686018427387904 ∧ ∀ d ∈ ds, okd n d
  | _ + 1, .dct _ _ => False
  | _ + 1, .scr _ => False
  | _ + 1, .flz _ => False
  | _ + 1, _ => True
theorem sameL_len : ∀ {as bs : List D}, sameL as bs = true → as.length = bs.length
  | [], [], _ => rfl
  | [], _ :: _, h => by simp [sameL] at h
  | _ :: _, [], h => by simp [sameL] at h
  | a :: as, b :: bs, h => by
    simp only [sameL, Bool.and_eq_true] at h
    rw [List.length_cons, List.length_cons, sameL_len h.2]
theorem sameL_of : ∀ {as bs : List D}, as.length = bs.length → (∀ (k : Nat) (a b : D), as[k]? = some a → bs[k]? = some b → same a b = true) → sameL as bs = true
  | [], [], _, _ => rfl
  | [], _ :: _, h, _ => by simp at h
  | _ :: _, [], h, _ => by simp at h
  | a :: as, b :: bs, h, k => by
    simp only [sameL, Bool.and_eq_true]
    exact ⟨k 0 a b rfl rfl, sameL_of (by simpa using h) fun j x y e f => k (j + 1) x y (by simpa using e) (by simpa using f)⟩
theorem sameL_not : ∀ {as bs : List D} {k : Nat} {a b : D}, as[k]? = some a → bs[k]? = some b → same a b = false → sameL as bs = false
  | [], _, _, _, _, e, _, _ => by simp at e
  | _ :: _, [], _, _, _, _, e, _ => by simp at e
  | _ :: _, _ :: _, 0, _, _, e, f, h => by
    simp at e f
    subst e; subst f
    simp [sameL, h]
  | _ :: _, _ :: _, k + 1, _, _, e, f, h => by
    simp [sameL, sameL_not (k := k) (by simpa using e) (by simpa using f) h]
mutual
theorem same_refl : ∀ (n : Nat) (d : D), okd n d → same d d = true
  | 0, _, h => by simp only [okd] at h
  | n + 1, .tup ds, h => by simp only [okd] at h; simp only [same]; exact sameL_refl n ds h.2
  | n + 1, .lst ds, h => by simp only [okd] at h; simp only [same]; exact sameL_refl n ds h.2
  | n + 1, .dct _ _, h => by simp only [okd] at h
  | n + 1, .scr _, h => by simp only [okd] at h
  | n + 1, .flz _, h => by simp only [okd] at h
  | n + 1, .non, _ => by simp [same]
  | n + 1, .bl _, _ => by simp [same]
  | n + 1, .int _, _ => by simp [same]
  | n + 1, .str _, _ => by simp [same]
theorem sameL_refl : ∀ (n : Nat) (ds : List D), (∀ d ∈ ds, okd n d) → sameL ds ds = true
  | _, [], _ => rfl
  | n, d :: ds, h => by simp only [sameL, Bool.and_eq_true]; exact ⟨same_refl n d (h d List.mem_cons_self), sameL_refl n ds fun e he => h e (List.mem_cons_of_mem _ he)⟩
end
def sp__law_same : Nat → PSp
  | 0 => ⟨D × D, fun _ _ => False, fun _ _ _ => True⟩
  | n + 1 => ⟨D × D, fun g ds => ds = [g.1, g.2] ∧ okd (n + 1) g.1 ∧ okd (n + 1) g.2, fun g r outs => r = .va (.bl (same g.1 g.2)) ∧ outs = []⟩
def nm__law_same : PySem.Str := "_law_same"
def ir__law_same_2 (n : Nat) : Ss :=
  .cons (.ifs (.nt (.tr (.call nm__law_same (sp__law_same n) [false, false] (.cons (.ix (.v 0) (.v 2)) (.cons (.ix (.v 1) (.v 2)) .nil))))) (.cons (.ret (.bl false)) .nil) (.nil)) .nil
def ir__law_same_3 (n : Nat) : Ss :=
  .cons (.ifs (.orr (.an (.tr (.isi (.v 1) .tuple)) (.nt (.tr (.isi (.v 0) .tuple)))) (.an (.tr (.isi (.v 1) .list)) (.nt (.tr (.isi (.v 0) .list))))) (.cons (.ret (.bl false)) .nil) (.nil)) (.cons (.ifs (.cmp .NotEq (.cb .len (.cons (.v 0) .nil)) (.cb .len (.cons (.v 1) .nil))) (.cons (.ret (.bl false)) .nil) (.nil)) (.cons (.for (.nm 2) (.r1 (.cb .len (.cons (.v 1) .nil))) (ir__law_same_2 n)) (.cons (.ret (.bl true)) .nil)))
def ir__law_same (n : Nat) : Ss :=
  .cons (.ifs (.orr (.tr (.isi (.v 1) .tuple)) (.tr (.isi (.v 1) .list))) (ir__law_same_3 n) (.nil)) (.cons (.ifs (.orr (.tr (.isi (.v 0) .bool)) (.tr (.isi (.v 1) .bool))) (.cons (.ret (.an (.isi (.v 0) .bool) (.an (.isi (.v 1) .bool) (.cmp .Eq (.v 0) (.v 1))))) .nil) (.nil)) (.cons (.ifs (.tr (.isi (.v 1) .int)) (.cons (.ret (.an (.isi (.v 0) .int) (.cmp .Eq (.v 0) (.v 1)))) .nil) (.nil)) (.cons (.ifs (.tr (.isi (.v 1) .str)) (.cons (.ret (.an (.isi (.v 0) .str) (.cmp .Eq (.v 0) (.v 1)))) .nil) (.nil)) (.cons (.ret (.an (.cmp .Is (.v 0) (.non)) (.cmp .Is (.v 1) (.non)))) .nil))))
theorem cor_same (n : Nat) : Cor (sp__law_same (n + 1)) [false, false] 3 (ir__law_same n) := by
  rintro ⟨a, b⟩ ds ⟨rfl, h1, h2⟩ hl
  have fin : ∀ c, c = same a b → (sp__law_same (n + 1)).post (a, b) (.va (.bl c)) [] := fun c h => ⟨by rw [h], rfl⟩
  clear hl
  cases b with
  | dct _ => exact (show False from h2).elim
  | scr _ => exact (show False from h2).elim
  | flz _ => exact (show False from h2).elim
  | tup bs =>
    cases a with
    | dct _ _ => exact (show False from h1).elim
    | scr _ => exact (show False from h1).elim
    | flz _ => exact (show False from h1).elim
    | tup as =>
      have h1 : as.length < 4611686018427387904 ∧ ∀ d ∈ as, okd n d := h1
      have h2 : bs.length < 4611686018427387904 ∧ ∀ d ∈ bs, okd n d := h2
      array_get_dec
      refine ⟨fun hc => ?_, fun hc => ?_⟩
      · array_get_dec
        refine fin _ (Eq.symm ?_)
        show sameL as bs = false
        cases e : sameL as bs with
        | false => rfl
        | true =>
          have := sameL_len e
          rw [this] at hc
          simp at hc
      · have hl : as.length = bs.length := by simp at hc; omega
        array_get_dec
        refine ⟨⟨by omega, by omega⟩, ?_⟩
        array_get_dec
        refine for_range 0 _ (fun k env => (∀ (j : Nat) x y, j < k → as[j]? = some x → bs[j]? = some y → same x y = true) ∧ ∃ s, env = [.sh (.tup as), .sh (.tup bs), s]) ?_ ?_ _ ⟨fun j x y h => absurd h (Nat.not_lt_zero j), _, rfl⟩
        · rintro env ⟨hk, s, rfl⟩
          have hk : ∀ (j : Nat) x y, j < bs.length → as[j]? = some x → bs[j]? = some y → same x y = true := hk
          array_get_dec
          refine fin _ (Eq.symm (sameL_of hl fun j x y e f => hk j x y ?_ e f))
          exact (List.getElem?_eq_some_iff.mp f).1
        · rintro k env f hk ⟨hI, s, rfl⟩ hf
          have hk : k < bs.length := hk
          have e1 : as[k]? = some (as[k]'(by omega)) := List.getElem?_eq_getElem _
          have e2 : bs[k]? = some bs[k] := List.getElem?_eq_getElem _
          have z : (0 : Int) + (k : Int) = (k : Int) := by omega
          rw [z]
          conv => whnf
          refine ⟨_, atI_nat e1, ?_⟩
          conv => whnf
          refine ⟨_, atI_nat e2, ?_⟩
          conv => whnf
          cases n with
          | zero => exact (show False from h2.2 _ (List.getElem_mem hk)).elim
          | succ n =>
            refine ⟨(as[k], bs[k]), ⟨rfl, h1.2 _ (List.getElem_mem _), h2.2 _ (List.getElem_mem _)⟩, ?_⟩
            rintro _ _ ⟨rfl, rfl⟩
            conv => whnf
            have hI' : same as[k] bs[k] = true → ∀ (j : Nat) x y, j < k + 1 → as[j]? = some x → bs[j]? = some y → same x y = true := fun q j x y hj ex ey => by
              by_cases hjk : j = k
              · subst hjk
                rw [e1] at ex; rw [e2] at ey
                injection ex with ex; injection ey with ey
                subst ex; subst ey
                exact q
              · exact hI j x y (by omega) ex ey
            refine ⟨fun hc => ?_, fun hc => ?_⟩
            · have hc : (!same as[k] bs[k]) = true := hc
              array_get_dec
              refine fin _ (Eq.symm (sameL_not e1 e2 (by simpa using hc)))
            · have hc : (!same as[k] bs[k]) = false := hc
              array_get_dec
              exact hf _ ⟨hI' (by simpa using hc), _, rfl⟩
    | _ =>
      array_get_dec
      all_goals exact fin _ rfl
  | lst bs =>
    cases a with
    | dct _ _ => exact (show False from h1).elim
    | scr _ => exact (show False from h1).elim
    | flz _ => exact (show False from h1).elim
    | lst as =>
      have h1 : as.length < 4611686018427387904 ∧ ∀ d ∈ as, okd n d := h1
      have h2 : bs.length < 4611686018427387904 ∧ ∀ d ∈ bs, okd n d := h2
      array_get_dec
      refine ⟨fun hc => ?_, fun hc => ?_⟩
      · array_get_dec
        refine fin _ (Eq.symm ?_)
        show sameL as bs = false
        cases e : sameL as bs with
        | false => rfl
        | true =>
          have := sameL_len e
          rw [this] at hc
          simp at hc
      · have hl : as.length = bs.length := by simp at hc; omega
        array_get_dec
        refine ⟨⟨by omega, by omega⟩, ?_⟩
        array_get_dec
        refine for_range 0 _ (fun k env => (∀ (j : Nat) x y, j < k → as[j]? = some x → bs[j]? = some y → same x y = true) ∧ ∃ s, env = [.sh (.lst as), .sh (.lst bs), s]) ?_ ?_ _ ⟨fun j x y h => absurd h (Nat.not_lt_zero j), _, rfl⟩
        · rintro env ⟨hk, s, rfl⟩
          have hk : ∀ (j : Nat) x y, j < bs.length → as[j]? = some x → bs[j]? = some y → same x y = true := hk
          array_get_dec
          refine fin _ (Eq.symm (sameL_of hl fun j x y e f => hk j x y ?_ e f))
          exact (List.getElem?_eq_some_iff.mp f).1
        · rintro k env f hk ⟨hI, s, rfl⟩ hf
          have hk : k < bs.length := hk
          have e1 : as[k]? = some (as[k]'(by omega)) := List.getElem?_eq_getElem _
          have e2 : bs[k]? = some bs[k] := List.getElem?_eq_getElem _
          have z : (0 : Int) + (k : Int) = (k : Int) := by omega
          rw [z]
          conv => whnf
          refine ⟨_, atI_nat e1, ?_⟩
          conv => whnf
          refine ⟨_, atI_nat e2, ?_⟩
          conv => whnf
          cases n with
          | zero => exact (show False from h2.2 _ (List.getElem_mem hk)).elim
          | succ n =>
            refine ⟨(as[k], bs[k]), ⟨rfl, h1.2 _ (List.getElem_mem _), h2.2 _ (List.getElem_mem _)⟩, ?_⟩
            rintro _ _ ⟨rfl, rfl⟩
            conv => whnf
            have hI' : same as[k] bs[k] = true → ∀ (j : Nat) x y, j < k + 1 → as[j]? = some x → bs[j]? = some y → same x y = true := fun q j x y hj ex ey => by
              by_cases hjk : j = k
              · subst hjk
                rw [e1] at ex; rw [e2] at ey
                injection ex with ex; injection ey with ey
                subst ex; subst ey
                exact q
              · exact hI j x y (by omega) ex ey
            refine ⟨fun hc => ?_, fun hc => ?_⟩
            · have hc : (!same as[k] bs[k]) = true := hc
              array_get_dec
              refine fin _ (Eq.symm (sameL_not e1 e2 (by simpa using hc)))
            · have hc : (!same as[k] bs[k]) = false := hc
              array_get_dec
              exact hf _ ⟨hI' (by simpa using hc), _, rfl⟩
    | _ =>
      array_get_dec
      all_goals exact fin _ rfl
  | _ =>
    cases a with
    | dct _ _ => exact (show False from h1).elim
    | scr _ => exact (show False from h1).elim
    | flz _ => exact (show False from h1).elim
    | _ =>
      array_get_dec
      all_goals exact fin _ rfl
end PW

namespace PW
open PySem L2 PyProof.Rows

/-! ### a def of the module -/
structure DefAt (K : Fg) (mg : Str → Option Value) (x : Str) (st : Stmt) : Prop where
  ex : ∃ (a : Addr) (fd : FuncData), mg x = some (.ref a) ∧ PySem.W.keepIn K (.ref a) = true ∧ Fun K x x st a fd
theorem DefAt.mk' {K : Fg} {mg : Str → Option Value} {h : Heap} {x : Str} {st : Stmt} {f : Addr} {oc : Value} {od an : Option Addr} {osl : Array (Option Value)} {kV doc pm cdv ct : Value} (X : K.In h) (G : h.Ns mainGlobals mg)
    (a : PySem.W.nsIn K mainGlobals x = some (some (.ref f))) (l : K.lookup f = some ⟨oc, od, .func (PySem.W.fnOf x x (defArgs st) (defBody st) (defScope st) .none kV doc pm an cdv ct), osl⟩) (c : PySem.W.codeIn K cdv x = true) (k : PySem.W.keepIn K (.ref f) = true) : DefAt K mg x st :=
  ⟨⟨f, _, PySem.W.mg_of X G a, k, fun_mk l c k⟩⟩
section
variable {P : Program} {w : World} {K : Fg} {mg : Str → Option Value} {base : Heap} {x : Str} {st : Stmt} {N ps : List Str} {sp : PSp} {m : List Bool} {ir : Ss} {k : Nat}
/-- how the arguments bind -/
def BindA (x : Str) (st : Stmt) (ps : List Str) : Prop := ∀ (kV doc pm : Value) (an : Option Addr) (cdv ct : Value) (us : List Value), us.length = ps.length → bindArgs (PySem.W.fnOf x x (defArgs st) (defBody st) (defScope st) .none kV doc pm an cdv ct) ⟨us, []⟩ = pure (ps.zip us)
theorem DefAt.fnS (D : DefAt K mg x st) (hb : BindA x st ps) (S : FnScope N ps (defScope st)) (hm : m.length = ps.length) (hc : cSs N (defScope st) m ir (defBody st) = true) (ok : okSs ⟨P, w, K, mg, base, k⟩ ir) (cor : Cor sp m N.length ir) :
    FnS P w K mg base (k + 1) x sp m := by
  obtain ⟨a, fd, h1, h2, F⟩ := D.ex
  exact ⟨⟨a, fd, ps, h1, h2, F.binds hb, fn_ok F S hm hc ok cor⟩⟩
theorem DefAt.no (D : DefAt K mg x st) (hb : BindA x st ps) (S : FnScope N ps (defScope st)) (h : ∀ g ds, ¬ sp.pre g ds) : FnS P w K mg base (k + 1) x sp m := by
  obtain ⟨a, fd, h1, h2, F⟩ := D.ex
  exact ⟨⟨a, fd, ps, h1, h2, F.binds hb, F.ok S (fun vs H Q E ⟨g, ds, _, _, _, _, _, _, hp, _⟩ => (h g ds hp).elim) fun _ _ _ _ _ _ _ _ _ ⟨g, ds, _, _, _, _, _, _, hp, _⟩ => (h g ds hp).elim⟩⟩
theorem glob_str {h : Heap} {s : Str} {n : Nat} {t : List Nat} (X : K.In h) (G : h.Ns mainGlobals mg) (a : PySem.W.nsIn K mainGlobals x = some (some (.str s n))) (e : s = tx t) : Gm.Glob ⟨P, w, K, mg, base, k⟩ x (.str t) :=
  ⟨⟨_, _, PySem.W.mg_of X G a, by rw [e]; exact ⟨_, rfl⟩, .str t⟩⟩
theorem glob_int {h : Heap} {s : Int} {n : Nat} {t : Int} (X : K.In h) (G : h.Ns mainGlobals mg) (a : PySem.W.nsIn K mainGlobals x = some (some (.int s n))) (e : s = t) : Gm.Glob ⟨P, w, K, mg, base, k⟩ x (.int t) :=
  ⟨⟨_, _, PySem.W.mg_of X G a, by rw [e]; exact ⟨_, rfl⟩, .int t⟩⟩
/-- a tuple of one text -/
theorem glob_tup1 {h : Heap} {ga : Addr} {oc : Value} {od : Option Addr} {osl : Array (Option Value)} {s : Str} {n m : Nat} {t : List Nat} (X : K.In h) (G : h.Ns mainGlobals mg) (a : PySem.W.nsIn K mainGlobals x = some (some (.ref ga))) (l : K.lookup ga = some ⟨oc, od, .seq #[.str s n] m, osl⟩) (c : oc = .type "tuple") (e : s = tx t) : Gm.Glob ⟨P, w, K, mg, base, k⟩ x (.tup [.str t]) :=
  ⟨⟨_, .ref ga, PySem.W.mg_of X G a, rfl, .tup (xs := [.str (tx t)]) (.inr ⟨_, _, _, l, c, rfl, Nat.le_of_ble_eq_true rfl, by rw [e]; exact .cons ⟨_, rfl⟩ .nil⟩) (.cons (n := rfl) (.str t) .nil)⟩⟩
end
/-- what a law promises -/
def sp_law : PSp where
  G := List Int
  pre ns ds := ds = [.scr ns] ∧ ns.length ≤ 63
  post _ r outs := r = .va (.bl true) ∧ outs = []
theorem law_lift {K : Fg} {H : Hp} {a : Addr} {ns : List Int} (hl : ns.length ≤ 63) (hS : SqL K H a (ns.map V.int)) : Lift K sp_law [false] [.ref a] H (fun v _ => v = .bl true) fun _ _ _ => False := by
  refine ⟨ns, [.scr ns], H, [], .sh (.scr ns hS) .nil, List.nodup_nil, (fun _ z => nomatch z), Ext.refl _, ⟨rfl, hl⟩, ?_⟩
  rintro r outs ⟨rfl, rfl⟩ v F' H' L' fp _ _ _ _ ⟨q, _⟩ _ _
  cases q
  rfl
/-- how a law's statement is closed -/
theorem walk_law {l : PySem.W.OpenLaw} {q : Program} {loose : List Str} {XP : (Str → Option Value) → Heap → Prop} {YP : World → Heap → Prop} {d : DefRec} {K : Params → PySem.W.Frag} {n : Nat} (hn : l.most = some 63) (hdf : d.params.defaults = []) (hr : Room (n + 1) callerA)
    (hY : ∀ (w : World) (h : Heap), YP w h → (K w.params).In h)
    (F : ∀ (w : World) (mg : Str → Option Value) (fa : Addr) (h : Heap), (K w.params).In h → h.Ns mainGlobals mg → mg d.name = some (.ref fa) →
      ∃ fd : FuncData, (∀ (s : Shared) (u : Value), BindsTo s fd ⟨[u], []⟩ [("script", u)]) ∧ ∀ base : Heap, (K w.params).In base → base.Ns mainGlobals mg → FnOk l.prog w (K w.params) mg base CX0 (n + 1) fa fd ["script"] (Lift (K w.params) sp_law [false])) :
    PySem.W.WalkO q loose XP YP l.row.toRowW d [] (fun f vs => PySem.call f vs) :=
  L2.walk_of (n := 63) (k := n + 1) (x := "script") (CX := fun _ => CX0) (sp := fun w => Lift (K w.params) sp_law [false]) hn (by decide) hdf hr hY F (fun _ _ _ _ hl _ hS => law_lift hl hS) fun _ _ _ _ _ z => z
/-- the law's own def -/
theorem law_head {l : PySem.W.OpenLaw} {w : World} {K : Fg} {mg : Str → Option Value} {h : Heap} {fa f : Addr} {st : Stmt} {N : List Str} {ir : Ss} {n : Nat} {oc : Value} {od an : Option Addr} {osl : Array (Option Value)} {kV doc pm cdv ct : Value} (X : K.In h) (G : h.Ns mainGlobals mg) (hfa : mg "law" = some (.ref fa))
    (a : PySem.W.nsIn K mainGlobals "law" = some (some (.ref f))) (lk : K.lookup f = some ⟨oc, od, .func (PySem.W.fnOf "law" "law" (defArgs st) (defBody st) (defScope st) .none kV doc pm an cdv ct), osl⟩) (c : PySem.W.codeIn K cdv "law" = true) (kp : PySem.W.keepIn K (.ref f) = true)
    (hb : ∀ (s : Shared) (v : Value), BindsTo s (PySem.W.fnOf "law" "law" (defArgs st) (defBody st) (defScope st) .none kV doc pm an cdv ct) ⟨[v], []⟩ [("script", v)]) (S : FnScope N ["script"] (defScope st)) (hc : cSs N (defScope st) [false] ir (defBody st) = true)
    (ok : ∀ base : Heap, K.In base → base.Ns mainGlobals mg → okSs ⟨l.prog, w, K, mg, base, n⟩ ir) (cor : Cor sp_law [false] N.length ir) :
    ∃ fd : FuncData, (∀ (s : Shared) (u : Value), BindsTo s fd ⟨[u], []⟩ [("script", u)]) ∧ ∀ base : Heap, K.In base → base.Ns mainGlobals mg → FnOk l.prog w K mg base CX0 (n + 1) fa fd ["script"] (Lift K sp_law [false]) := by
  have e := hfa.symm.trans (PySem.W.mg_of X G a)
  cases e
  exact ⟨_, hb, fun base Xb Gb => fn_ok (fun_mk lk c kp) S rfl hc (ok base Xb Gb) cor⟩
/-! ### short words for calls -/
theorem take_k {n : Nat} {d : D} {many : Int} {C : R → List D → Prop} (hd : Dl (n + 1) d) (hm : 0 < many) (k : ∀ v d', Dl n d' → 0 ≤ v → v < many → C (.va (.int v)) [d']) : ∃ g : sp__law_take.G, sp__law_take.pre g [d, .int many] ∧ ∀ r outs, sp__law_take.post g r outs → C r outs := by
  refine ⟨(n, d, many), ⟨rfl, hd, hm⟩, ?_⟩
  rintro _ _ ⟨v, d', rfl, rfl, h1, h2, h3⟩
  exact k v d' h1 h2 h3
theorem deal_k {ns : List Int} {C : R → List D → Prop} (h : ns.length ≤ 63) (k : ∀ d, Dl 549755813888 d → C (.ow d) []) : ∃ g : sp__law_deal.G, sp__law_deal.pre g [.scr ns] ∧ ∀ r outs, sp__law_deal.post g r outs → C r outs := by
  refine ⟨ns, ⟨rfl, h⟩, ?_⟩
  rintro _ _ ⟨d, rfl, rfl, hd⟩
  exact k d hd
/-- likeness of a thing with itself -/
theorem same_k {n : Nat} {a b : D} {C : R → List D → Prop} (h : a = b) (hb : okd (n + 1) b) (k : C (.va (.bl true)) []) : ∃ g : (sp__law_same (n + 1)).G, (sp__law_same (n + 1)).pre g [a, b] ∧ ∀ r outs, (sp__law_same (n + 1)).post g r outs → C r outs := by
  subst h
  refine ⟨(a, a), ⟨rfl, hb, hb⟩, ?_⟩
  rintro _ _ ⟨rfl, rfl⟩
  rw [same_refl (n + 1) a hb]
  exact k
theorem lc_list {gd : Env → Prop} {g : G} {t : Env → (Bool → Env → Prop) → Prop} {e : Env → (R → Env → Prop) → Prop} {C : List D → Env → Prop} (ds : List D) (I : Nat → List D → Env → Prop) (h0 : ∀ acc env, I ds.length acc env → gd env ∧ C acc env)
    (hs : ∀ k d acc env (f : List D → Env → Prop), ds[k]? = some d → I k acc env → (∀ acc' e', I (k + 1) acc' e' → f acc' e') → gd env ∧ tgt g d env fun env1 => t env1 fun b env2 => (b = true → e env2 fun r env3 => acc.length < sizeLine ∧ lstK [r] fun y => f (acc ++ y) env3) ∧ (b = false → f acc env2)) (env : Env) (hi : I 0 [] env) : lcK gd g t e ds [] env C := by
  suffices h : ∀ n k acc env, ds.length - k = n → k ≤ ds.length → I k acc env → lcK gd g t e (ds.drop k) acc env C by
    simpa using h ds.length 0 [] env rfl (Nat.zero_le _) hi
  intro n
  induction n with
  | zero =>
    intro k acc env hk hle hi
    have : k = ds.length := by omega
    subst this
    rw [List.drop_length, lcK_nil]
    exact h0 acc env hi
  | succ n ih =>
    intro k acc env hk hle hi
    have hlt : k < ds.length := by omega
    rw [List.drop_eq_getElem_cons hlt, lcK_cons]
    exact hs k _ acc env _ (List.getElem?_eq_getElem hlt) hi fun acc' e' he => ih (k + 1) acc' e' (by omega) (by omega) he
theorem lc_range {gd : Env → Prop} {g : G} {t : Env → (Bool → Env → Prop) → Prop} {e : Env → (R → Env → Prop) → Prop} {C : List D → Env → Prop} (lo : Int) (n : Nat) (I : Nat → List D → Env → Prop) (h0 : ∀ acc env, I n acc env → gd env ∧ C acc env)
    (hs : ∀ (k : Nat) acc env (f : List D → Env → Prop), k < n → I k acc env → (∀ acc' e', I (k + 1) acc' e' → f acc' e') → gd env ∧ tgt g (.int (lo + k)) env fun env1 => t env1 fun b env2 => (b = true → e env2 fun r env3 => acc.length < sizeLine ∧ lstK [r] fun y => f (acc ++ y) env3) ∧ (b = false → f acc env2)) (env : Env) (hi : I 0 [] env) : lcK gd g t e (rangeD lo n) [] env C := by
  refine lc_list (rangeD lo n) I (fun acc env q => h0 acc env ?_) (fun k d acc env f hd hi hf => ?_) env hi
  · simpa [rangeD] using q
  · obtain ⟨hk, rfl⟩ := rangeD_get hd
    exact hs k acc env f hk hi hf
/-- what stands behind the first n statements -/
def tailS : Nat → Ss → Ss
  | 0, s => s
  | n + 1, .cons _ s => tailS n s
  | _ + 1, .bor i r k s => .bor i r k s
  | _, .nil => .nil
/-- a walk over an owned list that the walk leaves as it is -/
theorem fors_k {i : Nat} {g : G} {body : Env → KS → Prop} {K : KS} {env : Env} (ds : List D) (hl : ds.all D.leafy = true) (I : Nat → Env → Prop) (hI : ∀ k env, I k env → env[i]? = some (.ow (.lst ds))) (h0 : ∀ env, I ds.length env → K.nx env)
    (hs : ∀ k d env (f : Env → Prop), ds[k]? = some d → I k env → (∀ e, I (k + 1) e → f e) → tgt g d env fun env1 => body env1 (K.loop f)) (hi : I 0 env) : wForS i g body K env := by
  unfold wForS
  refine ⟨fun k m e => m = ds.length - k ∧ k ≤ ds.length ∧ I k e, ⟨ds.length, rfl, Nat.zero_le _, hi⟩, ?_⟩
  rintro k m e ⟨rfl, hk, he⟩
  refine ⟨ds, hI k e he, ?_⟩
  cases q : ds[k]? with
  | none =>
    have : ds.length ≤ k := List.getElem?_eq_none_iff.mp q
    have : k = ds.length := by omega
    subst this
    exact h0 e he
  | some d =>
    have hlt := (List.getElem?_eq_some_iff.mp q).1
    exact ⟨List.all_eq_true.mp hl d (List.mem_of_getElem? q), hs k d e _ q he fun e' he' => ⟨ds.length - (k + 1), by omega, rfl, by omega, he'⟩⟩
end PW

namespace PW
open PySem L2
local macro_rules
  | `(tactic| array_get_dec) => `(tactic| (conv => whnf) <;> repeat (first | refine And.intro rfl ?_ | refine And.intro (by assumption) ?_ | refine ⟨_, rfl, ?_⟩ | refine And.intro (Nat.le_of_ble_eq_true rfl) ?_ | refine And.intro (by decide) ?_ | refine And.intro (.inr (by decide)) ?_ | refine And.intro (fun _ => trivial) ?_ | refine And.intro (fun (h : false = true) => Bool.noConfusion h) (fun _ => ?_) | refine And.intro (fun _ => ?_) (fun (h : true = false) => Bool.noConfusion h) | refine And.intro ⟨by decide, by decide, by decide⟩ ?_); (conv => whnf))
def plainS : List Nat := [32, 33, 35, 36, 38, 39, 40, 41, 42, 43, 44, 45, 46, 47, 48, 49, 50, 51, 52, 53, 54, 55, 56, 57, 58, 59, 60, 61, 62, 63, 64, 65, 66, 67, 68, 69, 70, 71, 72, 73, 74, 75, 76, 77, 78, 79, 80, 81, 82, 83] ++ [84, 85, 86, 87, 88, 89, 90, 95, 96, 97, 98, 99, 100, 101, 102, 103, 104, 105, 106, 107, 108, 109, 110, 111, 112, 113, 114, 115, 116, 117, 118, 119, 120, 121, 122]
def smallS : List Nat := [97, 98, 99, 100, 101, 102, 103, 104, 105, 106, 107, 108, 109, 110, 111, 112, 113, 114, 115, 116, 117, 118, 119, 120, 121, 122]
def nameS : List Nat := [48, 49, 50, 51, 52, 53, 54, 55, 56, 57, 97, 98, 99, 100, 101, 102, 103, 104, 105, 106, 107, 108, 109, 110, 111, 112, 113, 114, 115, 116, 117, 118, 119, 120, 121, 122]
def nameS2 : List Nat := [97, 98, 99, 100, 101, 102, 103, 104, 105, 106, 107, 108, 109, 110, 111, 112, 113, 114, 115, 116, 117, 118, 119, 120, 121, 122, 48, 49, 50, 51, 52, 53, 54, 55, 56, 57]
def plainS1 : List Nat := [32, 33, 35, 36, 38, 39, 40, 41, 42, 43, 44, 45, 46, 47, 48, 49, 50, 51, 52, 53, 54, 55, 56, 57, 58, 59, 60, 61, 62, 63, 64, 65, 66, 67, 68, 69, 70, 71, 72, 73, 74, 75, 76, 77, 78, 79, 80, 81, 82, 83] ++ [84, 85, 86, 87, 88, 89, 90, 95, 96]
def digS : List Nat := [48, 49, 50, 51, 52, 53, 54, 55, 56, 57]
def bigS : List Nat := [65, 66, 67, 68, 69, 70, 71, 72, 73, 74, 75, 76, 77, 78, 79, 80, 81, 82, 83, 84, 85, 86, 87, 88, 89, 90]
def oddS : List Nat := [34, 91, 93, 123, 125, 124, 94, 126, 92, 10, 9]
def nm_PLAIN : PySem.Str := "PLAIN"
def g_PLAIN : D := .str plainS
def isPlain (s : List Nat) : Bool := s.all fun c => decide (c ∈ plainS)
def sp_is_plain : PSp where
  G := List Nat
  pre s ds := ds = [.str s] ∧ True
  post s r outs := r = .va (.bl (isPlain s)) ∧ outs = []
def sp__law_plain : PSp where
  G := Unit
  pre _ ds := ds = []
  post _ r outs := r = .va (.str plainS) ∧ outs = []
def sp__law_told : PSp where
  G := Bool × Bool
  pre g ds := ds = [.bl g.1, .bl g.2]
  post g r outs := r = .va (.bl (decide (g.1 = g.2))) ∧ outs = []
def sp__law_word : PSp where
  G := Nat × D × List Nat × Nat
  pre g ds := ds = [g.2.1, .str g.2.2.1, .int g.2.2.2] ∧ Dl (g.1 + g.2.2.2 + 1) g.2.1 ∧ 0 < g.2.2.1.length ∧ g.2.2.1.length ≤ 1000 ∧ g.2.2.2 ≤ 1000
  post g r outs := ∃ s d, r = .va (.str s) ∧ outs = [d] ∧ Dl g.1 d ∧ s.length ≤ g.2.2.2 ∧ ∀ c ∈ s, c ∈ g.2.2.1
def sp__law_stranger : PSp where
  G := Nat × D
  pre g ds := ds = [g.2] ∧ Dl (g.1 + 1) g.2
  post g r outs := ∃ c d, r = .va (.str [c]) ∧ outs = [d] ∧ Dl g.1 d ∧ c ∈ oddS
-- is_plain ['text', 'sign'] mask [false] own []
def nm_is_plain : PySem.Str := "is_plain"
def ir_is_plain_1 : Ss :=
  .cons (.ifs (.cmp .NotIn (.v 1) (.gl nm_PLAIN g_PLAIN)) (.cons (.ret (.bl false)) .nil) (.nil)) .nil
def ir_is_plain : Ss :=
  .cons (.for (.nm 1) (.sq (.v 0)) ir_is_plain_1) (.cons (.ret (.bl true)) .nil)

-- _law_plain ['signs'] mask [] own []
def nm__law_plain : PySem.Str := "_law_plain"
def ir__law_plain : Ss :=
  .cons (.asg (.nm 0) (.str plainS1)) (.cons (.ret (.op .Add (.v 0) (.str smallS))) .nil)

-- _law_told ['answer', 'due'] mask [false, false] own []
def nm__law_told : PySem.Str := "_law_told"
def ir__law_told : Ss :=
  .cons (.ret (.an (.isi (.v 0) .bool) (.cmp .Eq (.v 0) (.v 1)))) .nil

-- _law_word ['deal', 'signs', 'most', 'turn'] mask [true, false, false] own ['deal']
def nm__law_word : PySem.Str := "_law_word"
def ir__law_word : Ss :=
  .cons (.ret (.mt .join (.str []) (.cons (.lc (.nm 3) (.r1 (.call nm__law_take sp__law_take [true, false] (.cons (.v 0) (.cons (.op .Add (.v 2) (.int 1)) .nil)))) .yes (.ix (.v 1) (.call nm__law_take sp__law_take [true, false] (.cons (.v 0) (.cons (.cb .len (.cons (.v 1) .nil)) .nil))))) .nil))) .nil

-- _law_stranger ['deal'] mask [true] own ['deal']
def nm__law_stranger : PySem.Str := "_law_stranger"
def ir__law_stranger : Ss :=
  .cons (.ret (.ix (.str oddS) (.call nm__law_take sp__law_take [true, false] (.cons (.v 0) (.cons (.int 11) .nil))))) .nil


theorem at_mem {s : List Nat} {v : Int} (h0 : 0 ≤ v) (h1 : v < s.length) : ∃ c, atI s v = some c ∧ c ∈ s := by
  obtain ⟨n, rfl⟩ := Int.eq_ofNat_of_zero_le h0
  have hn : n < s.length := by omega
  exact ⟨s[n], atI_nat (List.getElem?_eq_getElem hn), List.getElem_mem hn⟩
theorem joinT_one (cs : List Nat) : joinT [] (cs.map fun c => [c]) = cs := by
  induction cs with
  | nil => rfl
  | cons c cs ih =>
    cases cs with
    | nil => rfl
    | cons d cs =>
      show [c] ++ [] ++ joinT [] ([d] :: cs.map fun c => [c]) = _
      have ih : joinT [] ([d] :: cs.map fun c => [c]) = d :: cs := ih
      rw [ih]
      rfl
theorem sum_one (cs : List Nat) : ((cs.map fun c => [c]).map List.length).sum = cs.length := by
  induction cs with
  | nil => rfl
  | cons c cs ih => simp only [List.map_cons, List.sum_cons, ih, List.length_cons]; simp; omega
theorem join_a (cs : List Nat) : cs.map (fun c => D.str [c]) = (cs.map fun c => [c]).map D.str := by rw [List.map_map]; rfl
theorem join_b {cs : List Nat} (h : cs.length ≤ 10000) : ((cs.map fun c => [c]).map List.length).sum + (cs.map fun c => [c]).length * ([] : List Nat).length ≤ 16777216 := by rw [sum_one]; simp; omega
theorem map_app (cs : List Nat) (c : Nat) : cs.map (fun c => D.str [c]) ++ [.str [c]] = (cs ++ [c]).map fun c => D.str [c] := by simp
theorem sz {n : Nat} (h : n ≤ 100000) : n ≤ sizeLine := Nat.le_trans h (by decide)
theorem szl {n : Nat} (h : n < 100000) : n < sizeLine := Nat.lt_of_lt_of_le h (by decide)
theorem lt_pair (a b : Nat) (s t : List Nat) : PySem.W.dataLt (D.tup [.int a, .str s]).py (D.tup [.int b, .str t]).py = (decide (a < b) || (decide (a = b) && decide (s < t))) := by
  show PyProof.Rows.lexLt PyProof.Rows.itemOrd [.inl 1, .inl (a : Int), .inl 1, .inr s, .inl 0] [.inl 1, .inl (b : Int), .inl 1, .inr t, .inl 0] = _
  simp only [PyProof.Rows.lexLt, PyProof.Rows.itemLt]
  by_cases h1 : a < b
  · simp [h1]
  · by_cases h2 : a = b
    · subst h2
      simp
    · have h3 : b < a := by omega
      simp [h1, h2, h3]
theorem head_at {s : List Nat} (h : 1 ≤ s.length) : atI s 0 = some (s.headD 0) := by
  cases s with
  | nil => simp at h
  | cons c s => exact atI_nat (j := 0) rfl
theorem map_get {s : List Nat} {k : Nat} {d : D} (h : (s.map fun c => D.str [c])[k]? = some d) : ∃ c, s[k]? = some c ∧ d = .str [c] := by
  rw [List.getElem?_map] at h
  cases e : s[k]? with
  | none => rw [e] at h; cases h
  | some c =>
    rw [e] at h
    injection h with h
    exact ⟨c, rfl, h.symm⟩
theorem cor__law_plain : Cor sp__law_plain [] 1 ir__law_plain := by
  rintro ⟨⟩ ds rfl hl
  array_get_dec
theorem cor__law_told : Cor sp__law_told [false, false] 2 ir__law_told := by
  rintro ⟨a, b⟩ ds rfl hl
  array_get_dec
theorem cor__law_stranger : Cor sp__law_stranger [true] 1 ir__law_stranger := by
  rintro ⟨n, d⟩ ds ⟨rfl, hd⟩ hl
  array_get_dec
  refine take_k hd (by decide) fun v d' hd' h0 h1 => ?_
  obtain ⟨c, hc, hm⟩ := at_mem (s := oddS) h0 h1
  array_get_dec
  refine ⟨_, hc, ?_⟩
  array_get_dec
  exact ⟨_, _, rfl, rfl, hd', hm⟩
/-- a walk over a text's signs that stops at the first that is not fine -/
theorem cor_is_plain : Cor sp_is_plain [false] 2 ir_is_plain := by
  rintro (s : List Nat) ds ⟨rfl, _⟩ hl
  clear hl
  array_get_dec
  refine for_list _ (fun k env => isPlain (s.take k) = true ∧ ∃ x, env = [.sh (.str s), x]) ?_ ?_ _ ⟨rfl, .no, rfl⟩
  · rintro env ⟨h, x, rfl⟩
    rw [List.length_map, List.take_length] at h
    array_get_dec
    exact ⟨by rw [h], rfl⟩
  · rintro k d env f hd ⟨h, x, rfl⟩ hf
    obtain ⟨c, e, rfl⟩ := map_get hd
    array_get_dec
    refine ⟨fun hc => ?_, fun hc => ?_⟩
    · have hm : ¬ c ∈ plainS := by simpa using hc
      array_get_dec
      refine ⟨?_, rfl⟩
      have : isPlain s = false := by
        rw [← Bool.not_eq_true]
        intro z
        exact hm (by simpa using List.all_eq_true.mp z c (List.mem_of_getElem? e))
      rw [this]
    · have hm : c ∈ plainS := by simpa using hc
      array_get_dec
      refine hf _ ⟨?_, .sh (.str [c]), rfl⟩
      unfold isPlain at h ⊢
      rw [List.take_add_one, e, List.all_append, h]
      simp [hm]
theorem cor__law_word : Cor sp__law_word [true, false, false] 4 ir__law_word := by
  rintro ⟨n, d, signs, most⟩ ds ⟨rfl, hd, h1, h2, h3⟩ hl
  clear hl
  have h1 : 0 < signs.length := h1
  have h2 : signs.length ≤ 1000 := h2
  have h3 : most ≤ 1000 := h3
  have hsz : signs.length ≤ sizeLine := sz (by omega)
  have hd : Dl (n + most + 1) d := hd
  array_get_dec
  refine take_k hd (by omega) fun v d' hd' v0 v1 => ?_
  have v1 : v < (most : Int) + 1 := v1
  array_get_dec
  refine ⟨⟨by omega, by omega⟩, ?_⟩
  array_get_dec
  refine lc_range 0 _ (fun k acc env => ∃ (cs : List Nat) (d : D) (z : Slot), acc = cs.map (fun c => D.str [c]) ∧ cs.length = k ∧ (∀ c ∈ cs, c ∈ signs) ∧ Dl (n + most - k) d ∧ env = [.ow d, .sh (.str signs), .sh (.int most), z]) ?_ ?_ _ ⟨[], d', .no, rfl, rfl, (fun _ z => nomatch z), hd', rfl⟩
  · rintro acc env ⟨cs, d6, z, rfl, hlen, hlow, hd6, rfl⟩
    refine ⟨trivial, ?_⟩
    conv => whnf
    refine ⟨cs.map fun c => [c], join_a cs, join_b (by omega), ?_⟩
    rw [joinT_one]
    array_get_dec
    exact ⟨cs, d6, rfl, rfl, hd6.mono (by omega), (by show cs.length ≤ most; omega), hlow⟩
  · rintro k acc env f hk ⟨cs, d6, z, rfl, hlen, hlow, hd6, rfl⟩ hf
    refine ⟨trivial, ?_⟩
    conv => whnf
    refine ⟨fun _ => ?_, fun h => nomatch h⟩
    array_get_dec
    refine take_k (n := n + most - (k + 1)) (hd6.mono (by omega)) (by omega) fun v6 d7 hd7 v60 v61 => ?_
    obtain ⟨c, hc, hm⟩ := at_mem v60 v61
    array_get_dec
    refine ⟨_, hc, ?_⟩
    conv => whnf
    refine ⟨by rw [List.length_map]; exact szl (show cs.length < 100000 by omega), ?_⟩
    array_get_dec
    refine hf _ _ ⟨cs ++ [c], _, .sh (.int (0 + k)), map_app cs c, by simp; omega, ?_, hd7, rfl⟩
    intro a ha
    rcases List.mem_append.mp ha with h | h
    · exact hlow a h
    · rw [List.mem_singleton] at h
      rw [h]; exact hm
/-- a row of drawn signs: the comprehension [signs[_law_take(deal, ..)] for i in range(..)] -/
theorem lc_word {gd : Env → Prop} {C : List D → Env → Prop} {i a dl : Nat} {signs : List Nat} {ke : E} {lo : Int} {cnt : Nat} {env : Env} (n : Nat) {d : D} {z : Slot} (hgd : ∀ e, gd e) (hi : env[i]? = some z) (hdl : env[dl]? = some (.ow d)) (ha : env[a]? = some (.sh (.str signs))) (n1 : i ≠ dl) (n2 : i ≠ a) (n3 : dl ≠ a)
    (hk : ∀ (e : Env) (B : R → Env → Prop), e[a]? = some (.sh (.str signs)) → B (.va (.int signs.length)) e → wE ke e B) (hd : Dl (n + cnt) d) (hs : 0 < signs.length) (hs2 : signs.length ≤ 10000) (hc : cnt ≤ 10000)
    (k : ∀ (cs : List Nat) (d' : D) (z : Slot), cs.length = cnt → (∀ c ∈ cs, c ∈ signs) → Dl n d' → C (cs.map fun c => D.str [c]) ((env.set dl (.ow d')).set i z)) :
    lcK gd (.nm i) (wT .yes) (wE (.ix (.v a) (.call nm__law_take sp__law_take [true, false] (.cons (.v dl) (.cons ke .nil))))) (rangeD lo cnt) [] env C := by
  have li : i < env.length := (List.getElem?_eq_some_iff.mp hi).1
  have ldl : dl < env.length := (List.getElem?_eq_some_iff.mp hdl).1
  have back : (env.set dl (.ow d)).set i z = env := by
    rw [set_same hdl, set_same hi]
  refine lc_range lo cnt (fun k acc e => ∃ (cs : List Nat) (d : D) (z : Slot), acc = cs.map (fun c => D.str [c]) ∧ cs.length = k ∧ (∀ c ∈ cs, c ∈ signs) ∧ Dl (n + cnt - k) d ∧ e = (env.set dl (.ow d)).set i z) ?_ ?_ _ ⟨[], d, z, rfl, rfl, (fun _ z => nomatch z), hd, back.symm⟩
  · rintro acc e ⟨cs, d6, z, rfl, hlen, hlow, hd6, rfl⟩
    exact ⟨hgd _, k cs d6 z hlen hlow (hd6.mono (by omega))⟩
  · rintro j acc e f hj ⟨cs, d6, z, rfl, hlen, hlow, hd6, rfl⟩ hf
    refine ⟨hgd _, ?_⟩
    simp only [tgt]
    rw [setK_iff]
    refine ⟨by simpa using li, ?_⟩
    rw [List.set_set]
    simp only [wT]
    refine ⟨fun _ => ?_, fun h => nomatch h⟩
    have ga : ((env.set dl (.ow d6)).set i (.sh (.int (lo + j))))[a]? = some (.sh (.str signs)) := by
      rw [List.getElem?_set_ne n2, List.getElem?_set_ne n3]; exact ha
    have gdl : ((env.set dl (.ow d6)).set i (.sh (.int (lo + j))))[dl]? = some (.ow d6) := by
      rw [List.getElem?_set_ne n1, List.getElem?_set_self ldl]
    simp only [wE, wEs]
    rw [getK_iff]
    refine ⟨_, ga, ?_⟩
    show getK _ dl _
    rw [getK_iff]
    refine ⟨_, gdl, ?_⟩
    refine hk _ _ ga ?_
    simp only [argK]
    rw [getK_iff]
    refine ⟨_, gdl, ?_⟩
    show setK _ dl .no _
    rw [setK_iff]
    refine ⟨by simpa using ldl, ?_⟩
    refine take_k (n := n + cnt - (j + 1)) (hd6.mono (by omega)) (by omega) fun v6 d7 hd7 v60 v61 => ?_
    obtain ⟨c, hc, hm⟩ := at_mem v60 v61
    simp only [outK]
    rw [setK_iff]
    refine ⟨by simpa using ldl, ?_⟩
    refine ⟨sz (by omega), _, hc, ?_⟩
    refine ⟨by rw [List.length_map]; exact szl (by omega), rfl, ?_⟩
    refine hf _ _ ⟨cs ++ [c], d7, .sh (.int (lo + j)), map_app cs c, by simp; omega, ?_, hd7, ?_⟩
    · intro a ha
      rcases List.mem_append.mp ha with h | h
      · exact hlow a h
      · rw [List.mem_singleton] at h
        rw [h]; exact hm
    · rw [List.set_set, List.set_comm _ _ n1, List.set_set]
theorem hk_int {signs : List Nat} {m : Nat} {a : Nat} (h : signs.length = m) : ∀ (e : Env) (B : R → Env → Prop), e[a]? = some (.sh (.str signs)) → B (.va (.int signs.length)) e → wE (.int m) e B := by
  intro e B _ hb
  rw [h] at hb
  exact hb
theorem told_k {a b : Bool} {C : R → List D → Prop} (k : C (.va (.bl (decide (a = b)))) []) : ∃ g : sp__law_told.G, sp__law_told.pre g [.bl a, .bl b] ∧ ∀ r outs, sp__law_told.post g r outs → C r outs := by
  refine ⟨(a, b), rfl, ?_⟩
  rintro _ _ ⟨rfl, rfl⟩
  exact k
theorem lawplain_k {C : R → List D → Prop} (k : C (.va (.str plainS)) []) : ∃ g : sp__law_plain.G, sp__law_plain.pre g [] ∧ ∀ r outs, sp__law_plain.post g r outs → C r outs := by
  refine ⟨(), rfl, ?_⟩
  rintro _ _ ⟨rfl, rfl⟩
  exact k
theorem plain_k {s : List Nat} {C : R → List D → Prop} (k : C (.va (.bl (isPlain s))) []) : ∃ g : sp_is_plain.G, sp_is_plain.pre g [.str s] ∧ ∀ r outs, sp_is_plain.post g r outs → C r outs := by
  refine ⟨s, ⟨rfl, trivial⟩, ?_⟩
  rintro _ _ ⟨rfl, rfl⟩
  exact k
theorem stranger_k {n : Nat} {d : D} {C : R → List D → Prop} (hd : Dl (n + 1) d) (k : ∀ c d', c ∈ oddS → Dl n d' → C (.va (.str [c])) [d']) : ∃ g : sp__law_stranger.G, sp__law_stranger.pre g [d] ∧ ∀ r outs, sp__law_stranger.post g r outs → C r outs := by
  refine ⟨(n, d), ⟨rfl, hd⟩, ?_⟩
  rintro _ _ ⟨c, d', rfl, rfl, h1, h2⟩
  exact k c d' h2 h1
theorem word_k {n most : Nat} {d : D} {signs : List Nat} {C : R → List D → Prop} (hd : Dl (n + most + 1) d) (h1 : 0 < signs.length) (h2 : signs.length ≤ 1000) (h3 : most ≤ 1000) (k : ∀ s d', s.length ≤ most → (∀ c ∈ s, c ∈ signs) → Dl n d' → C (.va (.str s)) [d']) :
    ∃ g : sp__law_word.G, sp__law_word.pre g [d, .str signs, .int most] ∧ ∀ r outs, sp__law_word.post g r outs → C r outs := by
  refine ⟨(n, d, signs, most), ⟨rfl, hd, h1, h2, h3⟩, ?_⟩
  rintro _ _ ⟨s, d', rfl, rfl, q1, q2, q3⟩
  exact k s d' q2 q3 q1
end PW

namespace PW
open PySem L2
local macro_rules
  | `(tactic| array_get_dec) => `(tactic| (conv => whnf) <;> repeat (first | refine And.intro rfl ?_ | refine And.intro (by assumption) ?_ | refine ⟨_, rfl, ?_⟩ | refine And.intro (Nat.le_of_ble_eq_true rfl) ?_ | refine And.intro (sz (by first | omega | (simp only [List.length_append, List.length_cons, List.length_nil, List.length_map]; omega))) ?_ | refine And.intro (szl (by first | omega | (simp only [List.length_append, List.length_cons, List.length_nil, List.length_map]; omega))) ?_ | refine And.intro (by decide) ?_ | refine And.intro (.inr (by decide)) ?_ | refine And.intro (fun _ => trivial) ?_ | refine And.intro (fun (h : false = true) => Bool.noConfusion h) (fun _ => ?_) | refine And.intro (fun _ => ?_) (fun (h : true = false) => Bool.noConfusion h) | refine And.intro ⟨by decide, by decide, by decide⟩ ?_); (conv => whnf))
theorem pick {α : Type} {ds : List α} {P : α → Prop} {v : Int} (h : ∀ d ∈ ds, P d) (h0 : 0 ≤ v) (h1 : v < ds.length) : ∃ d, atI ds v = some d ∧ P d := by
  obtain ⟨n, rfl⟩ := Int.eq_ofNat_of_zero_le h0
  have hn : n < ds.length := by omega
  exact ⟨ds[n], atI_nat (List.getElem?_eq_getElem hn), h _ (List.getElem_mem hn)⟩
def shortS (k : Nat) (d : D) : Prop := ∃ s, d = .str s ∧ s.length ≤ k
def natS (k : Nat) (d : D) : Prop := ∃ s : Nat, d = .int s ∧ s ≤ k
def posS (k : Nat) (d : D) : Prop := ∃ s : Nat, d = .int s ∧ 1 ≤ s ∧ s ≤ k
theorem drop_cons {α : Type} {cs : List α} {k : Nat} {c : α} (h : cs[k]? = some c) : cs.drop k = c :: cs.drop (k + 1) := by
  obtain ⟨hk, rfl⟩ := List.getElem?_eq_some_iff.mp h
  exact List.drop_eq_getElem_cons hk
/-! ### cuts of texts and lists -/
theorem cut_take {α : Type} (s : List α) (k : Nat) : cutL s none (some (k : Int)) = s.take k := by
  unfold cutL
  have h0 : six s.length 0 none = 0 := rfl
  have h1 : six s.length s.length (some (k : Int)) = min k s.length := by
    unfold six HT.sIx
    simp
    omega
  rw [h0, h1]
  simp
theorem cut_drop {α : Type} (s : List α) (k : Nat) : cutL s (some (k : Int)) none = s.drop k := by
  unfold cutL
  have h0 : six s.length s.length none = s.length := rfl
  have h1 : six s.length 0 (some (k : Int)) = min k s.length := by
    unfold six HT.sIx
    simp
    omega
  rw [h0, h1]
  rcases Nat.le_total k s.length with h | h
  · rw [Nat.min_eq_left h, List.take_of_length_le (by simp)]
  · rw [Nat.min_eq_right h, List.drop_length, List.drop_of_length_le h]
    simp
/-! ### groups of signs -/
def asc (g : List Nat) : Prop := g.Pairwise (· < ·)
structure okG (gs : List (List Nat)) : Prop where
  pos : 0 < gs.length
  few : gs.length ≤ 4
  ne : ∀ g ∈ gs, g ≠ []
  up : ∀ g ∈ gs, asc g
  nd : gs.flatten.Nodup
  pl : ∀ c ∈ gs.flatten, c ∈ plainS
theorem getD_at {α : Type} {l : List α} {i : Nat} (h : i < l.length) (d : α) : l.getD i d = l[i] := by
  rw [List.getD_eq_getElem?_getD, List.getElem?_eq_getElem h]; rfl
theorem plain_asc : asc plainS := by unfold asc; decide +kernel
theorem plain_len : plainS.length = 85 := rfl
theorem asc_nodup {g : List Nat} (h : asc g) : g.Nodup := h.imp fun {a b} q => by omega
theorem okG.len {gs : List (List Nat)} (h : okG gs) : gs.flatten.length ≤ 85 := by
  have := List.Nodup.length_le_of_subset h.nd (fun c hc => h.pl c hc)
  rwa [plain_len] at this
theorem mem_len {gs : List (List Nat)} {g : List Nat} (h : g ∈ gs) : g.length ≤ gs.flatten.length := by
  induction gs with
  | nil => cases h
  | cons a gs ih =>
    rw [List.flatten_cons, List.length_append]
    rcases List.mem_cons.mp h with rfl | h
    · omega
    · have := ih h; omega
theorem okG.glen {gs : List (List Nat)} (h : okG gs) {g : List Nat} (hg : g ∈ gs) : g.length ≤ 85 := Nat.le_trans (mem_len hg) h.len
/-- the signs of one class -/
def cls (pl : List Nat) (w sh m k : Nat) : List Nat := ((List.range 85).filter fun i => decide ((i + sh) / w % m = k)).map fun i => pl.getD i 0
theorem cls_asc {pl : List Nat} (hp : asc pl) (hl : pl.length = 85) (w sh m k : Nat) : asc (cls pl w sh m k) := by
  unfold cls asc
  rw [List.pairwise_map]
  have h1 : (List.range 85).Pairwise (· < ·) := List.pairwise_lt_range
  have h2 := h1.sublist (List.filter_sublist (p := fun i => decide ((i + sh) / w % m = k)))
  refine h2.imp_of_mem fun {a b} ha hb hab => ?_
  have a1 : a < 85 := List.mem_range.mp (List.mem_filter.mp ha).1
  have b1 : b < 85 := List.mem_range.mp (List.mem_filter.mp hb).1
  rw [getD_at (by omega), getD_at (by omega)]
  exact List.pairwise_iff_getElem.mp hp a b (by omega) (by omega) hab
theorem cls_mem {pl : List Nat} (hl : pl.length = 85) {w sh m k c : Nat} (h : c ∈ cls pl w sh m k) : c ∈ pl ∧ ∃ i, i < 85 ∧ (i + sh) / w % m = k ∧ pl[i]? = some c := by
  obtain ⟨i, hi, rfl⟩ := List.mem_map.mp h
  have a := List.mem_filter.mp hi
  have a1 : i < 85 := List.mem_range.mp a.1
  have a2 : (i + sh) / w % m = k := of_decide_eq_true a.2
  have e : pl.getD i 0 = pl[i] := getD_at (by omega) 0
  refine ⟨by rw [e]; exact List.getElem_mem _, i, a1, a2, by rw [e]; exact List.getElem?_eq_getElem _⟩
theorem cls_zero {pl : List Nat} {w sh m : Nat} (hw : 0 < w) (hw2 : w ≤ 17) (hs : sh < 85) (hm : 0 < m) (hm2 : m ≤ 5) : cls pl w sh m 0 ≠ [] := by
  -- the first multiple of w * m at or behind sh
  have hwm : w * m ≤ 85 := Nat.le_trans (Nat.mul_le_mul hw2 hm2) (by decide)
  have hp : 0 < w * m := Nat.mul_pos hw hm
  let q := (sh + w * m - 1) / (w * m)
  have h1 : sh ≤ q * (w * m) := by
    have := Nat.div_add_mod (sh + w * m - 1) (w * m)
    have h2 := Nat.mod_lt (sh + w * m - 1) hp
    have h3 : (w * m) * q + (sh + w * m - 1) % (w * m) = sh + w * m - 1 := this
    rw [Nat.mul_comm q]
    omega
  have h2 : q * (w * m) < sh + w * m := by
    have : q * (w * m) ≤ sh + w * m - 1 := Nat.div_mul_le_self _ _
    omega
  have h3 : (q * (w * m) - sh + sh) / w % m = 0 := by
    rw [Nat.sub_add_cancel h1, show q * (w * m) = w * (m * q) by rw [Nat.mul_comm q, Nat.mul_assoc], Nat.mul_div_cancel_left _ hw]
    exact Nat.mul_mod_right m q
  intro e
  have hm : pl.getD (q * (w * m) - sh) 0 ∈ cls pl w sh m 0 := List.mem_map_of_mem (List.mem_filter.mpr ⟨List.mem_range.mpr (by omega), decide_eq_true h3⟩)
  rw [e] at hm
  cases hm
theorem cls_ok {pl : List Nat} (hpl : pl = plainS) {w sh m : Nat} (hw : 0 < w) (hw2 : w ≤ 17) (hs : sh < 85) (hm : 0 < m) (hm2 : m ≤ 4) : okG (((List.range m).map (cls pl w sh (m + 1))).filter fun g => decide (g ≠ [])) := by
  have hp : asc pl := hpl ▸ plain_asc
  have hl : pl.length = 85 := hpl ▸ plain_len
  have mem : ∀ g ∈ ((List.range m).map (cls pl w sh (m + 1))).filter (fun g => decide (g ≠ [])), g ≠ [] ∧ ∃ k, k < m ∧ g = cls pl w sh (m + 1) k := fun g hg => by
    obtain ⟨h1, h2⟩ := List.mem_filter.mp hg
    obtain ⟨k, hk, rfl⟩ := List.mem_map.mp h1
    exact ⟨of_decide_eq_true h2, k, List.mem_range.mp hk, rfl⟩
  refine ⟨?_, ?_, fun g hg => (mem g hg).1, fun g hg => ?_, ?_, fun c hc => ?_⟩
  · have h0 : cls pl w sh (m + 1) 0 ∈ ((List.range m).map (cls pl w sh (m + 1))).filter (fun g => decide (g ≠ [])) :=
      List.mem_filter.mpr ⟨List.mem_map_of_mem (List.mem_range.mpr hm), decide_eq_true (cls_zero hw hw2 hs (by omega) (by omega))⟩
    exact List.length_pos_of_mem h0
  · refine Nat.le_trans (List.length_filter_le _ _) ?_
    rw [List.length_map, List.length_range]; exact hm2
  · obtain ⟨_, k, _, rfl⟩ := mem g hg
    exact cls_asc hp hl _ _ _ _
  · show List.Pairwise (· ≠ ·) _
    rw [List.pairwise_flatten]
    refine ⟨fun g hg => ?_, ?_⟩
    · obtain ⟨_, k, _, rfl⟩ := mem g hg
      exact asc_nodup (cls_asc hp hl _ _ _ _)
    · refine List.Pairwise.sublist List.filter_sublist ?_
      rw [List.pairwise_map]
      refine List.Pairwise.imp ?_ (List.pairwise_lt_range (n := m))
      intro a b hab x hx y hy e
      subst e
      obtain ⟨_, i, i1, i2, i3⟩ := cls_mem hl hx
      obtain ⟨_, j, j1, j2, j3⟩ := cls_mem hl hy
      have : i = j := by
        rcases Nat.lt_trichotomy i j with h | h | h
        · have := List.pairwise_iff_getElem.mp hp i j (by omega) (by omega) h
          rw [List.getElem?_eq_getElem (by omega)] at i3 j3
          injection i3 with i3; injection j3 with j3
          omega
        · exact h
        · have := List.pairwise_iff_getElem.mp hp j i (by omega) (by omega) h
          rw [List.getElem?_eq_getElem (by omega)] at i3 j3
          injection i3 with i3; injection j3 with j3
          omega
      subst this
      omega
  · obtain ⟨g, hg, hc⟩ := List.mem_flatten.mp hc
    obtain ⟨_, k, _, rfl⟩ := mem g hg
    exact hpl ▸ (cls_mem hl hc).1
def sp__law_groups : PSp where
  G := Nat × D
  pre | (n, d), ds => ds = [d] ∧ Dl (n + 50) d
  post | (n, _), r, outs => ∃ gs d, r = .ow (.lst (gs.map D.str)) ∧ outs = [d] ∧ Dl n d ∧ okG gs
theorem groups_k {n : Nat} {d : D} {C : R → List D → Prop} (hd : Dl (n + 50) d) (k : ∀ gs d', okG gs → Dl n d' → C (.ow (.lst (gs.map D.str))) [d']) : ∃ g : sp__law_groups.G, sp__law_groups.pre g [d] ∧ ∀ r outs, sp__law_groups.post g r outs → C r outs := by
  refine ⟨(n, d), ⟨rfl, hd⟩, ?_⟩
  rintro _ _ ⟨gs, d', rfl, rfl, h1, h2⟩
  exact k gs d' h2 h1
-- _law_groups ['deal', 'signs', 'many', 'groups', 'k', 'width', 'shift', 'group', 'turn', 'at', 'i'] mask [true] own ['deal', 'groups']
def nm__law_groups : PySem.Str := "_law_groups"
def ir__law_groups_1 : Ss :=
  .cons (.asg (.nm 9) (.fz (.call nm__law_take sp__law_take [true, false] (.cons (.v 0) (.cons (.cb .len (.cons (.v 1) .nil)) .nil))))) (.cons (.asg (.nm 7) (.op .Add (.v 7) (.ix (.v 1) (.v 9)))) (.cons (.asg (.nm 1) (.op .Add (.sl (.v 1) .no (.so (.v 9))) (.sl (.v 1) (.so (.op .Add (.v 9) (.int 1))) .no))) .nil))
def ir__law_groups_2 : Ss :=
  .cons (.asg (.nm 7) (.str [])) (.cons (.for (.nm 8) (.r1 (.ix (.lst (.cons (.int 1) (.cons (.int 1) (.cons (.int 1) (.cons (.int 2) (.cons (.int 3) .nil)))))) (.call nm__law_take sp__law_take [true, false] (.cons (.v 0) (.cons (.int 5) .nil))))) ir__law_groups_1) (.cons (.app 3 (.mt .join (.str []) (.cons (.cb .sorted (.cons (.v 7) .nil)) .nil))) .nil))
def ir__law_groups_3 : Ss :=
  .cons (.app 3 (.mt .join (.str []) (.cons (.lc (.nm 10) (.r1 (.int 85)) (.cmp .Eq (.op .Mod (.op .FloorDiv (.op .Add (.v 10) (.v 6)) (.v 5)) (.op .Add (.v 2) (.int 1))) (.v 4)) (.ix (.v 1) (.v 10))) .nil))) .nil
def ir__law_groups : Ss :=
  .cons (.asg (.nm 1) (.fz (.call nm__law_plain sp__law_plain [] (.nil)))) (.cons (.asg (.nm 2) (.fz (.op .Add (.int 1) (.call nm__law_take sp__law_take [true, false] (.cons (.v 0) (.cons (.int 4) .nil)))))) (.cons (.asg (.nm 3) (.lst (.nil))) (.cons (.ifs (.cmp .Eq (.call nm__law_take sp__law_take [true, false] (.cons (.v 0) (.cons (.int 4) .nil))) (.int 0)) (.cons (.asg (.nm 5) (.fz (.op .Add (.int 1) (.call nm__law_take sp__law_take [true, false] (.cons (.v 0) (.cons (.int 17) .nil)))))) (.cons (.asg (.nm 6) (.fz (.call nm__law_take sp__law_take [true, false] (.cons (.v 0) (.cons (.int 85) .nil))))) (.cons (.for (.nm 4) (.r1 (.v 2)) ir__law_groups_3) (.cons (.ret (.lc (.nm 7) (.sl 3) (.cmp .NotEq (.v 7) (.str [])) (.v 7))) .nil)))) (.nil)) (.cons (.for (.nm 4) (.r1 (.v 2)) ir__law_groups_2) (.cons (.ret (.mv 3)) .nil)))))


theorem str_app (P : List (List Nat)) (t : List Nat) : P.map D.str ++ [.str t] = (P ++ [t]).map D.str := by simp
theorem sign_app (cs : List Nat) (c : Nat) : cs.map (fun c => D.str [c]) ++ [.str [c]] = (cs ++ [c]).map fun c => D.str [c] := by simp
theorem sorted_ok {gs : List (List Nat)} {group signs pl cs : List Nat} (hpl : pl = plainS) (hp : (gs.flatten ++ (group ++ signs)).Perm pl) (hc : cs.Perm group) (hs : cs.Pairwise (· ≤ ·)) : asc cs ∧ ((gs ++ [cs]).flatten ++ signs).Perm pl := by
  have nd : pl.Nodup := hpl ▸ asc_nodup plain_asc
  have h1 := (hp.nodup_iff).mpr nd
  have h2 : group.Nodup := (List.nodup_append.mp (List.nodup_append.mp h1).2.1).1
  have h3 : cs.Nodup := (hc.nodup_iff).mpr h2
  refine ⟨?_, ?_⟩
  · exact List.Pairwise.imp (fun {a b} (q : a ≤ b ∧ a ≠ b) => by omega) (List.pairwise_and_iff.mpr ⟨hs, h3⟩)
  · rw [List.flatten_append, List.append_assoc]
    refine List.Perm.trans (List.Perm.append_left _ ?_) hp
    simp only [List.flatten_cons, List.flatten_nil, List.append_nil]
    exact List.Perm.append_right _ hc
theorem cor__law_groups : Cor sp__law_groups [true] 11 ir__law_groups := by
  rintro ⟨n, d⟩ ds ⟨rfl, hd⟩ hl
  clear hl
  have hd : Dl (n + 50) d := hd
  array_get_dec
  refine lawplain_k ?_
  obtain ⟨pl, hpl⟩ : ∃ pl, pl = plainS := ⟨_, rfl⟩
  rw [← hpl]
  have hl85 : pl.length = 85 := hpl ▸ plain_len
  array_get_dec
  refine take_k (n := n + 49) hd (by decide) fun v d1 hd1 v0 v1 => ?_
  obtain ⟨v, rfl⟩ := Int.eq_ofNat_of_zero_le v0
  have v1 : v < 4 := by omega
  have e1 : (1 : Int) + (v : Int) = ((v + 1 : Nat) : Int) := by omega
  array_get_dec
  rw [e1]
  refine take_k (n := n + 48) hd1 (by decide) fun u d2 hd2 u0 u1 => ?_
  array_get_dec
  refine ⟨fun q1 => ?_, fun q1 => ?_⟩
  · conv => whnf
    refine take_k (n := n + 47) hd2 (by decide) fun w d3 hd3 w0 w1 => ?_
    obtain ⟨w, rfl⟩ := Int.eq_ofNat_of_zero_le w0
    have w1 : w < 17 := by omega
    have e2 : (1 : Int) + (w : Int) = ((w + 1 : Nat) : Int) := by omega
    conv => whnf
    rw [e2]
    refine take_k (n := n + 46) hd3 (by decide) fun sh d4 hd4 s0 s1 => ?_
    obtain ⟨sh, rfl⟩ := Int.eq_ofNat_of_zero_le s0
    have s1 : sh < 85 := by omega
    conv => whnf
    refine ⟨⟨by omega, by omega⟩, ?_⟩
    conv => whnf
    refine ⟨fun _ => trivial, ?_⟩
    refine for_range 0 _ (fun k env => ∃ (x z : Slot), env = [.ow d4, .sh (.str pl), .sh (.int ((v + 1 : Nat) : Int)), .ow (.lst (((List.range k).map (cls pl (w + 1) sh (v + 1 + 1))).map D.str)), x, .sh (.int ((w + 1 : Nat) : Int)), .sh (.int sh), .no, .no, .no, z]) ?_ ?_ _ ⟨.no, .no, rfl⟩
    · rintro env ⟨x, z, rfl⟩
      have e3 : ((v + 1 : Nat) : Int).toNat = v + 1 := by omega
      rw [e3]
      have ok := cls_ok hpl (w := w + 1) (sh := sh) (m := v + 1) (by omega) (by omega) s1 (by omega) (by omega)
      have g4 : ((List.range (v + 1)).map (cls pl (w + 1) sh (v + 1 + 1))).length ≤ 4 := by rw [List.length_map, List.length_range]; omega
      generalize (List.range (v + 1)).map (cls pl (w + 1) sh (v + 1 + 1)) = gs at ok g4 ⊢
      conv => whnf
      refine ⟨leafy_strs gs, ?_⟩
      conv => whnf
      refine lc_list _ (fun j acc env => ∃ z2, acc = ((gs.take j).filter fun g => decide (g ≠ [])).map D.str ∧ env = [.ow d4, .sh (.str pl), .sh (.int ((v + 1 : Nat) : Int)), .ow (.lst (gs.map D.str)), x, .sh (.int ((w + 1 : Nat) : Int)), .sh (.int sh), z2, .no, .no, z]) ?_ ?_ _ ⟨.no, rfl, rfl⟩
      · rintro acc env ⟨z2, rfl, rfl⟩
        rw [List.length_map, List.take_length]
        refine ⟨rfl, ?_⟩
        conv => whnf
        exact ⟨_, d4, rfl, rfl, hd4.mono (by omega), ok⟩
      · rintro j d5 acc env f hd5 ⟨z2, rfl, rfl⟩ hf
        rw [List.getElem?_map] at hd5
        cases hc : gs[j]? with
        | none => rw [hc] at hd5; cases hd5
        | some g =>
          rw [hc] at hd5
          have hd5 : D.str g = d5 := by injection hd5
          subst hd5
          have hj := (List.getElem?_eq_some_iff.mp hc).1
          refine ⟨rfl, ?_⟩
          conv => whnf
          refine ⟨fun q2 => ?_, fun q2 => ?_⟩
          · have q2 : ¬ g = [] := by simpa using q2
            conv => whnf
            have h4 := ok.few
            refine ⟨szl (by rw [List.length_map]; exact Nat.lt_of_le_of_lt (List.length_filter_le _ _) (by rw [List.length_take]; omega)), ?_⟩
            conv => whnf
            refine ⟨rfl, hf _ _ ⟨_, ?_, rfl⟩⟩
            rw [List.take_add_one, hc, List.filter_append]
            simp [q2]
          · have q2 : g = [] := by simpa using q2
            refine hf _ _ ⟨_, ?_, rfl⟩
            rw [List.take_add_one, hc, List.filter_append]
            simp [q2]
    · rintro k env f hk ⟨x, z, rfl⟩ hf
      have hk : k < v + 1 := by omega
      array_get_dec
      refine lc_range 0 _ (fun j acc env => ∃ z2, acc = (((List.range j).filter fun i => decide ((i + sh) / (w + 1) % (v + 1 + 1) = k)).map fun i => pl.getD i 0).map (fun c => D.str [c]) ∧ env = [.ow d4, .sh (.str pl), .sh (.int ((v + 1 : Nat) : Int)), .ow (.lst (((List.range k).map (cls pl (w + 1) sh (v + 1 + 1))).map D.str)), .sh (.int (0 + (k : Int))), .sh (.int ((w + 1 : Nat) : Int)), .sh (.int sh), .no, .no, .no, z2]) ?_ ?_ _ ⟨.no, rfl, rfl⟩
      · rintro acc env ⟨z2, rfl, rfl⟩
        refine ⟨trivial, ?_⟩
        conv => whnf
        have e4 : (((List.range (Int.toNat 85)).filter fun i => decide ((i + sh) / (w + 1) % (v + 1 + 1) = k)).map fun i => pl.getD i 0) = cls pl (w + 1) sh (v + 1 + 1) k := rfl
        have hlen : (cls pl (w + 1) sh (v + 1 + 1) k).length ≤ 85 := by
          rw [← e4, List.length_map]
          exact Nat.le_trans (List.length_filter_le _ _) (by rw [List.length_range]; decide)
        rw [e4]
        refine ⟨(cls pl (w + 1) sh (v + 1 + 1) k).map fun c => [c], join_a _, join_b (by omega), ?_⟩
        rw [joinT_one]
        conv => whnf
        refine ⟨szl (by rw [List.length_map, List.length_map, List.length_range]; omega), ?_⟩
        conv => whnf
        refine ⟨rfl, ?_⟩
        conv => whnf
        rw [str_app]
        refine hf _ ⟨.sh (.int (0 + (k : Int))), z.keep, ?_⟩
        simp [List.range_succ]
      · rintro j acc env g hj ⟨z2, rfl, rfl⟩ hg
        have hj : j < 85 := hj
        refine ⟨trivial, ?_⟩
        conv => whnf
        refine ⟨⟨by omega, by omega⟩, ?_⟩
        conv => whnf
        refine ⟨by omega, ?_⟩
        conv => whnf
        have e5 : (0 + (j : Int) + (sh : Int)) / ((w + 1 : Nat) : Int) % (((v + 1 : Nat) : Int) + 1) = (((j + sh) / (w + 1) % (v + 1 + 1) : Nat) : Int) := by
          rw [Int.zero_add]
          exact_mod_cast rfl
        rw [e5]
        have hjl : j < pl.length := by omega
        refine ⟨fun q2 => ?_, fun q2 => ?_⟩
        · have q2 : (j + sh) / (w + 1) % (v + 1 + 1) = k := by
            have := of_decide_eq_true q2
            omega
          conv => whnf
          refine ⟨sz (by omega), pl.getD j 0, ?_, ?_⟩
          · rw [Int.zero_add, getD_at hjl]
            exact atI_nat (List.getElem?_eq_getElem hjl)
          conv => whnf
          refine ⟨szl (by rw [List.length_map, List.length_map]; exact Nat.lt_of_le_of_lt (List.length_filter_le _ _) (by rw [List.length_range]; omega)), ?_⟩
          conv => whnf
          refine ⟨rfl, hg _ _ ⟨_, ?_, rfl⟩⟩
          rw [List.range_succ, List.filter_append]
          simp [q2]
        · have q2 : ¬ (j + sh) / (w + 1) % (v + 1 + 1) = k := by
            have := of_decide_eq_false q2
            omega
          refine hg _ _ ⟨_, ?_, rfl⟩
          rw [List.range_succ, List.filter_append]
          simp [q2]
  · conv => whnf
    refine ⟨⟨by omega, by omega⟩, ?_⟩
    conv => whnf
    refine ⟨fun _ => trivial, ?_⟩
    refine for_range 0 _ (fun k env => ∃ (gs : List (List Nat)) (signs : List Nat) (d3 : D) (x y z w : Slot), gs.length = k ∧ (∀ g ∈ gs, g ≠ [] ∧ asc g) ∧ (gs.flatten ++ signs).Perm pl ∧ 85 ≤ signs.length + 3 * k ∧ Dl (n + 48 - 4 * k) d3 ∧ env = [.ow d3, .sh (.str signs), .sh (.int ((v + 1 : Nat) : Int)), .ow (.lst (gs.map D.str)), x, .no, .no, y, z, w, .no]) ?_ ?_ _ ⟨[], pl, d2, .no, .no, .no, .no, rfl, (fun _ z => nomatch z), List.Perm.refl _, by omega, hd2, rfl⟩
    · rintro env ⟨gs, signs, d3, x, y, z, w, hlen, hgs, hp, hsl, hd3, rfl⟩
      have hlen : gs.length = v + 1 := by omega
      array_get_dec
      have nd : pl.Nodup := hpl ▸ asc_nodup plain_asc
      have h1 := (hp.nodup_iff).mpr nd
      exact ⟨gs, d3, rfl, rfl, hd3.mono (by omega), by omega, by omega, fun g hg => (hgs g hg).1, fun g hg => (hgs g hg).2, (List.nodup_append.mp h1).1, fun c hc => hpl ▸ hp.mem_iff.mp (List.mem_append_left _ hc)⟩
    · rintro k env f hk ⟨gs, signs, d3, x, y, z, w, hlen, hgs, hp, hsl, hd3, rfl⟩ hf
      have hk : k < v + 1 := by omega
      array_get_dec
      refine take_k (n := n + 48 - 4 * k - 1) (hd3.mono (by omega)) (by decide) fun v4 d4 hd4 v40 v41 => ?_
      obtain ⟨e4, h4, t4, rfl, ht4, ht5⟩ := pick (P := posS 3) (ds := [D.int 1, .int 1, .int 1, .int 2, .int 3]) (by intro d hd; simp only [List.mem_cons, List.not_mem_nil, or_false] at hd; rcases hd with rfl | rfl | rfl | rfl | rfl <;> exact ⟨_, rfl, by decide, by decide⟩) v40 v41
      array_get_dec
      refine ⟨_, h4, ?_⟩
      conv => whnf
      refine ⟨⟨by omega, by omega⟩, ?_⟩
      conv => whnf
      refine ⟨fun _ => trivial, ?_⟩
      refine for_range 0 _ (fun t env => ∃ (group signs : List Nat) (d5 : D) (z w : Slot), group.length = t ∧ (gs.flatten ++ (group ++ signs)).Perm pl ∧ 85 ≤ signs.length + 3 * k + t ∧ Dl (n + 48 - 4 * k - 1 - t) d5 ∧ env = [.ow d5, .sh (.str signs), .sh (.int ((v + 1 : Nat) : Int)), .ow (.lst (gs.map D.str)), .sh (.int (0 + (k : Int))), .no, .no, .sh (.str group), z, w, .no]) ?_ ?_ _ ⟨[], signs, d4, z, w, rfl, hp, by omega, hd4, rfl⟩
      · rintro env ⟨group, signs, d5, z, w, hgl, hgp, hsl2, hd5, rfl⟩
        have hgl : group.length = t4 := by omega
        conv => whnf
        refine ⟨rfl, ?_⟩
        conv => whnf
        refine ⟨sz (by omega), fun cs hc1 hc2 => ?_⟩
        have hcl : cs.length = t4 := by rw [hc1.length_eq]; exact hgl
        obtain ⟨o1, o2⟩ := sorted_ok hpl hgp hc1 hc2
        conv => whnf
        refine ⟨cs.map fun c => [c], join_a _, join_b (by omega), ?_⟩
        rw [joinT_one]
        conv => whnf
        refine ⟨szl (by rw [List.length_map]; omega), ?_⟩
        conv => whnf
        refine ⟨rfl, ?_⟩
        conv => whnf
        refine hf _ ⟨gs ++ [cs], signs, d5, _, _, _, _, by simp [hlen], ?_, o2, by omega, hd5.mono (by omega), by rw [str_app]⟩
        intro g hg
        rcases List.mem_append.mp hg with h | h
        · exact hgs g h
        · rw [List.mem_singleton] at h
          subst h
          refine ⟨fun e => ?_, o1⟩
          rw [e] at hcl
          simp at hcl
          omega
      · rintro t env g ht ⟨group, signs, d5, z, w, hgl, hgp, hsl2, hd5, rfl⟩ hg
        have ht : t < t4 := by omega
        have s85 : signs.length ≤ 85 := by
          have := hgp.length_eq
          rw [List.length_append, List.length_append, hl85] at this
          omega
        conv => whnf
        refine ⟨sz (by omega), ?_⟩
        conv => whnf
        refine take_k (n := n + 48 - 4 * k - 1 - (t + 1)) (hd5.mono (by omega)) (by omega) fun v6 d6 hd6 v60 v61 => ?_
        obtain ⟨at', rfl⟩ := Int.eq_ofNat_of_zero_le v60
        have v61 : at' < signs.length := by omega
        have hs : signs[at']? = some signs[at'] := List.getElem?_eq_getElem v61
        have e7 : ((at' : Int) + 1) = ((at' + 1 : Nat) : Int) := rfl
        conv => whnf
        refine ⟨sz (by omega), _, atI_nat hs, ?_⟩
        conv => whnf
        refine ⟨sz (by simp; omega), ?_⟩
        conv => whnf
        refine ⟨sz (by omega), ?_⟩
        conv => whnf
        refine ⟨sz (by omega), ?_⟩
        rw [e7, cut_take, cut_drop]
        conv => whnf
        refine ⟨sz (by rw [List.length_take, List.length_drop]; omega), ?_⟩
        conv => whnf
        refine hg _ ⟨group ++ [signs[at']], signs.take at' ++ signs.drop (at' + 1), d6, _, _, by simp [hgl], ?_, ?_, hd6, rfl⟩
        · refine List.Perm.trans (List.Perm.append_left _ ?_) hgp
          rw [List.append_assoc]
          refine List.Perm.append_left _ ?_
          have e8 : signs = signs.take at' ++ (signs[at'] :: signs.drop (at' + 1)) := by
            rw [← List.drop_eq_getElem_cons v61, List.take_append_drop]
          conv => rhs; rw [e8]
          rw [List.singleton_append]
          exact List.perm_middle.symm
        · rw [List.length_append, List.length_take, List.length_drop]
          omega

end PW

namespace PW
open PySem L2
local macro_rules
  | `(tactic| array_get_dec) => `(tactic| (conv => whnf) <;> repeat (first | refine And.intro rfl ?_ | refine And.intro (by assumption) ?_ | refine ⟨_, rfl, ?_⟩ | refine And.intro (Nat.le_of_ble_eq_true rfl) ?_ | refine And.intro (sz (by first | omega | (simp only [List.length_append, List.length_cons, List.length_nil, List.length_map]; omega))) ?_ | refine And.intro (szl (by first | omega | (simp only [List.length_append, List.length_cons, List.length_nil, List.length_map]; omega))) ?_ | refine And.intro (by decide) ?_ | refine And.intro (.inr (by decide)) ?_ | refine And.intro (fun _ => trivial) ?_ | refine And.intro (fun (h : false = true) => Bool.noConfusion h) (fun _ => ?_) | refine And.intro (fun _ => ?_) (fun (h : true = false) => Bool.noConfusion h) | refine And.intro ⟨by decide, by decide, by decide⟩ ?_); (conv => whnf))
/-! ### kinds -/
abbrev Mv := List Nat × Nat
abbrev Stt := Bool × List Mv
def mvL (m : Mv) : D := .lst [.str m.1, .int m.2]
def stL (s : Stt) : D := .lst [.bl s.1, .lst (s.2.map mvL)]
def mvT (m : Mv) : D := .tup [.str m.1, .int m.2]
def stT (s : Stt) : D := .tup [.bl s.1, .tup (s.2.map mvT)]
def kindD (k : List Stt) : D := .tup (k.map stT)
def sgn (ms : List Mv) : List Nat := (ms.map (·.1)).flatten
structure okM (n : Nat) (ms : List Mv) : Prop where
  few : ms.length ≤ 5
  ne : ∀ m ∈ ms, m.1 ≠ []
  up : ∀ m ∈ ms, asc m.1
  lt : ∀ m ∈ ms, m.2 < n
  nd : (sgn ms).Nodup
  pl : ∀ c ∈ sgn ms, c ∈ plainS
theorem okM.of {n : Nat} {ms ms' : List Mv} (h : okM n ms) (few : ms'.length ≤ 5) (q : ∀ m ∈ ms', m.1 ≠ [] ∧ asc m.1 ∧ m.2 < n) (p : (sgn ms').Perm (sgn ms)) : okM n ms' :=
  ⟨few, fun m hm => (q m hm).1, fun m hm => (q m hm).2.1, fun m hm => (q m hm).2.2, p.nodup_iff.mpr h.nd, fun c hc => h.pl c (p.mem_iff.mp hc)⟩
theorem okM.at {n : Nat} {ms : List Mv} (h : okM n ms) {m : Mv} (hm : m ∈ ms) : m.1 ≠ [] ∧ asc m.1 ∧ m.2 < n := ⟨h.ne m hm, h.up m hm, h.lt m hm⟩
theorem sgn_app (a b : List Mv) : sgn (a ++ b) = sgn a ++ sgn b := by unfold sgn; rw [List.map_append, List.flatten_append]
theorem sgn_cons (a : Mv) (b : List Mv) : sgn (a :: b) = a.1 ++ sgn b := rfl
theorem sgn_mem {ms : List Mv} {m : Mv} (h : m ∈ ms) : m.1.length ≤ (sgn ms).length := mem_len (List.mem_map_of_mem h)
theorem okM.slen {n : Nat} {ms : List Mv} (h : okM n ms) : (sgn ms).length ≤ 85 := by
  have := List.Nodup.length_le_of_subset h.nd (fun c hc => h.pl c hc)
  rwa [plain_len] at this
theorem okM.mlen {n : Nat} {ms : List Mv} (h : okM n ms) {m : Mv} (hm : m ∈ ms) : m.1.length ≤ 85 := Nat.le_trans (sgn_mem hm) h.slen
theorem okM.rev {n : Nat} {ms : List Mv} (h : okM n ms) : okM n ms.reverse :=
  h.of (by rw [List.length_reverse]; exact h.few) (fun m hm => h.at (List.mem_reverse.mp hm)) (List.Perm.flatten (ms.reverse_perm.map _))
theorem sub_flat {α : Type} {a b : List (List α)} (h : a.Sublist b) : a.flatten.Sublist b.flatten := by
  induction h with
  | slnil => exact List.Sublist.refl _
  | cons x _ ih => rw [List.flatten_cons]; exact ih.trans (List.sublist_append_right _ _)
  | cons_cons x _ ih => rw [List.flatten_cons, List.flatten_cons]; exact (List.Sublist.refl x).append ih
theorem okM.sub {n : Nat} {ms : List Mv} {gs : List (List Nat)} (hg : okG gs) (s : (ms.map (·.1)).Sublist gs) (lt : ∀ m ∈ ms, m.2 < n) : okM n ms := by
  have mem : ∀ m ∈ ms, m.1 ∈ gs := fun m hm => s.subset (List.mem_map_of_mem hm)
  have fs : (sgn ms).Sublist gs.flatten := sub_flat s
  refine ⟨?_, fun m hm => hg.ne _ (mem m hm), fun m hm => hg.up _ (mem m hm), lt, fs.nodup hg.nd, fun c hc => hg.pl c (fs.subset hc)⟩
  have := s.length_le
  rw [List.length_map] at this
  have := hg.few
  omega
theorem okM.merge {n : Nat} {m0 last : Mv} {mid : List Mv} {cs : List Nat} (h : okM n (m0 :: (mid ++ [last]))) (hc : cs.Perm (m0.1 ++ last.1)) (hs : cs.Pairwise (· ≤ ·)) : okM n ((cs, last.2) :: mid) := by
  have p : (sgn ((cs, last.2) :: mid)).Perm (sgn (m0 :: (mid ++ [last]))) := by
    rw [sgn_cons, sgn_cons, sgn_app]
    refine (hc.append_right _).trans ?_
    rw [List.append_assoc]
    refine List.Perm.append_left _ ?_
    have e : sgn [last] = last.1 := by simp [sgn]
    rw [e]
    exact List.perm_append_comm
  have nd := (p.nodup_iff).mpr h.nd
  have cn : cs.Nodup := by rw [sgn_cons] at nd; exact (List.nodup_append.mp nd).1
  refine h.of ?_ (fun m hm => ?_) p
  · have := h.few; simp at this ⊢; omega
  · rcases List.mem_cons.mp hm with rfl | hm
    · refine ⟨fun e => ?_, List.Pairwise.imp (fun {a b} (q : a ≤ b ∧ a ≠ b) => by omega) (List.pairwise_and_iff.mpr ⟨hs, cn⟩), (h.at (m := last) (by simp)).2.2⟩
      have hl := hc.length_eq
      have e : cs = [] := e
      rw [e] at hl
      have := (h.at (m := last) (by simp)).1
      have h2 := List.length_pos_iff.mpr this
      simp at hl
      omega
    · exact h.at (by simp [hm])
theorem okM.split {n v : Nat} {ms : List Mv} {m : Mv} (h : okM n (ms ++ [m])) (hf : ms.length ≤ 3) (hl : 1 < m.1.length) (hv : v < n) : okM n ((ms ++ [(m.1.drop 1, m.2)]) ++ [(m.1.take 1, v)]) := by
  have hm := h.at (m := m) (by simp)
  refine h.of (by simp; omega) (fun x hx => ?_) ?_
  · rcases List.mem_append.mp hx with hx | hx
    · rcases List.mem_append.mp hx with hx | hx
      · exact h.at (List.mem_append_left _ hx)
      · rw [List.mem_singleton] at hx; subst hx
        exact ⟨fun e => by have := congrArg List.length e; simp at this; omega, hm.2.1.sublist (List.drop_sublist _ _), hm.2.2⟩
    · rw [List.mem_singleton] at hx; subst hx
      exact ⟨fun e => by have := congrArg List.length e; simp at this; rw [this] at hl; simp at hl, hm.2.1.sublist (List.take_sublist _ _), hv⟩
  · simp only [sgn_app, List.append_assoc]
    refine List.Perm.append_left _ ?_
    have e1 : sgn [(m.1.drop 1, m.2)] = m.1.drop 1 := by simp [sgn]
    have e2 : sgn [(m.1.take 1, v)] = m.1.take 1 := by simp [sgn]
    have e3 : sgn [m] = m.1 := by simp [sgn]
    rw [e1, e2, e3]
    refine List.perm_append_comm.trans ?_
    rw [List.take_append_drop]
structure okK (k : List Stt) : Prop where
  ne : k ≠ []
  ms : ∀ s ∈ k, okM k.length s.2
theorem mv_app (ms : List Mv) (g : List Nat) (t : Nat) : ms.map mvL ++ [.lst [.str g, .int t]] = (ms ++ [(g, t)]).map mvL := by simp [mvL]
theorem st_app' (k : List Stt) (b : Bool) (ms : List Mv) : k.map stL ++ [.lst [.bl b, .lst (ms.map mvL)]] = (k ++ [(b, ms)]).map stL := by simp [stL]
theorem last_at {α : Type} (a : List α) (x : α) : atI (a ++ [x]) (-1) = some x := by
  unfold atI ixN
  have h : ¬ ((0 : Int) ≤ -1) := by decide
  have e : (-1 + ((a.length : Int) + 1)).toNat = a.length := by omega
  have e2 : (1 : Int) ≤ (a.length : Int) + 1 := by omega
  simp [h, e, e2]
theorem first_at {α : Type} (a : List α) (x : α) : atI (x :: a) 0 = some x := atI_nat (j := 0) rfl
def sp__law_states : PSp where
  G := Nat × D × List (List Nat) × Nat
  pre | (n, d, gs, most), ds => ds = [d, .lst (gs.map D.str), .int most] ∧ Dl (n + 200) d ∧ okG gs ∧ 1 ≤ most ∧ most ≤ 20
  post | (n, _, _, most), r, outs => ∃ k d, r = .ow (.lst (k.map stL)) ∧ outs = [d] ∧ Dl n d ∧ okK k ∧ k.length ≤ most
theorem states_k {n most : Nat} {d : D} {gs : List (List Nat)} {C : R → List D → Prop} (hd : Dl (n + 200) d) (hg : okG gs) (m1 : 1 ≤ most) (m2 : most ≤ 20) (kk : ∀ k d', okK k → k.length ≤ most → Dl n d' → C (.ow (.lst (k.map stL))) [d']) : ∃ g : sp__law_states.G, sp__law_states.pre g [d, .lst (gs.map D.str), .int most] ∧ ∀ r outs, sp__law_states.post g r outs → C r outs := by
  refine ⟨(n, d, gs, most), ⟨rfl, hd, hg, m1, m2⟩, ?_⟩
  rintro _ _ ⟨k, d', rfl, rfl, h1, h2, h3⟩
  exact kk k d' h2 h3 h1
-- _law_states ['deal', 'groups', 'most', 'size', 'states', 'k', 'moves', 'group', 'target', 'last'] mask [true, false, false] own ['deal', 'moves', 'states']
def nm__law_states : PySem.Str := "_law_states"
def ir__law_states_1 : Ss :=
  .cons (.asg (.nm 8) (.fz (.call nm__law_take sp__law_take [true, false] (.cons (.v 0) (.cons (.op .Add (.op .Add (.v 3) (.op .FloorDiv (.v 3) (.int 2))) (.int 1)) .nil))))) (.cons (.ifs (.cmp .Lt (.v 8) (.v 3)) (.cons (.app 6 (.lst (.cons (.v 7) (.cons (.v 8) .nil)))) .nil) (.nil)) .nil)
def ir__law_states_2 : Ss :=
  .cons (.asg (.nm 6) (.lst (.nil))) (.cons (.for (.nm 7) (.sq (.v 1)) ir__law_states_1) (.cons (.ifs (.an (.cmp .Gt (.cb .len (.cons (.v 6) .nil)) (.int 1)) (.an (.cmp .Eq (.ix (.ix (.v 6) (.int 0)) (.int 1)) (.ix (.ix (.v 6) (.neg (.int 1))) (.int 1))) (.cmp .Eq (.call nm__law_take sp__law_take [true, false] (.cons (.v 0) (.cons (.int 2) .nil))) (.int 0)))) (.cons (.asg (.nm 9) (.pop 6)) (.cons (.set 6 (.int 0) (.lst (.cons (.mt .join (.str []) (.cons (.cb .sorted (.cons (.op .Add (.ix (.ix (.v 6) (.int 0)) (.int 0)) (.ix (.v 9) (.int 0))) .nil)) .nil)) (.cons (.ix (.v 9) (.int 1)) .nil)))) .nil)) (.nil)) (.cons (.ifs (.an (.cmp .Gt (.cb .len (.cons (.v 6) .nil)) (.int 0)) (.an (.cmp .Gt (.cb .len (.cons (.ix (.ix (.v 6) (.neg (.int 1))) (.int 0)) .nil)) (.int 1)) (.cmp .Eq (.call nm__law_take sp__law_take [true, false] (.cons (.v 0) (.cons (.int 4) .nil))) (.int 0)))) (.cons (.asg (.nm 9) (.pop 6)) (.cons (.app 6 (.lst (.cons (.sl (.ix (.v 9) (.int 0)) (.so (.int 1)) .no) (.cons (.ix (.v 9) (.int 1)) .nil)))) (.cons (.app 6 (.lst (.cons (.sl (.ix (.v 9) (.int 0)) .no (.so (.int 1))) (.cons (.call nm__law_take sp__law_take [true, false] (.cons (.v 0) (.cons (.v 3) .nil))) .nil)))) .nil))) (.nil)) (.cons (.ifs (.cmp .Eq (.call nm__law_take sp__law_take [true, false] (.cons (.v 0) (.cons (.int 2) .nil))) (.int 0)) (.cons (.rev 6) .nil) (.nil)) (.cons (.app 4 (.lst (.cons (.cmp .Eq (.call nm__law_take sp__law_take [true, false] (.cons (.v 0) (.cons (.int 3) .nil))) (.int 0)) (.cons (.mv 6) .nil)))) .nil)))))
def ir__law_states : Ss :=
  .cons (.asg (.nm 3) (.fz (.op .Add (.int 1) (.call nm__law_take sp__law_take [true, false] (.cons (.v 0) (.cons (.v 2) .nil)))))) (.cons (.asg (.nm 4) (.lst (.nil))) (.cons (.for (.nm 5) (.r1 (.v 3)) ir__law_states_2) (.cons (.ret (.mv 4)) .nil)))


theorem statesA (n size : Nat) (hs : 1 ≤ size) (hs2 : size ≤ 20) (gs : List (List Nat)) (hg : okG gs) (c2 c4 c5 x7 x8 x9 : Slot) (d : D) (hd : Dl (n + 4) d) (K : KS)
    (hK : ∀ (ms : List Mv) (d : D) (x7 x8 : Slot), (ms.map (·.1)).Sublist gs → (∀ m ∈ ms, m.2 < size) → Dl n d → K.nx [.ow d, .sh (.lst (gs.map D.str)), c2, .sh (.int size), c4, c5, .ow (.lst (ms.map mvL)), x7, x8, x9]) :
    wFor (.nm 7) (wSs ir__law_states_1) K (gs.map D.str) [.ow d, .sh (.lst (gs.map D.str)), c2, .sh (.int size), c4, c5, .ow (.lst []), x7, x8, x9] := by
  have h4 := hg.few
  refine for_list _ (fun j env => ∃ (ms : List Mv) (d : D) (x7 x8 : Slot), (ms.map (·.1)).Sublist (gs.take j) ∧ (∀ m ∈ ms, m.2 < size) ∧ Dl (n + 4 - j) d ∧ env = [.ow d, .sh (.lst (gs.map D.str)), c2, .sh (.int size), c4, c5, .ow (.lst (ms.map mvL)), x7, x8, x9]) ?_ ?_ _ ⟨[], d, x7, x8, List.Sublist.refl _, (fun _ z => nomatch z), hd, rfl⟩
  · rintro env ⟨ms, d, x7, x8, h1, h2, h3, rfl⟩
    rw [List.length_map, List.take_length] at h1
    exact hK ms d x7 x8 h1 h2 (h3.mono (by rw [List.length_map]; omega))
  · rintro j dg env f hdg ⟨ms, d, x7, x8, h1, h2, h3, rfl⟩ hf
    rw [List.getElem?_map] at hdg
    cases hc : gs[j]? with
    | none => rw [hc] at hdg; cases hdg
    | some g =>
      rw [hc] at hdg
      have hdg : D.str g = dg := by injection hdg
      subst hdg
      have hj := (List.getElem?_eq_some_iff.mp hc).1
      have e1 : gs.take (j + 1) = gs.take j ++ [g] := by rw [List.take_add_one, hc]; rfl
      have e2 : ((size : Int) + (size : Int) / 2 + 1) = ((size + size / 2 + 1 : Nat) : Int) := by omega
      conv => whnf
      refine ⟨by decide, ?_⟩
      conv => whnf
      rw [e2]
      refine take_k (n := n + 4 - (j + 1)) (h3.mono (by omega)) (by omega) fun v d' hd' v0 v1 => ?_
      obtain ⟨v, rfl⟩ := Int.eq_ofNat_of_zero_le v0
      conv => whnf
      refine ⟨fun q => ?_, fun q => ?_⟩
      · have q : v < size := by have := of_decide_eq_true q; omega
        have hml : ms.length ≤ 4 := by
          have := h1.length_le
          rw [List.length_map, List.length_take] at this
          omega
        array_get_dec
        rw [mv_app]
        refine hf _ ⟨ms ++ [(g, v)], d', _, _, ?_, ?_, hd', rfl⟩
        · rw [e1, List.map_append]
          exact h1.append (List.Sublist.refl _)
        · intro m hm
          rcases List.mem_append.mp hm with hm | hm
          · exact h2 m hm
          · rw [List.mem_singleton] at hm; subst hm; exact q
      · refine hf _ ⟨ms, d', _, _, ?_, h2, hd', rfl⟩
        rw [e1]
        exact h1.trans (List.sublist_append_left _ _)

theorem stA3 (n size : Nat) (hs : 1 ≤ size) (hs2 : size ≤ 20) (c1 c2 x5 : Slot) (st : List Stt) (K : KS) (hl : st.length ≤ 20)
    (hK : ∀ (b : Bool) (ms : List Mv) (d : D) (x7 x8 x9 : Slot), okM size ms → Dl n d → K.nx [.ow d, c1, c2, .sh (.int size), .ow (.lst ((st ++ [(b, ms)]).map stL)), x5, .no, x7, x8, x9])
    (ms : List Mv) (hm : okM size ms) (x7 x8 x9 : Slot) (d : D) (hd : Dl (n + 2) d) :
    wSs (tailS 4 ir__law_states_2) [.ow d, c1, c2, .sh (.int size), .ow (.lst (st.map stL)), x5, .ow (.lst (ms.map mvL)), x7, x8, x9] K := by
  have tail : ∀ (ms : List Mv), okM size ms → ∀ (d : D), Dl (n + 1) d → wSs (tailS 5 ir__law_states_2) [.ow d, c1, c2, .sh (.int size), .ow (.lst (st.map stL)), x5, .ow (.lst (ms.map mvL)), x7, x8, x9] K := by
    intro ms hm d hd
    conv => whnf
    refine take_k (n := n) hd (by decide) fun v d1 hd1 v0 v1 => ?_
    array_get_dec
    rw [st_app']
    exact hK _ _ _ _ _ _ hm hd1
  conv => whnf
  refine take_k (n := n + 1) hd (by decide) fun v d1 hd1 v0 v1 => ?_
  conv => whnf
  refine ⟨fun q => ?_, fun q => ?_⟩
  · conv => whnf
    have e : (ms.map mvL).reverse = ms.reverse.map mvL := by rw [List.map_reverse]
    rw [e]
    exact tail _ hm.rev _ hd1
  · exact tail _ hm _ hd1
theorem stA2 (n size : Nat) (hs : 1 ≤ size) (hs2 : size ≤ 20) (c1 c2 x5 : Slot) (st : List Stt) (K : KS) (hl : st.length ≤ 20)
    (hK : ∀ (b : Bool) (ms : List Mv) (d : D) (x7 x8 x9 : Slot), okM size ms → Dl n d → K.nx [.ow d, c1, c2, .sh (.int size), .ow (.lst ((st ++ [(b, ms)]).map stL)), x5, .no, x7, x8, x9])
    (ms : List Mv) (hm : okM size ms) (hf : ms.length ≤ 4) (x7 x8 x9 : Slot) (d : D) (hd : Dl (n + 4) d) :
    wSs (tailS 3 ir__law_states_2) [.ow d, c1, c2, .sh (.int size), .ow (.lst (st.map stL)), x5, .ow (.lst (ms.map mvL)), x7, x8, x9] K := by
  have tail : ∀ (ms : List Mv), okM size ms → ∀ (d : D) (x9 : Slot), Dl (n + 2) d → wSs (tailS 4 ir__law_states_2) [.ow d, c1, c2, .sh (.int size), .ow (.lst (st.map stL)), x5, .ow (.lst (ms.map mvL)), x7, x8, x9] K := fun ms hm d x9 hd => stA3 n size hs hs2 c1 c2 x5 st K hl hK ms hm x7 x8 x9 d hd
  conv => whnf
  refine ⟨fun q => ?_, fun q => ?_⟩
  rotate_left
  · refine ⟨fun h => Bool.noConfusion h, fun _ => ?_⟩
    exact tail _ hm _ _ (hd.mono (by omega))
  have q : 0 < ms.length := by have := of_decide_eq_true q; rw [List.length_map] at this; omega
  obtain ⟨ms', m, rfl⟩ : ∃ ms' m, ms = ms' ++ [m] := ⟨ms.dropLast, ms.getLast (List.ne_nil_of_length_pos q), (List.dropLast_concat_getLast _).symm⟩
  have hml := hm.mlen (m := m) (by simp)
  have e1 : (ms' ++ [m]).map mvL = ms'.map mvL ++ [mvL m] := by simp
  have hf' : ms'.length ≤ 3 := by simp at hf; omega
  rw [e1]
  conv => whnf
  refine ⟨_, last_at _ _, ?_⟩
  array_get_dec
  refine ⟨fun q2 => ?_, fun q2 => ?_⟩
  · have q2 : 1 < m.1.length := by have := of_decide_eq_true q2; omega
    conv => whnf
    refine take_k (n := n + 3) hd (by decide) fun v d1 hd1 v0 v1 => ?_
    conv => whnf
    refine ⟨fun q3 => ?_, fun q3 => ?_⟩
    · conv => whnf
      refine ⟨mvL m, by simp, ?_⟩
      rw [List.dropLast_concat]
      array_get_dec
      refine take_k (n := n + 2) hd1 (by omega) fun u d2 hd2 u0 u1 => ?_
      obtain ⟨u, rfl⟩ := Int.eq_ofNat_of_zero_le u0
      array_get_dec
      have e2 : cutL m.1 (some 1) none = m.1.drop 1 := cut_drop m.1 1
      have e3 : cutL m.1 none (some 1) = m.1.take 1 := cut_take m.1 1
      rw [e2, e3, mv_app, mv_app]
      exact tail _ (hm.split hf' q2 (by omega)) _ _ hd2
    · rw [← e1]
      exact tail _ hm _ _ (hd1.mono (by omega))
  · refine ⟨fun h => Bool.noConfusion h, fun _ => ?_⟩
    rw [← e1]
    exact tail _ hm _ _ (hd.mono (by omega))

theorem stA1 (n size : Nat) (hs : 1 ≤ size) (hs2 : size ≤ 20) (c1 c2 x5 : Slot) (st : List Stt) (K : KS) (hl : st.length ≤ 20)
    (hK : ∀ (b : Bool) (ms : List Mv) (d : D) (x7 x8 x9 : Slot), okM size ms → Dl n d → K.nx [.ow d, c1, c2, .sh (.int size), .ow (.lst ((st ++ [(b, ms)]).map stL)), x5, .no, x7, x8, x9])
    (ms : List Mv) (hm : okM size ms) (hf : ms.length ≤ 4) (x7 x8 x9 : Slot) (d : D) (hd : Dl (n + 5) d) :
    wSs (tailS 2 ir__law_states_2) [.ow d, c1, c2, .sh (.int size), .ow (.lst (st.map stL)), x5, .ow (.lst (ms.map mvL)), x7, x8, x9] K := by
  have tail : ∀ (ms : List Mv), okM size ms → ms.length ≤ 4 → ∀ (d : D) (x9 : Slot), Dl (n + 4) d → wSs (tailS 3 ir__law_states_2) [.ow d, c1, c2, .sh (.int size), .ow (.lst (st.map stL)), x5, .ow (.lst (ms.map mvL)), x7, x8, x9] K := fun ms hm hf d x9 hd => stA2 n size hs hs2 c1 c2 x5 st K hl hK ms hm hf x7 x8 x9 d hd
  conv => whnf
  refine ⟨fun q => ?_, fun q => ?_⟩
  rotate_left
  · refine ⟨fun h => Bool.noConfusion h, fun _ => ?_⟩
    exact tail _ hm hf _ _ (hd.mono (by omega))
  have q : 1 < ms.length := by have := of_decide_eq_true q; rw [List.length_map] at this; omega
  obtain ⟨m0, mid, last, rfl⟩ : ∃ m0 mid last, ms = m0 :: (mid ++ [last]) := by
    cases ms with
    | nil => simp at q
    | cons m0 r =>
      have hr : r ≠ [] := by intro e; subst e; simp at q
      exact ⟨m0, r.dropLast, r.getLast hr, by rw [List.dropLast_concat_getLast]⟩
  have hml := hm.mlen (m := last) (by simp)
  have hml0 := hm.mlen (m := m0) (by simp)
  have e1 : (m0 :: (mid ++ [last])).map mvL = mvL m0 :: (mid.map mvL ++ [mvL last]) := by simp
  have hmid : mid.length ≤ 2 := by simp at hf; omega
  rw [e1]
  conv => whnf
  refine ⟨_, first_at _ _, ?_⟩
  array_get_dec
  refine ⟨_, last_at (mvL m0 :: mid.map mvL) (mvL last), ?_⟩
  array_get_dec
  refine ⟨fun q2 => ?_, fun q2 => ?_⟩
  · conv => whnf
    refine take_k (n := n + 4) hd (by decide) fun v d1 hd1 v0 v1 => ?_
    conv => whnf
    refine ⟨fun q3 => ?_, fun q3 => ?_⟩
    · conv => whnf
      have gl : (mvL m0 :: (mid.map mvL ++ [mvL last])).getLast? = some (mvL last) := by rw [← List.cons_append, List.getLast?_concat]
      refine ⟨mvL last, gl, ?_⟩
      have e2 : (mvL m0 :: (mid.map mvL ++ [mvL last])).dropLast = mvL m0 :: mid.map mvL := by
        rw [← List.cons_append, List.dropLast_concat]
      rw [e2]
      array_get_dec
      refine ⟨_, first_at _ _, ?_⟩
      array_get_dec
      intro cs hc1 hc2
      have hcl : cs.length ≤ 170 := by have := hc1.length_eq; rw [List.length_append] at this; omega
      conv => whnf
      refine ⟨cs.map fun c => [c], join_a _, join_b (by omega), ?_⟩
      rw [joinT_one]
      array_get_dec
      refine ⟨0, by unfold ixN; simp, ?_⟩
      exact tail ((cs, last.2) :: mid) (hm.merge hc1 hc2) (by simp; omega) _ _ hd1
    · rw [← e1]
      exact tail _ hm hf _ _ (hd1.mono (by omega))
  · refine ⟨fun h => Bool.noConfusion h, fun _ => ?_⟩
    rw [← e1]
    exact tail _ hm hf _ _ (hd.mono (by omega))
theorem cor__law_states : Cor sp__law_states [true, false, false] 10 ir__law_states := by
  rintro ⟨n, d, gs, most⟩ ds ⟨rfl, hd, hg, m1, m2⟩ hl
  clear hl
  have hd : Dl (n + 200) d := hd
  have m1 : 1 ≤ most := m1
  have m2 : most ≤ 20 := m2
  conv => whnf
  refine take_k (n := n + 199) hd (by omega) fun v d1 hd1 v0 v1 => ?_
  obtain ⟨v, rfl⟩ := Int.eq_ofNat_of_zero_le v0
  have v1 : v < most := by omega
  conv => whnf
  have e1 : (1 : Int) + (v : Int) = ((v + 1 : Nat) : Int) := by omega
  rw [e1]
  conv => whnf
  refine ⟨sz (by simp), ?_⟩
  conv => whnf
  refine ⟨⟨by omega, by omega⟩, ?_⟩
  conv => whnf
  refine ⟨fun _ => trivial, ?_⟩
  have e2 : ((v + 1 : Nat) : Int).toNat = v + 1 := by omega
  rw [e2]
  refine for_range 0 _ (fun k env => ∃ (st : List Stt) (d : D) (x5 x6 x7 x8 x9 : Slot), st.length = k ∧ (∀ s ∈ st, okM (v + 1) s.2) ∧ Dl (n + 199 - 9 * k) d ∧ env = [.ow d, .sh (.lst (gs.map D.str)), .sh (.int most), .sh (.int ((v + 1 : Nat) : Int)), .ow (.lst (st.map stL)), x5, x6, x7, x8, x9]) ?_ ?_ _ ⟨[], d1, .no, .no, .no, .no, .no, rfl, (fun _ z => nomatch z), hd1, rfl⟩
  · rintro env ⟨st, d2, x5, x6, x7, x8, x9, h1, h2, h3, rfl⟩
    conv => whnf
    exact ⟨st, d2, rfl, rfl, h3.mono (by omega), ⟨by intro e; subst e; simp at h1, fun s hs => by rw [h1]; exact h2 s hs⟩, by omega⟩
  · rintro k env f hk ⟨st, d2, x5, x6, x7, x8, x9, h1, h2, h3, rfl⟩ hf
    conv => whnf
    refine ⟨sz (by simp), ?_⟩
    conv => whnf
    refine ⟨fun _ => trivial, ?_⟩
    refine statesA (n + 199 - 9 * (k + 1) + 5) (v + 1) (by omega) (by omega) gs hg _ _ _ _ _ _ d2 (h3.mono (by omega)) _ fun ms d3 x7 x8 g1 g2 g3 => ?_
    have okm := okM.sub hg g1 g2
    refine stA1 (n + 199 - 9 * (k + 1)) (v + 1) (by omega) (by omega) _ _ _ st _ (by omega) (fun b ms d x7 x8 x9 k1 k2 => ?_) ms okm ?_ _ _ _ d3 g3
    · refine hf _ ⟨st ++ [(b, ms)], d, _, _, _, _, _, by simp; omega, ?_, k2, rfl⟩
      intro s hs
      rcases List.mem_append.mp hs with hs | hs
      · exact h2 s hs
      · rw [List.mem_singleton] at hs; subst hs; exact k1
    · have := g1.length_le
      rw [List.length_map] at this
      have := hg.few
      omega

end PW

namespace PW
open PySem L2
local macro_rules
  | `(tactic| array_get_dec) => `(tactic| (conv => whnf) <;> repeat (first | refine And.intro rfl ?_ | refine And.intro (by assumption) ?_ | refine ⟨_, rfl, ?_⟩ | refine And.intro (Nat.le_of_ble_eq_true rfl) ?_ | refine And.intro (sz (by first | omega | (simp only [List.length_append, List.length_cons, List.length_nil, List.length_map]; omega))) ?_ | refine And.intro (szl (by first | omega | (simp only [List.length_append, List.length_cons, List.length_nil, List.length_map]; omega))) ?_ | refine And.intro (by decide) ?_ | refine And.intro (.inr (by decide)) ?_ | refine And.intro (fun _ => trivial) ?_ | refine And.intro (fun (h : false = true) => Bool.noConfusion h) (fun _ => ?_) | refine And.intro (fun _ => ?_) (fun (h : true = false) => Bool.noConfusion h) | refine And.intro ⟨by decide, by decide, by decide⟩ ?_); (conv => whnf))
theorem Dl.flat {n : Nat} {d : D} (h : Dl n d) : flatT d = true := by
  obtain ⟨row, at', total, rfl, _⟩ := h
  have e : ∀ row : List Int, flatL (row.map .int) = true := by
    intro row
    induction row with
    | nil => rfl
    | cons a r ih => show (flatT (.int a) && flatL _) = true; rw [ih]; rfl
  show (flatL (row.map .int) && (flatL [.int at'] && (flatT (.int total) && true))) = true
  rw [e]; rfl
def sp__law_enliven : PSp where
  G := Nat × D × List Stt
  pre | (n, d, k), ds => ds = [d, .lst (k.map stL)] ∧ Dl (n + 7) d ∧ okK k
  post | (n, _, k), r, outs => ∃ k' d, r = .va .non ∧ outs = [d, .lst (k'.map stL)] ∧ Dl n d ∧ okK k' ∧ k'.length = k.length
theorem enliven_k {n : Nat} {d : D} {k : List Stt} {C : R → List D → Prop} (hd : Dl (n + 7) d) (hk : okK k) (kk : ∀ k' d', okK k' → k'.length = k.length → Dl n d' → C (.va .non) [d', .lst (k'.map stL)]) : ∃ g : sp__law_enliven.G, sp__law_enliven.pre g [d, .lst (k.map stL)] ∧ ∀ r outs, sp__law_enliven.post g r outs → C r outs := by
  refine ⟨(n, d, k), ⟨rfl, hd, hk⟩, ?_⟩
  rintro _ _ ⟨k', d', rfl, rfl, h1, h2, h3⟩
  exact kk k' d' h2 h3 h1
def sp__law_moves : PSp where
  G := List Mv
  pre ms ds := ds = [.lst (ms.map mvL)] ∧ ms.length ≤ 50000
  post ms r outs := r = .va (.tup (ms.map mvT)) ∧ outs = []
theorem moves_k {ms : List Mv} {C : R → List D → Prop} (h : ms.length ≤ 50000) (k : C (.va (.tup (ms.map mvT))) []) : ∃ g : sp__law_moves.G, sp__law_moves.pre g [.lst (ms.map mvL)] ∧ ∀ r outs, sp__law_moves.post g r outs → C r outs := by
  refine ⟨ms, ⟨rfl, h⟩, ?_⟩
  rintro _ _ ⟨rfl, rfl⟩
  exact k
def sp__law_kind : PSp where
  G := List Stt
  pre k ds := ds = [.lst (k.map stL)] ∧ k.length ≤ 50000 ∧ ∀ s ∈ k, s.2.length ≤ 50000
  post k r outs := r = .va (kindD k) ∧ outs = []
theorem kind_k {k : List Stt} {C : R → List D → Prop} (h : k.length ≤ 50000) (h2 : ∀ s ∈ k, s.2.length ≤ 50000) (kk : C (.va (kindD k)) []) : ∃ g : sp__law_kind.G, sp__law_kind.pre g [.lst (k.map stL)] ∧ ∀ r outs, sp__law_kind.post g r outs → C r outs := by
  refine ⟨k, ⟨rfl, h, h2⟩, ?_⟩
  rintro _ _ ⟨rfl, rfl⟩
  exact kk
def sp__law_drawn : PSp where
  G := Nat × D × List (List Nat) × Nat
  pre | (n, d, gs, most), ds => ds = [d, .lst (gs.map D.str), .int most] ∧ Dl (n + 208) d ∧ okG gs ∧ 1 ≤ most ∧ most ≤ 20
  post | (n, _, _, most), r, outs => ∃ k d, r = .va (kindD k) ∧ outs = [d] ∧ Dl n d ∧ okK k ∧ k.length ≤ most
theorem drawn_k {n most : Nat} {d : D} {gs : List (List Nat)} {C : R → List D → Prop} (hd : Dl (n + 208) d) (hg : okG gs) (m1 : 1 ≤ most) (m2 : most ≤ 20) (kk : ∀ k d', okK k → k.length ≤ most → Dl n d' → C (.va (kindD k)) [d']) : ∃ g : sp__law_drawn.G, sp__law_drawn.pre g [d, .lst (gs.map D.str), .int most] ∧ ∀ r outs, sp__law_drawn.post g r outs → C r outs := by
  refine ⟨(n, d, gs, most), ⟨rfl, hd, hg, m1, m2⟩, ?_⟩
  rintro _ _ ⟨k, d', rfl, rfl, h1, h2, h3⟩
  exact kk k d' h2 h3 h1
-- _law_enliven ['deal', 'states', 'at', 'turn', 'moves'] mask [true, true] own ['deal', 'states']
def nm__law_enliven : PySem.Str := "_law_enliven"
def ir__law_enliven_1 : Ss :=
  .cons (.asg (.nm 4) (.ix (.ix (.v 1) (.v 2)) (.int 1))) (.cons (.ifs (.cmp .Gt (.cb .len (.cons (.v 4) .nil)) (.int 0)) (.cons (.asg (.nm 2) (.ix (.ix (.v 4) (.call nm__law_take sp__law_take [true, false] (.cons (.v 0) (.cons (.cb .len (.cons (.v 4) .nil)) .nil)))) (.int 1))) .nil) (.nil)) .nil)
def ir__law_enliven : Ss :=
  .cons (.asg (.nm 2) (.int 0)) (.cons (.frz [false, true] (.for (.nm 3) (.r1 (.call nm__law_take sp__law_take [true, false] (.cons (.v 0) (.cons (.int 6) .nil)))) ir__law_enliven_1)) (.cons (.setP 1 (.v 2) (.int 0) (.bl true)) .nil))


-- _law_moves ['moves', 'move'] mask [false] own []
def nm__law_moves : PySem.Str := "_law_moves"
def ir__law_moves : Ss :=
  .cons (.ret (.cb .tuple (.cons (.lc (.nm 1) (.sq (.v 0)) .yes (.tup (.cons (.ix (.v 1) (.int 0)) (.cons (.ix (.v 1) (.int 1)) .nil)))) .nil))) .nil


-- _law_kind ['states', 'state'] mask [false] own []
def nm__law_kind : PySem.Str := "_law_kind"
def ir__law_kind : Ss :=
  .cons (.ret (.cb .tuple (.cons (.lc (.nm 1) (.sq (.v 0)) .yes (.tup (.cons (.ix (.v 1) (.int 0)) (.cons (.call nm__law_moves sp__law_moves [false] (.cons (.ix (.v 1) (.int 1)) .nil)) .nil)))) .nil))) .nil


-- _law_drawn ['deal', 'groups', 'most', 'states'] mask [true, false, false] own ['deal', 'states']
def nm__law_drawn : PySem.Str := "_law_drawn"
def ir__law_drawn : Ss :=
  .cons (.asg (.nm 3) (.call nm__law_states sp__law_states [true, false, false] (.cons (.v 0) (.cons (.v 1) (.cons (.v 2) .nil))))) (.cons (.ifs (.cmp .Gt (.call nm__law_take sp__law_take [true, false] (.cons (.v 0) (.cons (.int 8) .nil))) (.int 0)) (.cons (.ex (.call nm__law_enliven sp__law_enliven [true, true] (.cons (.v 0) (.cons (.v 3) .nil)))) .nil) (.nil)) (.cons (.ret (.call nm__law_kind sp__law_kind [false] (.cons (.mv 3) .nil))) .nil))


theorem okK.pos {k : List Stt} (h : okK k) : 0 < k.length := List.length_pos_iff.mpr h.ne
theorem stL_at {k : List Stt} {i : Nat} (h : i < k.length) : atI (k.map stL) (i : Int) = some (stL k[i]) := by
  refine atI_nat ?_
  rw [List.getElem?_map, List.getElem?_eq_getElem h]; rfl
theorem stT_at {k : List Stt} {i : Nat} (h : i < k.length) : atI (k.map stT) (i : Int) = some (stT k[i]) := by
  refine atI_nat ?_
  rw [List.getElem?_map, List.getElem?_eq_getElem h]; rfl
theorem mv_pick {f : Mv → D} {ms : List Mv} {v : Int} (h0 : 0 ≤ v) (h1 : v < ms.length) : ∃ m ∈ ms, atI (ms.map f) v = some (f m) := by
  obtain ⟨i, rfl⟩ := Int.eq_ofNat_of_zero_le h0
  have hi : i < ms.length := by omega
  exact ⟨ms[i], List.getElem_mem hi, atI_nat (by rw [List.getElem?_map, List.getElem?_eq_getElem hi]; rfl)⟩
theorem okK.set {k : List Stt} (h : okK k) {i : Nat} (hi : i < k.length) (b : Bool) : okK (k.set i (b, k[i].2)) := by
  refine ⟨fun e => ?_, fun s hs => ?_⟩
  · have := congrArg List.length e
    rw [List.length_set] at this
    exact h.ne (List.eq_nil_of_length_eq_zero (by simpa using this))
  · rw [List.length_set]
    rcases List.mem_or_eq_of_mem_set hs with hs | rfl
    · exact h.ms s hs
    · exact h.ms k[i] (List.getElem_mem hi)
theorem cor__law_enliven : Cor sp__law_enliven [true, true] 5 ir__law_enliven := by
  rintro ⟨n, d, k⟩ ds ⟨rfl, hd, hk⟩ hl
  clear hl
  have hd : Dl (n + 7) d := hd
  have hk : okK k := hk
  conv => whnf
  refine take_k (n := n + 6) hd (by decide) fun v d1 hd1 v0 v1 => ?_
  obtain ⟨v, rfl⟩ := Int.eq_ofNat_of_zero_le v0
  conv => whnf
  refine ⟨⟨by omega, by omega⟩, ?_⟩
  conv => whnf
  refine ⟨fun _ => trivial, ?_⟩
  have e2 : (v : Int).toNat = v := by omega
  rw [e2]
  refine for_range 0 _ (fun j env => ∃ (i : Nat) (d : D) (x3 x4 : Slot), i < k.length ∧ Dl (n + 6 - j) d ∧ (x3 = .no ∨ ∃ z, x3 = .sh (.int z)) ∧ (x4 = .no ∨ ∃ z, x4 = .sh (.lst z)) ∧ env = [.ow d, .sh (.lst (k.map stL)), .sh (.int i), x3, x4]) ?_ ?_ _ ⟨0, d1, .no, .no, hk.pos, hd1, .inl rfl, .inl rfl, rfl⟩
  · rintro env ⟨i, d2, x3, x4, h1, h2, h3, h4, rfl⟩
    have fin : ∀ x3' : Slot, wSs (tailS 2 ir__law_enliven) [.ow d2, .ow (.lst (k.map stL)), .sh (.int i), x3', .no] (ends sp__law_enliven [true, true] (n, d, k)) := by
      intro x3'
      conv => whnf
      have h5 : ixN (k.map stL).length (i : Int) = some i := by
        unfold ixN
        rw [List.length_map]
        have : (i : Int) < (k.length : Int) := by omega
        simp [this]
      have h6 : (k.map stL)[i]? = some (.lst [.bl k[i].1, .lst (k[i].2.map mvL)]) := by
        rw [List.getElem?_map, List.getElem?_eq_getElem h1]; rfl
      refine ⟨i, _, ⟨h5, h6⟩, ?_⟩
      conv => whnf
      refine ⟨rfl, ?_⟩
      conv => whnf
      refine ⟨_, 0, ⟨h6, rfl⟩, ?_⟩
      conv => whnf
      refine ⟨rfl, ?_⟩
      conv => whnf
      refine ⟨k.set i (true, k[i].2), d2, rfl, ?_, h2.mono (by omega), hk.set h1 true, List.length_set⟩
      rw [List.map_set]; rfl
    rcases h3 with rfl | ⟨z, rfl⟩ <;> rcases h4 with rfl | ⟨z4, rfl⟩
    all_goals
      conv => whnf
      refine ⟨h2.flat, ?_⟩
      conv => whnf
      exact fin _
  · rintro j env f hj ⟨i, d2, x3, x4, h1, h2, h3, h4, rfl⟩ hf
    conv => whnf
    refine ⟨_, stL_at h1, ?_⟩
    array_get_dec
    have okm := hk.ms k[i] (List.getElem_mem h1)
    refine ⟨fun q => ?_, fun q => ?_⟩
    · have q : 0 < k[i].2.length := by have := of_decide_eq_true q; rw [List.length_map] at this; omega
      conv => whnf
      refine take_k (n := n + 6 - (j + 1)) (h2.mono (by omega)) (by rw [List.length_map]; omega) fun v5 d5 hd5 v50 v51 => ?_
      rw [List.length_map] at v51
      obtain ⟨m, hm, e5⟩ := mv_pick (f := mvL) v50 v51
      conv => whnf
      refine ⟨_, e5, ?_⟩
      array_get_dec
      exact hf _ ⟨m.2, d5, _, _, okm.lt m hm, hd5, .inr ⟨_, rfl⟩, .inr ⟨_, rfl⟩, rfl⟩
    · exact hf _ ⟨i, d2, _, _, h1, h2.mono (by omega), .inr ⟨_, rfl⟩, .inr ⟨_, rfl⟩, rfl⟩
theorem cor__law_moves : Cor sp__law_moves [false] 2 ir__law_moves := by
  rintro (ms : List Mv) ds ⟨rfl, hl⟩ hl'
  clear hl'
  conv => whnf
  refine lc_list _ (fun j acc env => ∃ x, acc = (ms.take j).map mvT ∧ env = [.sh (.lst (ms.map mvL)), x]) ?_ ?_ _ ⟨.no, rfl, rfl⟩
  · rintro acc env ⟨x, rfl, rfl⟩
    rw [List.length_map, List.take_length]
    refine ⟨trivial, ?_⟩
    conv => whnf
    refine ⟨?_, rfl, rfl⟩
    rw [List.all_eq_true]
    intro d hd
    obtain ⟨m, _, rfl⟩ := List.mem_map.mp hd
    rfl
  · rintro j dm acc env f hdm ⟨x, rfl, rfl⟩ hf
    rw [List.getElem?_map] at hdm
    cases hc : ms[j]? with
    | none => rw [hc] at hdm; cases hdm
    | some m =>
      rw [hc] at hdm
      have hdm : mvL m = dm := by injection hdm
      subst hdm
      have hj := (List.getElem?_eq_some_iff.mp hc).1
      refine ⟨trivial, ?_⟩
      conv => whnf
      refine ⟨fun _ => ?_, fun h => Bool.noConfusion h⟩
      array_get_dec
      refine ⟨szl (by rw [List.length_map, List.length_take]; omega), ?_⟩
      array_get_dec
      refine hf _ _ ⟨_, ?_, rfl⟩
      rw [List.take_add_one, hc]
      simp [mvT]
theorem cor__law_kind : Cor sp__law_kind [false] 2 ir__law_kind := by
  rintro (k : List Stt) ds ⟨rfl, hl, hl2⟩ hl'
  clear hl'
  conv => whnf
  refine lc_list _ (fun j acc env => ∃ x, acc = (k.take j).map stT ∧ env = [.sh (.lst (k.map stL)), x]) ?_ ?_ _ ⟨.no, rfl, rfl⟩
  · rintro acc env ⟨x, rfl, rfl⟩
    rw [List.length_map, List.take_length]
    refine ⟨trivial, ?_⟩
    conv => whnf
    refine ⟨?_, rfl, rfl⟩
    rw [List.all_eq_true]
    intro d hd
    obtain ⟨m, _, rfl⟩ := List.mem_map.mp hd
    rfl
  · rintro j dm acc env f hdm ⟨x, rfl, rfl⟩ hf
    rw [List.getElem?_map] at hdm
    cases hc : k[j]? with
    | none => rw [hc] at hdm; cases hdm
    | some m =>
      rw [hc] at hdm
      have hdm : stL m = dm := by injection hdm
      subst hdm
      have hj := (List.getElem?_eq_some_iff.mp hc).1
      refine ⟨trivial, ?_⟩
      conv => whnf
      refine ⟨fun _ => ?_, fun h => Bool.noConfusion h⟩
      array_get_dec
      refine moves_k (hl2 m (List.mem_of_getElem? hc)) ?_
      array_get_dec
      refine ⟨szl (by rw [List.length_map, List.length_take]; omega), ?_⟩
      array_get_dec
      refine hf _ _ ⟨_, ?_, rfl⟩
      rw [List.take_add_one, hc]
      simp [stT]
theorem cor__law_drawn : Cor sp__law_drawn [true, false, false] 4 ir__law_drawn := by
  rintro ⟨n, d, gs, most⟩ ds ⟨rfl, hd, hg, m1, m2⟩ hl
  clear hl
  have hd : Dl (n + 208) d := hd
  have m1 : 1 ≤ most := m1
  have m2 : most ≤ 20 := m2
  have fin : ∀ (k : List Stt) (d : D), okK k → k.length ≤ most → Dl n d → wSs (tailS 2 ir__law_drawn) [.ow d, .sh (.lst (gs.map D.str)), .sh (.int most), .ow (.lst (k.map stL))] (ends sp__law_drawn [true, false, false] (n, d, gs, most)) := by
    intro k d hk hl hd
    conv => whnf
    refine kind_k (by omega) (fun s hs => by have := (hk.ms s hs).few; omega) ?_
    conv => whnf
    exact ⟨k, d, rfl, rfl, hd, hk, hl⟩
  conv => whnf
  refine states_k (n := n + 8) hd hg m1 m2 fun k d1 h1 h2 hd1 => ?_
  conv => whnf
  refine take_k (n := n + 7) hd1 (by decide) fun v d2 hd2 v0 v1 => ?_
  conv => whnf
  refine ⟨fun q => ?_, fun q => ?_⟩
  · conv => whnf
    refine enliven_k (n := n) hd2 h1 fun k' d3 h3 h4 hd3 => ?_
    exact fin _ _ h3 (by omega) hd3
  · exact fin _ _ h1 h2 (hd2.mono (by omega))

end PW

namespace PW
open PySem L2
local macro_rules
  | `(tactic| array_get_dec) => `(tactic| (conv => whnf) <;> repeat (first | refine And.intro rfl ?_ | refine And.intro (by assumption) ?_ | refine ⟨_, rfl, ?_⟩ | refine And.intro (Nat.le_of_ble_eq_true rfl) ?_ | refine And.intro (sz (by first | omega | (simp only [List.length_append, List.length_cons, List.length_nil, List.length_map]; omega))) ?_ | refine And.intro (szl (by first | omega | (simp only [List.length_append, List.length_cons, List.length_nil, List.length_map]; omega))) ?_ | refine And.intro (by decide) ?_ | refine And.intro (.inr (by decide)) ?_ | refine And.intro (fun _ => trivial) ?_ | refine And.intro (fun (h : false = true) => Bool.noConfusion h) (fun _ => ?_) | refine And.intro (fun _ => ?_) (fun (h : true = false) => Bool.noConfusion h) | refine And.intro ⟨by decide, by decide, by decide⟩ ?_); (conv => whnf))
/-! ### a kind read -/
def stepM (ms : List Mv) (c : Nat) : Option Nat := (ms.find? fun m => decide (c ∈ m.1)).map (·.2)
def msAt (k : List Stt) (s : Nat) : List Mv := (k.getD s (false, [])).2
def accAt (k : List Stt) (s : Nat) : Bool := (k.getD s (false, [])).1
def runK (k : List Stt) : Nat → List Nat → Bool
  | s, [] => accAt k s
  | s, c :: t => match stepM (msAt k s) c with
    | some u => runK k u t
    | none => false
structure okR (k : List Stt) : Prop where
  pos : 0 < k.length
  lt : ∀ s ∈ k, ∀ m ∈ s.2, m.2 < k.length
theorem okK.r {k : List Stt} (h : okK k) : okR k := ⟨h.pos, fun s hs m hm => (h.ms s hs).lt m hm⟩
theorem stepM_mem {ms : List Mv} {c u : Nat} (h : stepM ms c = some u) : ∃ m ∈ ms, c ∈ m.1 ∧ m.2 = u := by
  unfold stepM at h
  cases e : ms.find? fun m => decide (c ∈ m.1) with
  | none => rw [e] at h; cases h
  | some m =>
    rw [e] at h
    have h : m.2 = u := by injection h
    exact ⟨m, List.mem_of_find?_eq_some e, of_decide_eq_true (List.find?_some (p := fun m : Mv => decide (c ∈ m.1)) e), h⟩
theorem msAt_eq {k : List Stt} {s : Nat} (h : s < k.length) : msAt k s = k[s].2 := by unfold msAt; rw [getD_at h]
theorem accAt_eq {k : List Stt} {s : Nat} (h : s < k.length) : accAt k s = k[s].1 := by unfold accAt; rw [getD_at h]
theorem okR.step {k : List Stt} (h : okR k) {s c u : Nat} (hs : s < k.length) (e : stepM (msAt k s) c = some u) : u < k.length := by
  obtain ⟨m, hm, _, rfl⟩ := stepM_mem e
  rw [msAt_eq hs] at hm
  exact h.lt _ (List.getElem_mem hs) m hm
def optI : Option Nat → Int
  | some t => t
  | none => -1
def sp_target_of : PSp where
  G := List Mv × Nat
  pre | (ms, c), ds => ds = [.tup (ms.map mvT), .str [c]] ∧ True
  post | (ms, c), r, outs => r = .va (.int (optI (stepM ms c))) ∧ outs = []
theorem target_k {ms : List Mv} {c : Nat} {C : R → List D → Prop} (k : C (.va (.int (optI (stepM ms c)))) []) : ∃ g : sp_target_of.G, sp_target_of.pre g [.tup (ms.map mvT), .str [c]] ∧ ∀ r outs, sp_target_of.post g r outs → C r outs := by
  refine ⟨(ms, c), ⟨rfl, trivial⟩, ?_⟩
  rintro _ _ ⟨rfl, rfl⟩
  exact k
def sp_accepts : PSp where
  G := List Stt × List Nat
  pre | (k, t), ds => ds = [kindD k, .str t] ∧ okR k
  post | (k, t), r, outs => r = .va (.bl (runK k 0 t)) ∧ outs = []
theorem accepts_k {k : List Stt} {t : List Nat} {C : R → List D → Prop} (h : okR k) (kk : C (.va (.bl (runK k 0 t))) []) : ∃ g : sp_accepts.G, sp_accepts.pre g [kindD k, .str t] ∧ ∀ r outs, sp_accepts.post g r outs → C r outs := by
  refine ⟨(k, t), ⟨rfl, h⟩, ?_⟩
  rintro _ _ ⟨rfl, rfl⟩
  exact kk
def sp__law_accepts : PSp where
  G := List Stt × List Nat
  pre | (k, t), ds => ds = [kindD k, .str t] ∧ okR k ∧ ∀ s ∈ k, (sgn s.2).Nodup
  post | (k, t), r, outs => r = .va (.bl (runK k 0 t)) ∧ outs = []
theorem lawaccepts_k {k : List Stt} {t : List Nat} {C : R → List D → Prop} (h : okR k) (h2 : ∀ s ∈ k, (sgn s.2).Nodup) (kk : C (.va (.bl (runK k 0 t))) []) : ∃ g : sp__law_accepts.G, sp__law_accepts.pre g [kindD k, .str t] ∧ ∀ r outs, sp__law_accepts.post g r outs → C r outs := by
  refine ⟨(k, t), ⟨rfl, h, h2⟩, ?_⟩
  rintro _ _ ⟨rfl, rfl⟩
  exact kk
-- target_of ['moves', 'sign', 'signs', 'target'] mask [false, false] own []
def nm_target_of : PySem.Str := "target_of"
def ir_target_of_1 : Ss :=
  .cons (.ifs (.cmp .In (.v 1) (.v 2)) (.cons (.ret (.v 3)) .nil) (.nil)) .nil
def ir_target_of : Ss :=
  .cons (.for (.tp [2, 3]) (.sq (.v 0)) ir_target_of_1) (.cons (.ret (.neg (.int 1))) .nil)

-- accepts ['kind', 'text', 'state', 'sign'] mask [false, false] own []
def nm_accepts : PySem.Str := "accepts"
def ir_accepts_1 : Ss :=
  .cons (.asg (.nm 2) (.fz (.call nm_target_of sp_target_of [false, false] (.cons (.ix (.ix (.v 0) (.v 2)) (.int 1)) (.cons (.v 3) .nil))))) (.cons (.ifs (.cmp .Lt (.v 2) (.int 0)) (.cons (.ret (.bl false)) .nil) (.nil)) .nil)
def ir_accepts : Ss :=
  .cons (.asg (.nm 2) (.int 0)) (.cons (.for (.nm 3) (.sq (.v 1)) ir_accepts_1) (.cons (.ret (.ix (.ix (.v 0) (.v 2)) (.int 0))) .nil))

-- _law_accepts ['kind', 'text', 'state', 'sign', 'found', 'move'] mask [false, false] own []
def nm__law_accepts : PySem.Str := "_law_accepts"
def ir__law_accepts_1 : Ss :=
  .cons (.ifs (.cmp .In (.v 3) (.ix (.v 5) (.int 0))) (.cons (.asg (.nm 4) (.ix (.v 5) (.int 1))) .nil) (.nil)) .nil
def ir__law_accepts_2 : Ss :=
  .cons (.asg (.nm 4) (.neg (.int 1))) (.cons (.for (.nm 5) (.sq (.ix (.ix (.v 0) (.v 2)) (.int 1))) ir__law_accepts_1) (.cons (.ifs (.cmp .Lt (.v 4) (.int 0)) (.cons (.ret (.bl false)) .nil) (.nil)) (.cons (.asg (.nm 2) (.v 4)) .nil)))
def ir__law_accepts : Ss :=
  .cons (.asg (.nm 2) (.int 0)) (.cons (.for (.nm 3) (.sq (.v 1)) ir__law_accepts_2) (.cons (.ret (.ix (.ix (.v 0) (.v 2)) (.int 0))) .nil))


theorem get_map {α : Type} {f : α → D} {xs : List α} {j : Nat} {d : D} (h : (xs.map f)[j]? = some d) : ∃ x, xs[j]? = some x ∧ d = f x := by
  rw [List.getElem?_map] at h
  cases e : xs[j]? with
  | none => rw [e] at h; cases h
  | some x => rw [e] at h; exact ⟨x, rfl, by injection h with h; exact h.symm⟩
theorem find_drop {ms : List Mv} {c j : Nat} {m : Mv} (h : ms[j]? = some m) (hn : ∀ x ∈ ms.take j, c ∉ x.1) : (ms.find? fun m => decide (c ∈ m.1)) = if c ∈ m.1 then some m else (ms.drop (j + 1)).find? fun m => decide (c ∈ m.1) := by
  have e : ms = ms.take j ++ (m :: ms.drop (j + 1)) := by
    rw [← drop_cons h, List.take_append_drop]
  conv => lhs; rw [e]
  rw [List.find?_append]
  have : (ms.take j).find? (fun m => decide (c ∈ m.1)) = none := List.find?_eq_none.mpr fun x hx => by simpa using hn x hx
  rw [this, List.find?_cons]
  by_cases q : c ∈ m.1 <;> simp [q]
theorem cor_target_of : Cor sp_target_of [false, false] 4 ir_target_of := by
  rintro ⟨ms, c⟩ ds ⟨rfl, -⟩ hl
  clear hl
  conv => whnf
  refine ⟨fun _ => trivial, ?_⟩
  refine for_list _ (fun j env => ∃ (x y : Slot), (∀ m ∈ ms.take j, c ∉ m.1) ∧ env = [.sh (.tup (ms.map mvT)), .sh (.str [c]), x, y]) ?_ ?_ _ ⟨.no, .no, (fun _ z => nomatch z), rfl⟩
  · rintro env ⟨x, y, h, rfl⟩
    rw [List.length_map, List.take_length] at h
    conv => whnf
    refine ⟨?_, rfl⟩
    have : ms.find? (fun m => decide (c ∈ m.1)) = none := List.find?_eq_none.mpr fun x hx => by simpa using h x hx
    unfold stepM
    rw [this]
    rfl
  · rintro j dm env f hdm ⟨x, y, h, rfl⟩ hf
    obtain ⟨m, hm, rfl⟩ := get_map hdm
    conv => whnf
    refine ⟨rfl, ?_⟩
    conv => whnf
    refine ⟨fun q => ?_, fun q => ?_⟩
    · have q : c ∈ m.1 := of_decide_eq_true q
      conv => whnf
      refine ⟨?_, rfl⟩
      unfold stepM
      rw [find_drop hm h, if_pos q]
      rfl
    · have q : c ∉ m.1 := of_decide_eq_false q
      refine hf _ ⟨_, _, ?_, rfl⟩
      intro x hx
      rw [List.take_add_one, hm] at hx
      rcases List.mem_append.mp hx with hx | hx
      · exact h x hx
      · have : x = m := by simpa using hx
        rw [this]; exact q
theorem run_cons (k : List Stt) (s c : Nat) (t : List Nat) : runK k s (c :: t) = match stepM (msAt k s) c with
    | some u => runK k u t
    | none => false := rfl
theorem cor_accepts : Cor sp_accepts [false, false] 4 ir_accepts := by
  rintro ⟨k, t⟩ ds ⟨rfl, hk⟩ hl
  clear hl
  have hk : okR k := hk
  conv => whnf
  refine ⟨fun _ => trivial, ?_⟩
  refine for_list _ (fun j env => ∃ (s : Nat) (y : Slot), s < k.length ∧ runK k 0 t = runK k s (t.drop j) ∧ env = [.sh (kindD k), .sh (.str t), .sh (.int s), y]) ?_ ?_ _ ⟨0, .no, hk.pos, rfl, rfl⟩
  · rintro env ⟨s, y, h1, h2, rfl⟩
    rw [List.length_map, List.drop_length] at h2
    conv => whnf
    refine ⟨_, stT_at h1, ?_⟩
    conv => whnf
    refine ⟨_, rfl, ?_⟩
    conv => whnf
    refine ⟨?_, rfl⟩
    rw [h2]
    show R.va (.bl k[s].1) = R.va (.bl (accAt k s))
    rw [accAt_eq h1]
  · rintro j dc env f hdc ⟨s, y, h1, h2, rfl⟩ hf
    obtain ⟨c, hc, rfl⟩ := map_get hdc
    rw [drop_cons hc, run_cons, msAt_eq h1] at h2
    conv => whnf
    refine ⟨_, stT_at h1, ?_⟩
    conv => whnf
    refine ⟨_, rfl, ?_⟩
    conv => whnf
    refine target_k ?_
    conv => whnf
    cases e : stepM k[s].2 c with
    | none =>
      rw [e] at h2
      refine ⟨fun _ => ?_, fun h => Bool.noConfusion h⟩
      conv => whnf
      exact ⟨by rw [h2], rfl⟩
    | some u =>
      rw [e] at h2
      refine ⟨fun h => ?_, fun _ => ?_⟩
      · have := of_decide_eq_true h
        have : ¬ ((u : Int) < 0) := by omega
        contradiction
      · exact hf _ ⟨u, _, hk.step h1 (by rw [msAt_eq h1]; exact e), h2, rfl⟩
theorem step_app (a : List Mv) (m : Mv) (c : Nat) : stepM (a ++ [m]) c = match stepM a c with
    | some u => some u
    | none => if c ∈ m.1 then some m.2 else none := by
  unfold stepM
  rw [List.find?_append]
  cases e : a.find? (fun m => decide (c ∈ m.1)) with
  | none => by_cases q : c ∈ m.1 <;> simp [List.find?_cons, q]
  | some x => simp
theorem cor__law_accepts : Cor sp__law_accepts [false, false] 6 ir__law_accepts := by
  rintro ⟨k, t⟩ ds ⟨rfl, hk, hd⟩ hl
  clear hl
  have hk : okR k := hk
  have hd : ∀ s ∈ k, (sgn s.2).Nodup := hd
  conv => whnf
  refine ⟨fun _ => trivial, ?_⟩
  refine for_list _ (fun j env => ∃ (s : Nat) (y z w : Slot), s < k.length ∧ runK k 0 t = runK k s (t.drop j) ∧ env = [.sh (kindD k), .sh (.str t), .sh (.int s), y, z, w]) ?_ ?_ _ ⟨0, .no, .no, .no, hk.pos, rfl, rfl⟩
  · rintro env ⟨s, y, z, w, h1, h2, rfl⟩
    rw [List.length_map, List.drop_length] at h2
    conv => whnf
    refine ⟨_, stT_at h1, ?_⟩
    conv => whnf
    refine ⟨_, rfl, ?_⟩
    conv => whnf
    refine ⟨?_, rfl⟩
    rw [h2]
    show R.va (.bl k[s].1) = R.va (.bl (accAt k s))
    rw [accAt_eq h1]
  · rintro j dc env f hdc ⟨s, y, z, w, h1, h2, rfl⟩ hf
    obtain ⟨c, hc, rfl⟩ := map_get hdc
    rw [drop_cons hc, run_cons, msAt_eq h1] at h2
    have nd := hd _ (List.getElem_mem h1)
    conv => whnf
    refine ⟨_, stT_at h1, ?_⟩
    conv => whnf
    refine ⟨_, rfl, ?_⟩
    conv => whnf
    refine ⟨fun _ => trivial, ?_⟩
    refine for_list _ (fun i env => ∃ (w : Slot), env = [.sh (kindD k), .sh (.str t), .sh (.int s), .sh (.str [c]), .sh (.int (optI (stepM (k[s].2.take i) c))), w]) ?_ ?_ _ ⟨w, rfl⟩
    · rintro env ⟨w, rfl⟩
      rw [List.length_map, List.take_length]
      conv => whnf
      cases e : stepM k[s].2 c with
      | none =>
        rw [e] at h2
        refine ⟨fun _ => ?_, fun h => Bool.noConfusion h⟩
        conv => whnf
        exact ⟨by rw [h2], rfl⟩
      | some u =>
        rw [e] at h2
        refine ⟨fun h => ?_, fun _ => ?_⟩
        · have := of_decide_eq_true h
          have : ¬ ((u : Int) < 0) := by omega
          contradiction
        · exact hf _ ⟨u, _, _, _, hk.step h1 (by rw [msAt_eq h1]; exact e), h2, rfl⟩
    · rintro i dm env g hdm ⟨w, rfl⟩ hg
      obtain ⟨m, hm, rfl⟩ := get_map hdm
      have e1 : k[s].2.take (i + 1) = k[s].2.take i ++ [m] := by rw [List.take_add_one, hm]; rfl
      array_get_dec
      refine ⟨fun q => ?_, fun q => ?_⟩
      · have q : c ∈ m.1 := of_decide_eq_true q
        array_get_dec
        refine hg _ ⟨.sh (mvT m), ?_⟩
        have e2 : stepM (k[s].2.take i) c = none := by
          cases e : stepM (k[s].2.take i) c with
          | none => rfl
          | some u =>
            exfalso
            obtain ⟨x, hx, cx, _⟩ := stepM_mem e
            have e3 : k[s].2 = (k[s].2.take i ++ [m]) ++ k[s].2.drop (i + 1) := by rw [← e1, List.take_append_drop]
            rw [e3, sgn_app, sgn_app] at nd
            have n1 := (List.nodup_append.mp (List.nodup_append.mp nd).1).2.2
            exact n1 c (List.mem_flatten.mpr ⟨_, List.mem_map_of_mem hx, cx⟩) c (by simpa [sgn] using q) rfl
        rw [e1, step_app, e2, if_pos q]
        rfl
      · have q : c ∉ m.1 := of_decide_eq_false q
        refine hg _ ⟨.sh (mvT m), ?_⟩
        rw [e1, step_app]
        cases e : stepM (k[s].2.take i) c with
        | none => rw [if_neg q]
        | some u => rfl

end PW

namespace PW
open PySem L2 PyProof.Rows CwR

/-! ### a def whose one line is «x != '' and f(x.replace(c, ''))»: a token is out when it begins -/
section
variable {X : Cx} {CX : CXT} {k : Nat} {f : Addr} {fd : FuncData} {ps : List Str} {sp : L2.Sp} {E : XK} {x : Str} {p pos : Pos} {e : Expr} {es : List Expr} {t : TA} {a b : Expr} {ta tb : TE}
theorem pet_call (F : FnOk X.prog X.w X.K X.mg X.base CX k f fd ps sp) (hr : Room k X.A) (hg : Gl X x) (hm : X.mg x = some (.ref f)) (hk : PySem.W.keepIn X.K (.ref f) = true) (hb : Binds X.K fd ps []) (hx : Passes CX X E)
    (ha : PAT X (e :: es) t) (hdb : (x == ("__debug__" : Str)) = false := by decide) (he : starEach (e :: es) X.env = (false, eval e X.env) :: starEach es X.env := by rfl) (hpl : (backTo pos (starEach es X.env)).any (·.1) = false := by rfl) :
    PET X (.Call (.Name x p) (e :: es) [] pos) (tCall sp [] E t) := by
  intro pins s σ H Q h0 I h
  refine wpAny_Call_Name_kw (ld_glob I hg hm ?_ hdb)
  refine PySem.W.callWith_K (h₀ := X.base) I.ok.mod.kin hk (thn (ha pos pins s σ H _ h0 I h) fun us s1 ⟨vs, H1, I1, r, q⟩ => ⟨I1.kIn, ?_⟩) he hpl
  exact run_fn F hr hb .nil hx I1 r q
theorem pet_and1 (ha : PE X a ta) (hb : PET X b tb) : PET X (.BoolOp .And [a, b] pos) (tAndV ta tb) := by
  intro pins s σ H Q h0 I h
  refine BoolOp_and (wpAny_mono (PySem.wpAny_toks (ha.run pins s σ H _ I h)) (fun v s1 q => ?_) fun _ _ z => z.2)
  obtain ⟨hk, x, H1, I1, r1, c, rfl, q1⟩ := q
  cases r1
  refine wpAny_truthy_bool ?_
  cases c with
  | true => exact BoolOp_one (hb pins s1 σ H1 Q (Nat.le_trans h0 hk) I1 q1)
  | false => exact ⟨.bl false, H1, I1, rfl, q1⟩
end
theorem strike (t : List Nat) (c : Nat) : Txt.replace (tx t) (tx [c]) (tx []) = tx (t.filter (· != c)) := by
  have h := PyProof.Rows.replace_strikes (tx t) c
  have h2 : (tx t).cps.toList = t := by simp
  rw [h2] at h
  show Txt.replace (tx t) ⟨#[c]⟩ ⟨#[]⟩ = _
  generalize Txt.replace (tx t) ⟨#[c]⟩ ⟨#[]⟩ = r at h
  obtain ⟨r⟩ := r
  have h : r.toList = _ := h
  show (⟨r⟩ : Str) = ⟨(t.filter (· != c)).toArray⟩
  rw [← h]
section
variable {P : Program} {w : World} {K : Fg} {mg : Str → Option Value} {base : Heap} {x fx gx : Str} {st : Stmt} {spf spg : PSp} {k : Nat} {c : Nat} {j0 j1 j2 : Nat} {p1 p2 p3 p4 p5 p6 p7 p8 p9 p10 p11 p12 : Pos}
/-- the body -/
def thB (x gx : Str) (c j0 j1 j2 : Nat) (p1 p2 p3 p4 p5 p6 p7 p8 p9 p10 p11 p12 : Pos) : List Stmt :=
  [.Return (some (.BoolOp .And [.Compare (.Name x p1) [.NotEq] [.Constant (.str (tx [])) j0 p2] p3, .Call (.Name gx p4) [.Call (.Attribute (.Name x p5) "replace" p6) [.Constant (.str (tx [c])) j1 p7, .Constant (.str (tx [])) j2 p8] [] p9] [] p10] p11)) p12]
theorem th_fn (D : DefAt K mg fx st) (hb : BindA fx st [x]) (S : FnScope [x] [x] (defScope st)) (hd : defBody st = thB x gx c j0 j1 j2 p1 p2 p3 p4 p5 p6 p7 p8 p9 p10 p11 p12) (hline : (p6.endLine == p9.line) = true) (hnc : ∀ y ∈ (defScope st).names, y.2 ≠ .cell)
    (hv : (defScope st).names.lookup x = some .local) (hx1 : (x == ("__debug__" : Str)) = false) (hx2 : (x == ("__classdict__" : Str)) = false) (hg : (defScope st).names.lookup gx = some .globalImplicit) (hg1 : (gx == ("__debug__" : Str)) = false)
    (h : FnS P w K mg base k gx spg [false])
    (hs : ∀ g ds, spf.pre g ds → ∃ t, ds = [.str t] ∧ t.length ≤ 16777216 ∧ (t = [] → spf.post g (.va (.bl false)) []) ∧ (t ≠ [] → ∃ g', spg.pre g' [.str (t.filter (· != c))] ∧ ∀ r outs, spg.post g' r outs → ∃ b, r = .va (.bl b) ∧ outs = [] ∧ spf.post g (.va (.bl b)) [])) :
    FnS P w K mg base (k + 1) fx spf [false] := by
  obtain ⟨a, fd, h1, h2, F⟩ := D.ex
  refine ⟨⟨a, fd, [x], h1, h2, F.binds hb, ?_⟩⟩
  obtain ⟨oc, od, kV, doc, pm, an, cdv, ct, osl, rfl, lk, hcd⟩ := F.ex
  obtain ⟨a2, fd2, ps2, e1, e2, e3, e4⟩ := h.ex
  refine fn_ofT lk hcd S hnc (Nat.le_refl _) (fun vs H Q E ⟨g, ds, FF, L, ha, _⟩ => ha.len.1) fun A outer s H vs Q E hr ⟨g, ds, FF, L, ha, nd, hn, hsub, hpre, hpost⟩ => ?_
  rw [hd]
  let X : Cx := cxOf CX0 P w K mg base [x] fx (defScope st) a cdv A outer s H E
  have hvis : Vis X.env.scope x := by
    first
    | exact Or.inl hv
    | exact Or.inr (Or.inl hv)
    | exact Or.inr (Or.inr hv)
  have hgl : Gl X gx := by
    show (defScope st).names.lookup gx = _
    exact hg
  have hyz : (tx [c] == tx []) = false := rfl
  have ex : ∀ {p : Pos}, PE X (.Name x p) (tVar 0) := pe_var rfl hvis hx1 hx2
  refine ⟨_, psst_one (pst_ret (pet_and1 (pe_cmpR op_ne ex pe_str (nomark _)) (pet_call e4 hr hgl e1 e2 e3 (fun _ _ _ _ _ _ _ (h : CX0 _ _ _ E0 _ _) => h.elim) (pat_cons (pet_replC ex hyz (hline := hline)) pat_nil) hg1))), ?_⟩
  obtain ⟨t, rfl, hl, q1, q2⟩ := hs g ds hpre
  cases ha with
  | sh r ha =>
    cases ha with
    | nil =>
      cases r
      have h0 : (L2.start [x] [V.str (tx t)])[0]? = some (some (V.str (tx t))) := rfl
      have hrf : ∀ b F' H', Ext FF F' → Ext F' H' → (∀ (a : Addr), H a ≠ none → FF a = none → H' a = H a ∧ F' a = none) → spf.post g (.va (.bl b)) [] → Q (V.bl b) H' := fun b F' H' u1 u2 u3 u4 =>
        hpost _ _ u4 (V.bl b) F' H' [] [] u1 u2 (fun a z1 z2 _ => ⟨(u3 a z1 z2).1, (u3 a z1 z2).2, List.not_mem_nil⟩) (.sh .nil) ⟨.bl b, rfl⟩ List.nodup_nil fun _ z => nomatch z
      refine ⟨_, h0, rfl, _, rfl, ?_⟩
      by_cases ht : t = []
      · subst ht
        rw [decide_eq_true rfl]
        show (if (!true) = true then _ else _)
        rw [if_neg (by decide)]
        exact hrf false FF H (Ext.refl _) hsub (fun a z1 z2 => ⟨rfl, z2⟩) (q1 rfl)
      · have hne : ¬ V.str (tx t) = V.str (tx []) := fun e => by
          injection e with e
          exact ht (tx_inj.mp e)
        rw [decide_eq_false hne]
        show (if (!false) = true then _ else _)
        rw [if_pos (by decide)]
        refine ⟨_, h0, tx t, rfl, ?_, ?_⟩
        · show (tx t).length + ((tx t).length + 1) * (tx []).length ≤ 16777216
          have : (tx []).length = 0 := rfl
          rw [this, Nat.mul_zero]
          show t.toArray.size + 0 ≤ _
          rw [List.size_toArray]
          omega
        · rw [strike]
          obtain ⟨g', hp', hq'⟩ := q2 ht
          refine ⟨g', _, FF, [], .sh (.str _) .nil, List.nodup_nil, (fun _ z => nomatch z), hsub, hp', fun r outs hpo v F' H' L' fp u1 u2 u3 u4 u5 u6 u7 => ?_⟩
          obtain ⟨b, rfl, rfl, hb'⟩ := hq' r outs hpo
          obtain ⟨rb, _⟩ := u5
          cases rb
          exact hrf b F' H' u1 u2 (fun a z1 z2 => ⟨(u3 a z1 z2 List.not_mem_nil).1, (u3 a z1 z2 List.not_mem_nil).2.1⟩) hb'
end
end PW

namespace PW
open PySem L2
local macro_rules
  | `(tactic| array_get_dec) => `(tactic| (conv => whnf) <;> repeat (first | refine And.intro rfl ?_ | refine And.intro (by assumption) ?_ | refine ⟨_, rfl, ?_⟩ | refine And.intro (Nat.le_of_ble_eq_true rfl) ?_ | refine And.intro (sz (by first | omega | (simp only [List.length_append, List.length_cons, List.length_nil, List.length_map]; omega))) ?_ | refine And.intro (szl (by first | omega | (simp only [List.length_append, List.length_cons, List.length_nil, List.length_map]; omega))) ?_ | refine And.intro (by decide) ?_ | refine And.intro (.inr (by decide)) ?_ | refine And.intro (fun _ => trivial) ?_ | refine And.intro (fun (h : false = true) => Bool.noConfusion h) (fun _ => ?_) | refine And.intro (fun _ => ?_) (fun (h : true = false) => Bool.noConfusion h) | refine And.intro ⟨by decide, by decide, by decide⟩ ?_); (conv => whnf))
namespace SU
/-! ### supports: data -/
abbrev Tt := List Nat
abbrev Sp := Tt × List Tt
def tsD (ts : List Tt) : D := .lst (ts.map D.str)
def wdD (ts : List Tt) : D := .tup (ts.map D.str)
def spD (s : Sp) : D := .tup [.str s.1, wdD s.2]
def ssD (ss : List Sp) : D := .lst (ss.map spD)
def thingS : List Nat := [32, 33, 35, 36, 38, 39, 40, 41, 42, 43, 44, 45, 46, 47, 48, 49, 50, 51, 52, 53, 54, 55, 56, 57, 58, 59, 60, 61, 62, 63, 64, 65, 66, 67, 68, 69, 70, 71, 72, 73, 74, 75, 76, 77, 78, 79, 80, 81, 82, 83] ++ [84, 85, 86, 87, 88, 89, 90, 95, 96, 97, 98, 99, 100, 101, 102, 103, 104, 105, 106, 107, 108, 109, 110, 111, 112, 113, 114, 115, 116, 117, 118, 119, 120, 121, 122, 124]
theorem deq_str (a b : List Nat) : deq (.str a) (.str b) = decide (a = b) := by
  show PyData.eqv (.str (tx a)) (.str (tx b)) = _
  rw [PyData.eqv.eq_def]
  show (tx a == tx b) = _
  by_cases h : a = b
  · subst h; simp
  · have : tx a ≠ tx b := fun e => h (tx_inj.mp e)
    rw [decide_eq_false h]
    simpa using this
theorem deq_map {α : Type} [DecidableEq α] {f : α → D} (h : ∀ a b, deq (f a) (f b) = decide (a = b)) : ∀ as bs : List α, PyData.eqvAll (D.pyL (as.map f)) (D.pyL (bs.map f)) = decide (as = bs)
  | [], [] => by rw [PyData.eqvAll.eq_def]; rfl
  | [], b :: bs => by rw [PyData.eqvAll.eq_def]; simp [D.pyL]
  | a :: as, [] => by rw [PyData.eqvAll.eq_def]; simp [D.pyL]
  | a :: as, b :: bs => by
    have ih := deq_map h as bs
    have h1 := h a b
    rw [PyData.eqvAll.eq_def]
    show (PyData.eqv (f a).py (f b).py && PyData.eqvAll (D.pyL (as.map f)) (D.pyL (bs.map f))) = _
    rw [ih]
    rw [show PyData.eqv (f a).py (f b).py = decide (a = b) from h1]
    by_cases e1 : a = b <;> by_cases e2 : as = bs <;> simp [e1, e2]
theorem deq_tup {α : Type} [DecidableEq α] {f : α → D} (h : ∀ a b, deq (f a) (f b) = decide (a = b)) (as bs : List α) : deq (.tup (as.map f)) (.tup (bs.map f)) = decide (as = bs) := by
  show PyData.eqv (.tuple (D.pyL (as.map f))) (.tuple (D.pyL (bs.map f))) = _
  rw [PyData.eqv.eq_def]
  exact deq_map h as bs
theorem dep_map {α : Type} {f : α → D} {k : Nat} (h : ∀ a, (f a).py.depth ≤ k) : ∀ as : List α, PyData.depthAll (D.pyL (as.map f)) ≤ k
  | [] => by rw [PyData.depthAll.eq_def]; exact Nat.zero_le _
  | a :: as => by
    rw [PyData.depthAll.eq_def]
    show max (f a).py.depth (PyData.depthAll (D.pyL (as.map f))) ≤ k
    exact Nat.max_le.mpr ⟨h a, dep_map h as⟩
theorem dep_tup {α : Type} {f : α → D} {k : Nat} (h : ∀ a, (f a).py.depth ≤ k) (as : List α) : (D.tup (as.map f)).py.depth ≤ k + 1 := by
  show PyData.depth (.tuple (D.pyL (as.map f))) ≤ k + 1
  rw [PyData.depth.eq_def]
  exact Nat.succ_le_succ (dep_map h as)
theorem dep_str (s : List Nat) : (D.str s).py.depth ≤ 0 := by
  show PyData.depth (.str (tx s)) ≤ 0
  rw [PyData.depth.eq_def]
  exact Nat.le_refl _
theorem any_str (tk : List (List Nat)) (s : List Nat) : (tk.map D.str).any (fun y => deq y (.str s)) = decide (s ∈ tk) := by
  induction tk with
  | nil => simp
  | cons a r ih =>
    rw [List.map_cons, List.any_cons, ih, deq_str]
    by_cases e : a = s
    · subst e; simp
    · have e' : ¬ s = a := fun q => e q.symm
      simp [e, e']

theorem deq_lst {α : Type} [DecidableEq α] {f : α → D} (h : ∀ a b, deq (f a) (f b) = decide (a = b)) (as bs : List α) : deq (.lst (as.map f)) (.lst (bs.map f)) = decide (as = bs) := by
  show PyData.eqv (.list (D.pyL (as.map f))) (.list (D.pyL (bs.map f))) = _
  rw [PyData.eqv.eq_def]
  exact deq_map h as bs
theorem dep_lst {α : Type} {f : α → D} {k : Nat} (h : ∀ a, (f a).py.depth ≤ k) (as : List α) : (D.lst (as.map f)).py.depth ≤ k + 1 := by
  show PyData.depth (.list (D.pyL (as.map f))) ≤ k + 1
  rw [PyData.depth.eq_def]
  exact Nat.succ_le_succ (dep_map h as)
theorem sh_str (a : Tt) : shallow (.str a) := Nat.le_trans (dep_str a) (by decide)
theorem sh_int (a : Int) : shallow (.int a) := by
  unfold shallow
  show PyData.depth (.int a) ≤ 60
  rw [PyData.depth.eq_def]
  exact Nat.zero_le _
theorem dep_wd (a : List Tt) : (wdD a).py.depth ≤ 1 := dep_tup dep_str a
theorem dep_sp (s : Sp) : (spD s).py.depth ≤ 2 := by
  show PyData.depth (.tuple [(D.str s.1).py, (wdD s.2).py]) ≤ 2
  rw [PyData.depth.eq_def]
  refine Nat.succ_le_succ ?_
  rw [PyData.depthAll.eq_def]
  refine Nat.max_le.mpr ⟨Nat.le_trans (dep_str s.1) (by decide), ?_⟩
  show PyData.depthAll [(wdD s.2).py] ≤ 1
  rw [PyData.depthAll.eq_def]
  refine Nat.max_le.mpr ⟨dep_wd s.2, ?_⟩
  show PyData.depthAll [] ≤ 1
  rw [PyData.depthAll.eq_def]
  exact Nat.zero_le _
theorem sh_ss (ss : List Sp) : shallow (ssD ss) := Nat.le_trans (dep_lst dep_sp ss) (by decide)
theorem sh_ts (ts : List Tt) : shallow (tsD ts) := Nat.le_trans (dep_lst dep_str ts) (by decide)
theorem deq_wd (a b : List Tt) : deq (wdD a) (wdD b) = decide (a = b) := deq_tup deq_str a b
theorem deq_pair (a b c d : D) : deq (.tup [a, b]) (.tup [c, d]) = (deq a c && deq b d) := by
  show PyData.eqv (.tuple [a.py, b.py]) (.tuple [c.py, d.py]) = _
  rw [PyData.eqv.eq_def]
  show PyData.eqvAll [a.py, b.py] [c.py, d.py] = _
  rw [PyData.eqvAll.eq_def]
  show (PyData.eqv a.py c.py && PyData.eqvAll [b.py] [d.py]) = _
  rw [PyData.eqvAll.eq_def]
  show (PyData.eqv a.py c.py && (PyData.eqv b.py d.py && PyData.eqvAll [] [])) = _
  rw [PyData.eqvAll.eq_def]
  show (PyData.eqv a.py c.py && (PyData.eqv b.py d.py && true)) = _
  rw [Bool.and_true]
  rfl
theorem deq_sp (a b : Sp) : deq (spD a) (spD b) = decide (a = b) := by
  unfold spD
  rw [deq_pair, deq_str, deq_wd]
  cases a; cases b
  simp [Prod.mk.injEq]
theorem deq_ss (a b : List Sp) : deq (ssD a) (ssD b) = decide (a = b) := deq_lst deq_sp a b
theorem deq_ts (a b : List Tt) : deq (tsD a) (tsD b) = decide (a = b) := deq_lst deq_str a b
theorem leafy_ts (ts : List Tt) : (ts.map D.str).all D.leafy = true := by
  rw [List.all_eq_true]
  intro d hd
  obtain ⟨m, _, rfl⟩ := List.mem_map.mp hd
  rfl
theorem leafy_ss (ss : List Sp) : (ss.map spD).all D.leafy = true := by
  rw [List.all_eq_true]
  intro d hd
  obtain ⟨m, _, rfl⟩ := List.mem_map.mp hd
  rfl
theorem cut_map {α β : Type} (f : α → β) (xs : List α) (lo hi : Option Int) : cutL (xs.map f) lo hi = (cutL xs lo hi).map f := by
  unfold cutL
  rw [List.length_map, List.map_take, List.map_drop]
theorem cut_len {α : Type} (xs : List α) (lo hi : Option Int) : (cutL xs lo hi).length ≤ xs.length := by
  unfold cutL
  rw [List.length_take, List.length_drop]
  omega
theorem cut_mem {α : Type} {xs : List α} {lo hi : Option Int} {x : α} (h : x ∈ cutL xs lo hi) : x ∈ xs := by
  unfold cutL at h
  exact List.mem_of_mem_drop (List.mem_of_mem_take h)
theorem get_map' {α : Type} {f : α → D} {xs : List α} {j : Nat} {d : D} (h : (xs.map f)[j]? = some d) : ∃ x, xs[j]? = some x ∧ d = f x := by
  rw [List.getElem?_map] at h
  obtain ⟨x, hx, rfl⟩ := Option.map_eq_some_iff.mp h
  exact ⟨x, hx, rfl⟩
theorem at_map {α : Type} {f : α → D} {xs : List α} {v : Int} (h0 : 0 ≤ v) (h1 : v < xs.length) : ∃ x, x ∈ xs ∧ atI (xs.map f) v = some (f x) := by
  obtain ⟨n, rfl⟩ := Int.eq_ofNat_of_zero_le h0
  have hn : n < xs.length := by omega
  exact ⟨xs[n], List.getElem_mem hn, atI_nat (by rw [List.getElem?_map, List.getElem?_eq_getElem hn]; rfl)⟩
/-! ### drawn things -/
/-- what a drawn thing is -/
structure OkT (t : Tt) : Prop where
  one : 1 ≤ t.length
  few : t.length ≤ 8000
  sg : ∀ c ∈ t, c ∈ thingS
def sp__law_things : PSp where
  G := Nat × D × Nat
  pre g ds := ds = [g.2.1, .int g.2.2] ∧ Dl (g.1 + 100 * g.2.2) g.2.1 ∧ g.2.2 ≤ 60
  post g r outs := ∃ ts d, r = .ow (tsD ts) ∧ outs = [d] ∧ Dl g.1 d ∧ ts.length = g.2.2 ∧ ∀ t ∈ ts, OkT t
def nm__law_things : PySem.Str := "_law_things"
-- _law_things ['deal', 'many', 'plain', 'found', 'k', 'size', 'text', 'turn'] mask [true, false] own ['deal', 'found']
def ir__law_things_1 : Ss :=
  .cons (.ifs (.cmp .In (.v 6) (.v 3)) (.cons (.asg (.nm 6) (.op .Add (.v 6) (.str [124]))) .nil) (.nil)) .nil
def ir__law_things_2 : Ss :=
  .cons (.asg (.nm 5) (.fz (.op .Add (.int 1) (.call nm__law_take sp__law_take [true, false] (.cons (.v 0) (.cons (.int 4) .nil)))))) (.cons (.ifs (.cmp .Eq (.call nm__law_take sp__law_take [true, false] (.cons (.v 0) (.cons (.int 8) .nil))) (.int 5)) (.cons (.asg (.nm 5) (.fz (.op .Add (.int 1) (.call nm__law_take sp__law_take [true, false] (.cons (.v 0) (.cons (.int 40) .nil)))))) .nil) (.nil)) (.cons (.asg (.nm 6) (.mt .join (.str []) (.cons (.lc (.nm 7) (.r1 (.v 5)) .yes (.ix (.v 2) (.call nm__law_take sp__law_take [true, false] (.cons (.v 0) (.cons (.int 86) .nil))))) .nil))) (.cons (.ifs (.an (.cmp .Gt (.v 4) (.int 0)) (.cmp .Eq (.call nm__law_take sp__law_take [true, false] (.cons (.v 0) (.cons (.int 4) .nil))) (.int 1))) (.cons (.asg (.nm 6) (.op .Add (.ix (.v 3) (.op .Sub (.v 4) (.int 1))) (.sl (.v 6) .no (.so (.int 1))))) .nil) (.nil)) (.cons (.for (.nm 7) (.r1 (.v 1)) ir__law_things_1) (.cons (.app 3 (.v 6)) .nil)))))
def ir__law_things : Ss :=
  .cons (.asg (.nm 2) (.str thingS)) (.cons (.asg (.nm 3) (.lst (.nil))) (.cons (.for (.nm 4) (.r1 (.v 1)) ir__law_things_2) (.cons (.ret (.mv 3)) .nil)))


theorem one_in (t : Tt) (h : ∀ c ∈ t, c ∈ thingS) : ∀ c ∈ t ++ [124], c ∈ thingS := by
  intro c hc
  rcases List.mem_append.mp hc with hc | hc
  · exact h c hc
  · rw [List.mem_singleton] at hc
    subst hc; decide
/-- what a thing under way is -/
def Tg (b : Nat) (t : Tt) : Prop := 1 ≤ t.length ∧ t.length ≤ b ∧ ∀ c ∈ t, c ∈ thingS
/-- | is put behind it while it is an old one -/
theorem th_fresh (ts : List Tt) (m b : Nat) (s0 s4 s5 : Slot) (hm : m ≤ 60) (hb : b ≤ 9000) (K : KS) (hK : ∀ t x7, Tg (b + m) t → K.nx [s0, .sh (.int m), .sh (.str thingS), .ow (tsD ts), s4, s5, .sh (.str t), x7]) (t : Tt) (x7 : Slot) (ht : Tg b t) :
    wFor (.nm 7) (wSs ir__law_things_1) K (rangeD 0 m) [s0, .sh (.int m), .sh (.str thingS), .ow (tsD ts), s4, s5, .sh (.str t), x7] := by
  refine for_range 0 m (fun j env => ∃ t x7, Tg (b + j) t ∧ env = [s0, .sh (.int m), .sh (.str thingS), .ow (tsD ts), s4, s5, .sh (.str t), x7]) ?_ ?_ _ ⟨t, x7, ht, rfl⟩
  · rintro env ⟨t, x7, ht, rfl⟩
    exact hK t x7 ht
  · rintro j env f hj ⟨t, x7, ht, rfl⟩ hf
    obtain ⟨h1, h2, h3⟩ := ht
    array_get_dec
    refine ⟨.inl (sh_str t), ?_⟩
    conv => whnf
    refine ⟨fun hc => ?_, fun hc => ?_⟩
    · array_get_dec
      refine hf _ ⟨t ++ [124], _, ⟨by rw [List.length_append]; omega, by rw [List.length_append]; simp; omega, one_in t h3⟩, rfl⟩
    · array_get_dec
      exact hf _ ⟨t, _, ⟨h1, by omega, h3⟩, rfl⟩
theorem th_size (m : Nat) (n : Nat) (z : Nat) (s3 s4 s6 s7 : Slot) (hz : 1 ≤ z ∧ z ≤ 41) (C : R → Env → Prop)
    (hC : ∀ t d' x7, Tg 41 t → Dl n d' → C (.va (.str t)) [.ow d', .sh (.int m), .sh (.str thingS), s3, s4, .sh (.int z), s6, x7]) (d : D) (hd : Dl (n + z) d) :
    wE (.mt .join (.str []) (.cons (.lc (.nm 7) (.r1 (.v 5)) .yes (.ix (.v 2) (.call nm__law_take sp__law_take [true, false] (.cons (.v 0) (.cons (.int 86) .nil))))) .nil)) [.ow d, .sh (.int m), .sh (.str thingS), s3, s4, .sh (.int z), s6, s7] C := by
  obtain ⟨pl, hpl⟩ : ∃ pl, pl = thingS := ⟨_, rfl⟩
  have h86 : pl.length = 86 := by rw [hpl]; rfl
  have hC : ∀ t d' x7, 1 ≤ t.length → t.length ≤ 41 → (∀ c ∈ t, c ∈ pl) → Dl n d' → C (.va (.str t)) [.ow d', .sh (.int m), .sh (.str pl), s3, s4, .sh (.int z), s6, x7] := by
    intro t d' x7 h1 h2 h3 h4
    rw [hpl]
    exact hC t d' x7 ⟨h1, h2, by rw [← hpl]; exact h3⟩ h4
  rw [← hpl]
  clear hpl
  array_get_dec
  refine ⟨⟨by omega, by omega⟩, ?_⟩
  array_get_dec
  refine lc_word (z := .no) n (fun _ => trivial) rfl rfl rfl (by decide) (by decide) (by decide) (hk_int h86) hd (by omega) (by omega) (by show z ≤ 10000; omega) fun cs d' z' hl hs hd' => ?_
  have hl : cs.length = z := hl
  conv => whnf
  refine ⟨cs.map fun c => [c], join_a cs, join_b (by omega), ?_⟩
  rw [joinT_one]
  array_get_dec
  exact hC cs d' _ (by omega) (by omega) hs hd'
theorem th_body (ts : List Tt) (m j n b : Nat) (s5 s6 s7 : Slot) (hm : m ≤ 60) (hj : j < m) (hjl : ts.length = j) (hts : ∀ t ∈ ts, Tg b t) (hb : b ≤ 8000) (d : D) (hd : Dl (n + 100) d) (K : KS)
    (hK : ∀ t d' x5 x7, Tg (b + 61 + m) t → Dl n d' → K.nx [.ow d', .sh (.int m), .sh (.str thingS), .ow (tsD (ts ++ [t])), .sh (.int j), x5, .sh (.str t), x7]) :
    wSs ir__law_things_2 [.ow d, .sh (.int m), .sh (.str thingS), .ow (tsD ts), .sh (.int j), s5, s6, s7] K := by
  have last : ∀ t d' x5 x7, Tg (b + 61) t → Dl n d' → wSs (tailS 4 ir__law_things_2) [.ow d', .sh (.int m), .sh (.str thingS), .ow (tsD ts), .sh (.int j), x5, .sh (.str t), x7] K := by
    intro t d' x5 x7 ht hd'
    conv => whnf
    refine ⟨⟨by omega, by omega⟩, ?_⟩
    conv => whnf
    refine ⟨fun _ => trivial, ?_⟩
    refine th_fresh ts m (b + 61) _ _ _ hm (by omega) _ (fun t x7 ht => ?_) t x7 ht
    conv => whnf
    refine ⟨szl (by rw [List.length_map]; omega), ?_⟩
    conv => whnf
    refine ⟨rfl, ?_⟩
    conv => whnf
    have := hK t d' x5 x7 ht hd'
    unfold tsD at this
    rw [List.map_append] at this
    exact this
  have mid : ∀ (z : Nat) d' x6 x7, 1 ≤ z → z ≤ 41 → Dl (n + 50) d' → wSs (tailS 2 ir__law_things_2) [.ow d', .sh (.int m), .sh (.str thingS), .ow (tsD ts), .sh (.int j), .sh (.int z), x6, x7] K := by
    intro z d' x6 x7 z1 z2 hd'
    refine (show wE (.mt .join (.str []) (.cons (.lc (.nm 7) (.r1 (.v 5)) .yes (.ix (.v 2) (.call nm__law_take sp__law_take [true, false] (.cons (.v 0) (.cons (.int 86) .nil))))) .nil)) _ _ from ?_)
    refine th_size m (n + 2) z _ _ _ _ ⟨z1, z2⟩ _ (fun t d2 x7 ht hd2 => ?_) d' (hd'.mono (by omega))
    conv => whnf
    refine ⟨fun hc => ?_, fun hc => ?_⟩
    · conv => whnf
      refine take_k (hd2.mono (Nat.le_refl _)) (by decide) fun v d3 hd3 v0 v1 => ?_
      conv => whnf
      refine ⟨fun hc2 => ?_, fun hc2 => ?_⟩
      · have hc : (0 : Int) < j := of_decide_eq_true hc
        obtain ⟨q, hq, eq⟩ := at_map (f := D.str) (xs := ts) (v := (j : Int) - 1) (by omega) (by omega)
        obtain ⟨q1, q2, q3⟩ := hts q hq
        obtain ⟨t1, t2, t3⟩ := ht
        conv => whnf
        refine ⟨_, eq, ?_⟩
        conv => whnf
        refine ⟨sz (by omega), ?_⟩
        conv => whnf
        have hcut : (cutL t none (some 1)).length ≤ 41 := Nat.le_trans (cut_len _ _ _) t2
        refine ⟨sz (by omega), ?_⟩
        conv => whnf
        refine last (q ++ cutL t none (some 1)) d3 _ _ ⟨by rw [List.length_append]; omega, by rw [List.length_append]; omega, fun c hc => ?_⟩ (hd3.mono (by omega))
        rcases List.mem_append.mp hc with hc | hc
        · exact q3 c hc
        · exact t3 c (cut_mem hc)
      · exact last t d3 _ _ ⟨ht.1, by have := ht.2.1; omega, ht.2.2⟩ (hd3.mono (by omega))
    · conv => whnf
      refine ⟨fun h => Bool.noConfusion h, fun _ => ?_⟩
      exact last t d2 _ _ ⟨ht.1, by have := ht.2.1; omega, ht.2.2⟩ (hd2.mono (by omega))
  conv => whnf
  refine take_k (n := n + 99) hd (by decide) fun v d' hd' v0 v1 => ?_
  conv => whnf
  refine take_k (n := n + 98) hd' (by decide) fun v2 d2 hd2 _ _ => ?_
  obtain ⟨a, rfl⟩ := Int.eq_ofNat_of_zero_le v0
  conv => whnf
  refine ⟨fun hc => ?_, fun hc => ?_⟩
  · conv => whnf
    refine take_k (n := n + 97) hd2 (by decide) fun v3 d3 hd3 w0 w1 => ?_
    obtain ⟨a3, rfl⟩ := Int.eq_ofNat_of_zero_le w0
    have := mid (1 + a3) d3 s6 s7 (by omega) (by omega) (hd3.mono (by omega))
    rw [Int.natCast_add] at this
    exact this
  · have := mid (1 + a) d2 s6 s7 (by omega) (by omega) (hd2.mono (by omega))
    rw [Int.natCast_add] at this
    exact this
theorem cor__law_things : Cor sp__law_things [true, false] 8 ir__law_things := by
  rintro ⟨n, d, m⟩ ds ⟨rfl, hd, hm⟩ hl
  clear hl
  have hd : Dl (n + 100 * m) d := hd
  have hm : m ≤ 60 := hm
  array_get_dec
  refine ⟨⟨by omega, by omega⟩, ?_⟩
  conv => whnf
  refine ⟨fun _ => trivial, ?_⟩
  refine for_range 0 m (fun j env => ∃ ts d x4 x5 x6 x7, (ts.length = j ∧ (∀ t ∈ ts, Tg (125 * j) t) ∧ Dl (n + 100 * (m - j)) d) ∧ env = [.ow d, .sh (.int m), .sh (.str thingS), .ow (tsD ts), x4, x5, x6, x7]) ?_ ?_ _ ⟨[], d, _, _, _, _, ⟨rfl, (fun _ z => nomatch z), hd⟩, rfl⟩
  · rintro env ⟨ts, d, x4, x5, x6, x7, ⟨h1, h2, h3⟩, rfl⟩
    have h1 : ts.length = m := h1
    have h2 : ∀ t ∈ ts, Tg (125 * m) t := h2
    array_get_dec
    exact ⟨ts, d, rfl, rfl, h3.mono (by omega), h1, fun t ht => ⟨(h2 t ht).1, by have := (h2 t ht).2.1; omega, (h2 t ht).2.2⟩⟩
  · rintro j env f hj ⟨ts, d, x4, x5, x6, x7, ⟨h1, h2, h3⟩, rfl⟩ hf
    rw [Int.zero_add]
    refine (show wSs ir__law_things_2 _ _ from ?_)
    refine th_body ts m j (n + 100 * (m - (j + 1))) (125 * j) x5 x6 x7 hm hj h1 h2 (by omega) d (h3.mono (by omega)) _ (fun t d' x5 x7 ht hd' => hf _ ⟨ts ++ [t], d', _, _, _, _, ⟨by rw [List.length_append, h1]; rfl, ?_, hd'⟩, rfl⟩)
    intro u hu
    rcases List.mem_append.mp hu with hu | hu
    · exact ⟨(h2 u hu).1, by have := (h2 u hu).2.1; omega, (h2 u hu).2.2⟩
    · rw [List.mem_singleton] at hu
      subst hu
      exact ⟨ht.1, by have := ht.2.1; omega, ht.2.2⟩

end SU
end PW

namespace PW
open PySem L2
local macro_rules
  | `(tactic| array_get_dec) => `(tactic| (conv => whnf) <;> repeat (first | refine And.intro rfl ?_ | refine And.intro (by assumption) ?_ | refine ⟨_, rfl, ?_⟩ | refine And.intro (Nat.le_of_ble_eq_true rfl) ?_ | refine And.intro (sz (by first | omega | (simp only [List.length_append, List.length_cons, List.length_nil, List.length_map]; omega))) ?_ | refine And.intro (szl (by first | omega | (simp only [List.length_append, List.length_cons, List.length_nil, List.length_map]; omega))) ?_ | refine And.intro (by decide) ?_ | refine And.intro (.inr (by decide)) ?_ | refine And.intro (fun _ => trivial) ?_ | refine And.intro (fun (h : false = true) => Bool.noConfusion h) (fun _ => ?_) | refine And.intro (fun _ => ?_) (fun (h : true = false) => Bool.noConfusion h) | refine And.intro ⟨by decide, by decide, by decide⟩ ?_); (conv => whnf))
namespace SU.K53
/-! ### k53: the things of claims -/
def clD (c : List Tt) : D := .tup (c.map D.str)
def addT (ts : List Tt) (t : Tt) : List Tt := if t ∈ ts then ts else ts ++ [t]
def lst2 (c : List Tt) : List Tt := cutL c (some (-2)) none
def thingsOf (cs : List (List Tt)) : List Tt := cs.foldl (fun ts c => (lst2 c).foldl addT ts) []
def sp_things_of : PSp where
  G := List (List Tt)
  pre | cs, ds => ds = [.lst (cs.map clD)] ∧ cs.length ≤ 1000 ∧ ∀ c ∈ cs, c.length ≤ 100
  post | cs, r, outs => r = .ow (.lst ((thingsOf cs).map D.str)) ∧ outs = []
def nm_things_of : PySem.Str := "things_of"
-- things_of ['claims', 'found', 'claim', 'thing'] mask [false] own ['found']
def ir_things_of_1 : Ss :=
  .cons (.dput 1 (.v 3) (.bl true)) .nil
def ir_things_of_2 : Ss :=
  .cons (.for (.nm 3) (.sq (.sl (.v 2) (.so (.neg (.int 2))) .no)) ir_things_of_1) .nil
def ir_things_of : Ss :=
  .cons (.asg (.nm 1) (.dnew)) (.cons (.for (.nm 2) (.sq (.v 0)) ir_things_of_2) (.cons (.ret (.cb .list (.cons (.v 1) .nil))) .nil))


theorem kix_s {ts : List Tt} {t : Tt} : (kix (ts.map Kd.s) (.s t)).isSome = decide (t ∈ ts) := by
  unfold kix
  rw [Bool.eq_iff_iff]
  simp
theorem addT_in {ts : List Tt} {t : Tt} (h : t ∈ ts) : addT ts t = ts := if_pos h
theorem addT_no {ts : List Tt} {t : Tt} (h : t ∉ ts) : addT ts t = ts ++ [t] := if_neg h
theorem set_const {α : Type} (us : List α) (q : Nat) (d : D) : (us.map fun _ => d).set q d = us.map fun _ => d := by
  refine List.ext_getElem (by simp) fun n h1 h2 => ?_
  rw [List.getElem_set]
  split
  · simp
  · rfl
theorem cor_things_of : Cor sp_things_of [false] 4 ir_things_of := by
  intro (cs : List (List Tt)) ds h hl
  obtain ⟨rfl, h1, h2⟩ := h
  clear hl
  array_get_dec
  refine for_list _ (fun j env => ∃ ts x2 x3, (ts = (cs.take j).foldl (fun ts c => (lst2 c).foldl addT ts) [] ∧ ts.length ≤ 100 * j) ∧ env = [.sh (.lst (cs.map clD)), .ow (.dct (ts.map Kd.s) (ts.map fun _ => .bl true)), x2, x3]) ?_ ?_ _ ⟨[], _, _, ⟨rfl, Nat.zero_le _⟩, rfl⟩
  · rintro env ⟨ts, x2, x3, ⟨hts, _⟩, rfl⟩
    rw [List.length_map, List.take_length] at hts
    array_get_dec
    subst hts
    rw [List.map_map]
    exact ⟨rfl, rfl⟩
  · rintro j d env f hd ⟨ts, x2, x3, ⟨hts, hlen⟩, rfl⟩ hf
    rw [List.getElem?_map] at hd
    obtain ⟨c, hc, rfl⟩ := Option.map_eq_some_iff.mp hd
    obtain ⟨hj, ec⟩ := List.getElem?_eq_some_iff.mp hc
    have hcl := h2 c (List.mem_of_getElem? hc)
    have hll : (lst2 c).length ≤ 100 := Nat.le_trans (cut_len _ _ _) hcl
    array_get_dec
    rw [cut_map]
    refine for_list _ (fun u env => ∃ us x3, (us = ((lst2 c).take u).foldl addT ts ∧ us.length ≤ 100 * j + u) ∧ env = [.sh (.lst (cs.map clD)), .ow (.dct (us.map Kd.s) (us.map fun _ => .bl true)), .sh (clD c), x3]) ?_ ?_ _ ⟨ts, _, ⟨rfl, hlen⟩, rfl⟩
    · rintro env ⟨us, x3, ⟨hus, hul⟩, rfl⟩
      rw [List.length_map] at hus hul
      have hl : (cutL c (some (-2)) none).length = (lst2 c).length := rfl
      rw [hl, List.take_length] at hus
      rw [hl] at hul
      refine hf _ ⟨us, _, _, ⟨?_, by omega⟩, rfl⟩
      rw [List.take_succ_eq_append_getElem hj, List.foldl_append, ← hts, ec]
      exact hus
    · rintro u d env f' hd ⟨us, x3, ⟨hus, hul⟩, rfl⟩ hf'
      rw [List.getElem?_map] at hd
      obtain ⟨t, ht, rfl⟩ := Option.map_eq_some_iff.mp hd
      obtain ⟨hu, et⟩ := List.getElem?_eq_some_iff.mp ht
      have hu : u < (lst2 c).length := hu
      array_get_dec
      have hk := kix_s (ts := us) (t := t)
      have hstep : ((lst2 c).take (u + 1)).foldl addT ts = addT us t := by
        rw [List.take_succ_eq_append_getElem hu, List.foldl_append, ← hus]
        show addT us (lst2 c)[u] = _
        rw [show (lst2 c)[u] = t from et]
      unfold dputD
      cases e : kix (us.map Kd.s) (.s t) with
      | none =>
        rw [e] at hk
        have hn : t ∉ us := of_decide_eq_false hk.symm
        refine hf' _ ⟨us ++ [t], .sh (.str t), ⟨?_, ?_⟩, ?_⟩
        · rw [hstep, addT_no hn]
        · rw [List.length_append]; simp; omega
        · rw [List.map_append, List.map_append]; rfl
      | some q =>
        rw [e] at hk
        have hn : t ∈ us := of_decide_eq_true hk.symm
        refine hf' _ ⟨us, .sh (.str t), ⟨?_, by omega⟩, ?_⟩
        · rw [hstep, addT_in hn]
        · show [_, Slot.ow (.dct _ ((us.map fun _ => D.bl true).set q (.bl true))), _, _] = _
          rw [set_const]

end SU.K53
end PW

namespace PW
open PySem L2
local macro_rules
  | `(tactic| array_get_dec) => `(tactic| (conv => whnf) <;> repeat (first | refine And.intro rfl ?_ | refine And.intro (by assumption) ?_ | refine ⟨_, rfl, ?_⟩ | refine And.intro (Nat.le_of_ble_eq_true rfl) ?_ | refine And.intro (sz (by first | omega | (simp only [List.length_append, List.length_cons, List.length_nil, List.length_map]; omega))) ?_ | refine And.intro (szl (by first | omega | (simp only [List.length_append, List.length_cons, List.length_nil, List.length_map]; omega))) ?_ | refine And.intro (by decide) ?_ | refine And.intro (.inr (by decide)) ?_ | refine And.intro (fun _ => trivial) ?_ | refine And.intro (fun (h : false = true) => Bool.noConfusion h) (fun _ => ?_) | refine And.intro (fun _ => ?_) (fun (h : true = false) => Bool.noConfusion h) | refine And.intro ⟨by decide, by decide, by decide⟩ ?_); (conv => whnf))
namespace SU.K53
/-! ### k53: names, things, claims judged -/
def sameT : Tt := [115, 97, 109, 101]
def diffT : Tt := [100, 105, 102, 102, 101, 114]
def ofT : Tt := [111, 102]
def keyT : Tt := [107, 101, 121]
def nm_is_thing : PySem.Str := "is_thing"
def thingB (t : Tt) : Bool := decide (t ≠ []) && isPlain (t.filter (· != 124))
def nameB (t : Tt) : Bool := decide (1 ≤ t.length ∧ t.length ≤ 12) && (match t with | c :: _ => decide (c ∈ smallS) | [] => false) && t.all fun c => decide (c ∈ nameS)
def thD : D → Bool
  | .str t => thingB t
  | _ => false
def ofB : List D → Bool
  | [.str n, a, b] => nameB n && [a, b].all thD
  | _ => false
def claimB : List D → Bool
  | [] => false
  | w :: r => if deq w (.str sameT) || deq w (.str diffT) then decide (r.length = 2) && r.all thD
    else if deq w (.str ofT) || deq w (.str keyT) then ofB r else false
def sp_is_thing : PSp where
  G := Tt
  pre t ds := ds = [.str t] ∧ t.length ≤ 16777216
  post t r outs := r = .va (.bl (thingB t)) ∧ outs = []
theorem thing_hs : ∀ g ds, sp_is_thing.pre g ds → ∃ t, ds = [.str t] ∧ t.length ≤ 16777216 ∧ (t = [] → sp_is_thing.post g (.va (.bl false)) []) ∧ (t ≠ [] → ∃ g', sp_is_plain.pre g' [.str (t.filter (· != 124))] ∧ ∀ r outs, sp_is_plain.post g' r outs → ∃ b, r = .va (.bl b) ∧ outs = [] ∧ sp_is_thing.post g (.va (.bl b)) []) := by
  rintro (t : Tt) ds ⟨rfl, hl⟩
  refine ⟨t, rfl, hl, fun e => ?_, fun e => ?_⟩
  · refine ⟨?_, rfl⟩
    unfold thingB
    rw [decide_eq_false (fun h => h e)]; rfl
  · refine ⟨_, ⟨rfl, trivial⟩, ?_⟩
    rintro _ _ ⟨rfl, rfl⟩
    refine ⟨_, rfl, rfl, ?_, rfl⟩
    unfold thingB
    rw [decide_eq_true e, Bool.true_and]
def sp_is_name : PSp where
  G := Tt
  pre t ds := ds = [.str t] ∧ t.length ≤ 100000
  post t r outs := r = .va (.bl (nameB t)) ∧ outs = []
def sp_are_things : PSp where
  G := List D
  pre xs ds := ds = [.tup xs] ∧ ∀ t, D.str t ∈ xs → t.length ≤ 100000
  post xs r outs := r = .va (.bl (xs.all thD)) ∧ outs = []
def sp_is_claim : PSp where
  G := List D
  pre xs ds := ds = [.tup xs] ∧ (∀ t, D.str t ∈ xs → t.length ≤ 100000) ∧ xs.all D.leafy = true
  post xs r outs := r = .va (.bl (claimB xs)) ∧ outs = []
def sp__law_yes : PSp where
  G := Bool
  pre b ds := ds = [.bl b] ∧ True
  post b r outs := r = .va (.bl b) ∧ outs = []
def sp__law_no : PSp where
  G := Bool
  pre b ds := ds = [.bl b] ∧ True
  post b r outs := r = .va (.bl (!b)) ∧ outs = []
def nm_SMALL : PySem.Str := "SMALL"
def g_SMALL : D := .str smallS
def nm_NAME_SIGNS : PySem.Str := "NAME_SIGNS"
def g_NAME_SIGNS : D := .str nameS
def nm_LONGEST_NAME : PySem.Str := "LONGEST_NAME"
def g_LONGEST_NAME : D := .int 12
def nm_is_name : PySem.Str := "is_name"
def nm_are_things : PySem.Str := "are_things"
def nm_is_claim : PySem.Str := "is_claim"
def nm__law_yes : PySem.Str := "_law_yes"
def nm__law_no : PySem.Str := "_law_no"
-- is_name ['text', 'sign'] mask [false] own []
def ir_is_name_1 : Ss :=
  .cons (.ifs (.cmp .NotIn (.v 1) (.gl nm_NAME_SIGNS g_NAME_SIGNS)) (.cons (.ret (.bl false)) .nil) (.nil)) .nil
def ir_is_name : Ss :=
  .cons (.ifs (.orr (.nt (.ch .LtE .LtE (.int 1) (.cb .len (.cons (.v 0) .nil)) (.gl nm_LONGEST_NAME g_LONGEST_NAME))) (.cmp .NotIn (.ix (.v 0) (.int 0)) (.gl nm_SMALL g_SMALL))) (.cons (.ret (.bl false)) .nil) (.nil)) (.cons (.for (.nm 1) (.sq (.v 0)) ir_is_name_1) (.cons (.ret (.bl true)) .nil))

-- are_things ['parts', 'part'] mask [false] own []
def ir_are_things_1 : Ss :=
  .cons (.ifs (.orr (.nt (.tr (.isi (.v 1) .str))) (.nt (.tr (.call nm_is_thing sp_is_thing [false] (.cons (.v 1) .nil))))) (.cons (.ret (.bl false)) .nil) (.nil)) .nil
def ir_are_things : Ss :=
  .cons (.for (.nm 1) (.sq (.v 0)) ir_are_things_1) (.cons (.ret (.bl true)) .nil)

-- is_claim ['claim', 'word'] mask [false] own []
def ir_is_claim : Ss :=
  .cons (.ifs (.cmp .Eq (.cb .len (.cons (.v 0) .nil)) (.int 0)) (.cons (.ret (.bl false)) .nil) (.nil)) (.cons (.asg (.nm 1) (.ix (.v 0) (.int 0))) (.cons (.ifs (.orr (.cmp .Eq (.v 1) (.str [115, 97, 109, 101])) (.cmp .Eq (.v 1) (.str [100, 105, 102, 102, 101, 114]))) (.cons (.ret (.an (.cmp .Eq (.cb .len (.cons (.v 0) .nil)) (.int 3)) (.call nm_are_things sp_are_things [false] (.cons (.sl (.v 0) (.so (.int 1)) .no) .nil)))) .nil) (.nil)) (.cons (.ifs (.orr (.cmp .Eq (.v 1) (.str [111, 102])) (.cmp .Eq (.v 1) (.str [107, 101, 121]))) (.cons (.ifs (.orr (.cmp .NotEq (.cb .len (.cons (.v 0) .nil)) (.int 4)) (.orr (.nt (.tr (.isi (.ix (.v 0) (.int 1)) .str))) (.nt (.tr (.call nm_is_name sp_is_name [false] (.cons (.ix (.v 0) (.int 1)) .nil)))))) (.cons (.ret (.bl false)) .nil) (.nil)) (.cons (.ret (.call nm_are_things sp_are_things [false] (.cons (.sl (.v 0) (.so (.int 2)) .no) .nil))) .nil)) (.nil)) (.cons (.ret (.bl false)) .nil))))

-- _law_yes ['told'] mask [false] own []
def ir__law_yes : Ss :=
  .cons (.ret (.an (.isi (.v 0) .bool) (.v 0))) .nil

-- _law_no ['told'] mask [false] own []
def ir__law_no : Ss :=
  .cons (.ret (.an (.isi (.v 0) .bool) (.nt (.v 0)))) .nil


theorem yes_k {b : Bool} {C : R → List D → Prop} (q : C (.va (.bl b)) []) : ∃ g : sp__law_yes.G, sp__law_yes.pre g [.bl b] ∧ ∀ r outs, sp__law_yes.post g r outs → C r outs := by
  refine ⟨b, ⟨rfl, trivial⟩, ?_⟩
  rintro _ _ ⟨rfl, rfl⟩
  exact q
theorem no_k {b : Bool} {C : R → List D → Prop} (q : C (.va (.bl (!b))) []) : ∃ g : sp__law_no.G, sp__law_no.pre g [.bl b] ∧ ∀ r outs, sp__law_no.post g r outs → C r outs := by
  refine ⟨b, ⟨rfl, trivial⟩, ?_⟩
  rintro _ _ ⟨rfl, rfl⟩
  exact q
theorem cor__law_yes : Cor sp__law_yes [false] 1 ir__law_yes := by
  rintro (b : Bool) ds ⟨rfl, _⟩ hl
  array_get_dec
theorem cor__law_no : Cor sp__law_no [false] 1 ir__law_no := by
  rintro (b : Bool) ds ⟨rfl, _⟩ hl
  array_get_dec
theorem name_k {t : Tt} {C : R → List D → Prop} (hl : t.length ≤ 100000) (k : C (.va (.bl (nameB t))) []) : ∃ g : sp_is_name.G, sp_is_name.pre g [.str t] ∧ ∀ r outs, sp_is_name.post g r outs → C r outs := by
  refine ⟨t, ⟨rfl, hl⟩, ?_⟩
  rintro _ _ ⟨rfl, rfl⟩
  exact k
theorem thing_k {t : Tt} {C : R → List D → Prop} (hl : t.length ≤ 100000) (k : C (.va (.bl (thingB t))) []) : ∃ g : sp_is_thing.G, sp_is_thing.pre g [.str t] ∧ ∀ r outs, sp_is_thing.post g r outs → C r outs := by
  refine ⟨t, ⟨rfl, Nat.le_trans hl (by decide)⟩, ?_⟩
  rintro _ _ ⟨rfl, rfl⟩
  exact k
theorem aret_k {xs : List D} {C : R → List D → Prop} (hl : ∀ t, D.str t ∈ xs → t.length ≤ 100000) (k : C (.va (.bl (xs.all thD))) []) : ∃ g : sp_are_things.G, sp_are_things.pre g [.tup xs] ∧ ∀ r outs, sp_are_things.post g r outs → C r outs := by
  refine ⟨xs, ⟨rfl, hl⟩, ?_⟩
  rintro _ _ ⟨rfl, rfl⟩
  exact k
theorem claim_k {xs : List D} {C : R → List D → Prop} (hl : ∀ t, D.str t ∈ xs → t.length ≤ 100000) (hf : xs.all D.leafy = true) (k : C (.va (.bl (claimB xs))) []) : ∃ g : sp_is_claim.G, sp_is_claim.pre g [.tup xs] ∧ ∀ r outs, sp_is_claim.post g r outs → C r outs := by
  refine ⟨xs, ⟨rfl, hl, hf⟩, ?_⟩
  rintro _ _ ⟨rfl, rfl⟩
  exact k
theorem all_none {α : Type} {f : α → Bool} {xs : List α} {k : Nat} {x : α} (h : xs[k]? = some x) (hf : f x = false) : xs.all f = false := by
  rw [← Bool.not_eq_true]
  intro z
  rw [List.all_eq_true.mp z x (List.mem_of_getElem? h)] at hf
  cases hf
theorem all_step {α : Type} {f : α → Bool} {xs : List α} {k : Nat} {x : α} (h : xs[k]? = some x) (hk : (xs.take k).all f = true) (hf : f x = true) : (xs.take (k + 1)).all f = true := by
  rw [List.take_add_one, h, List.all_append, hk]
  simp [hf]
theorem cor_is_name : Cor sp_is_name [false] 2 ir_is_name := by
  rintro (t : Tt) ds ⟨rfl, hz⟩ hl
  clear hl
  have hz : t.length ≤ 100000 := hz
  array_get_dec
  refine ⟨fun h1 => ?_, fun h1 => ?_⟩
  · have h1 : (1 : Int) ≤ (t.length : Nat) := of_decide_eq_true h1
    conv => whnf
    refine ⟨fun h2 => ?_, fun h2 => ?_⟩
    · have h2 : ¬ ((t.length : Nat) : Int) ≤ 12 := by simpa using h2
      array_get_dec
      refine ⟨?_, rfl⟩
      unfold nameB
      rw [decide_eq_false (by omega)]; rfl
    · have h2 : ((t.length : Nat) : Int) ≤ 12 := by simpa using h2
      obtain ⟨c, r, rfl⟩ : ∃ c r, t = c :: r := by
        cases t with
        | nil => simp at h1
        | cons c r => exact ⟨c, r, rfl⟩
      conv => whnf
      refine ⟨sz hz, c, atI_nat (j := 0) rfl, ?_⟩
      conv => whnf
      refine ⟨fun h3 => ?_, fun h3 => ?_⟩
      · have h3 : ¬ c ∈ smallS := by simpa using h3
        array_get_dec
        refine ⟨?_, rfl⟩
        unfold nameB
        simp [h3]
      · have h3 : c ∈ smallS := by simpa using h3
        conv => whnf
        refine ⟨fun _ => trivial, ?_⟩
        refine for_list _ (fun k env => ((c :: r).take k).all (fun c => decide (c ∈ nameS)) = true ∧ ∃ x, env = [.sh (.str (c :: r)), x]) ?_ ?_ _ ⟨rfl, .no, rfl⟩
        · rintro env ⟨h, x, rfl⟩
          rw [List.length_map, List.take_length] at h
          conv => whnf
          refine ⟨?_, rfl⟩
          unfold nameB
          rw [h, decide_eq_true (by omega)]
          simp [h3]
        · rintro k d env f hd ⟨h, x, rfl⟩ hf
          obtain ⟨e, he, rfl⟩ := map_get hd
          conv => whnf
          refine ⟨fun hc => ?_, fun hc => ?_⟩
          · have hm : ¬ e ∈ nameS := by simpa using hc
            conv => whnf
            refine ⟨?_, rfl⟩
            unfold nameB
            rw [all_none he (decide_eq_false hm), Bool.and_false]
          · have hm : e ∈ nameS := by simpa using hc
            conv => whnf
            exact hf _ ⟨all_step he h (decide_eq_true hm), _, rfl⟩
  · have h1 : ¬ (1 : Int) ≤ (t.length : Nat) := of_decide_eq_false h1
    array_get_dec
    refine ⟨?_, rfl⟩
    unfold nameB
    rw [decide_eq_false (by omega)]; rfl
theorem cor_are_things : Cor sp_are_things [false] 2 ir_are_things := by
  rintro (xs : List D) ds ⟨rfl, hz⟩ hl
  clear hl
  have hz : ∀ t, D.str t ∈ xs → t.length ≤ 100000 := hz
  array_get_dec
  refine for_list _ (fun k env => (xs.take k).all thD = true ∧ ∃ x, env = [.sh (.tup xs), x]) ?_ ?_ _ ⟨rfl, .no, rfl⟩
  · rintro env ⟨h, x, rfl⟩
    rw [List.take_length] at h
    array_get_dec
    exact ⟨by rw [h], rfl⟩
  · rintro k d env f hd ⟨h, x, rfl⟩ hf
    cases d with
    | str t =>
      conv => whnf
      refine ⟨fun h => Bool.noConfusion h, fun _ => ?_⟩
      conv => whnf
      refine thing_k (hz t (List.mem_of_getElem? hd)) ?_
      conv => whnf
      refine ⟨fun hc => ?_, fun hc => ?_⟩
      · have hc : (!(thingB t)) = true := hc
        have hc : thingB t = false := by simpa using hc
        array_get_dec
        exact ⟨by rw [all_none hd hc], rfl⟩
      · have hc : (!(thingB t)) = false := hc
        have hc : thingB t = true := by simpa using hc
        array_get_dec
        exact hf _ ⟨all_step hd h hc, _, rfl⟩
    | _ =>
      conv => whnf
      refine ⟨fun _ => ?_, fun h => Bool.noConfusion h⟩
      array_get_dec
      exact ⟨by rw [all_none hd rfl], rfl⟩
theorem eq_lf {w : D} {t : Tt} {C : Bool → Prop} (h : w.leafy = true) (k : C (deq w (.str t))) : cmpS .Eq w (.str t) C := by
  cases w with
  | dct _ _ => cases h
  | str s =>
    rw [deq_str] at k
    exact k
  | _ => exact ⟨.inr (sh_str t), k⟩
theorem two_ret (w : D) (r : List D) (hr : ∀ t, D.str t ∈ r → t.length ≤ 100000) (K : KS) (hK : K.rt (.va (.bl (decide (r.length = 2) && r.all thD))) [.sh (.tup (w :: r)), .sh w]) :
    wSs (.cons (.ret (.an (.cmp .Eq (.cb .len (.cons (.v 0) .nil)) (.int 3)) (.call nm_are_things sp_are_things [false] (.cons (.sl (.v 0) (.so (.int 1)) .no) .nil)))) .nil) [.sh (.tup (w :: r)), .sh w] K := by
  conv => whnf
  refine ⟨fun h => ?_, fun h => ?_⟩
  · have h : (((w :: r).length : Nat) : Int) = 3 := of_decide_eq_true h
    rw [List.length_cons] at h
    conv => whnf
    rw [show (1 : Int) = ((1 : Nat) : Int) from rfl, cut_drop]
    refine aret_k (xs := r) hr ?_
    conv => whnf
    rw [decide_eq_true (by omega), Bool.true_and] at hK
    exact hK
  · have h : ¬ (((w :: r).length : Nat) : Int) = 3 := of_decide_eq_false h
    rw [List.length_cons] at h
    rw [decide_eq_false (by omega), Bool.false_and] at hK
    exact hK
theorem of_ret (w : D) (r : List D) (hr : ∀ t, D.str t ∈ r → t.length ≤ 100000) (K : KS) (hK : K.rt (.va (.bl (ofB r))) [.sh (.tup (w :: r)), .sh w]) :
    wSs (.cons (.ifs (.orr (.cmp .NotEq (.cb .len (.cons (.v 0) .nil)) (.int 4)) (.orr (.nt (.tr (.isi (.ix (.v 0) (.int 1)) .str))) (.nt (.tr (.call nm_is_name sp_is_name [false] (.cons (.ix (.v 0) (.int 1)) .nil)))))) (.cons (.ret (.bl false)) .nil) (.nil)) (.cons (.ret (.call nm_are_things sp_are_things [false] (.cons (.sl (.v 0) (.so (.int 2)) .no) .nil))) .nil)) [.sh (.tup (w :: r)), .sh w] K := by
  have no : r.length ≠ 3 → ofB r = false := by
    intro h
    unfold ofB
    split
    · exact absurd rfl h
    · rfl
  conv => whnf
  refine ⟨fun h => ?_, fun h => ?_⟩
  · have h : ¬ (((w :: r).length : Nat) : Int) = 4 := by simpa using h
    rw [List.length_cons] at h
    rw [no (by omega)] at hK
    array_get_dec
    exact hK
  · have h : (((w :: r).length : Nat) : Int) = 4 := by simpa using h
    rw [List.length_cons] at h
    obtain ⟨n, a, b, rfl⟩ : ∃ n a b, r = [n, a, b] := by
      rcases r with _ | ⟨n, _ | ⟨a, _ | ⟨b, _ | ⟨c, r⟩⟩⟩⟩
      · simp at h
      · simp at h
      · simp at h
      · exact ⟨n, a, b, rfl⟩
      · simp only [List.length_cons] at h; omega
    cases n with
    | str n =>
      have hn : n.length ≤ 100000 := hr n List.mem_cons_self
      conv => whnf
      refine ⟨_, rfl, ?_⟩
      conv => whnf
      refine ⟨fun h => Bool.noConfusion h, fun _ => ?_⟩
      conv => whnf
      refine ⟨_, rfl, ?_⟩
      conv => whnf
      refine name_k hn ?_
      have hK : K.rt (.va (.bl (nameB n && [a, b].all thD))) [.sh (.tup [w, .str n, a, b]), .sh w] := hK
      generalize nameB n = q at hK
      cases q with
      | false =>
        array_get_dec
        exact hK
      | true =>
        array_get_dec
        refine aret_k (xs := [a, b]) (fun t ht => hr t (List.mem_cons_of_mem _ ht)) ?_
        array_get_dec
        exact hK
    | _ =>
      conv => whnf
      refine ⟨_, rfl, ?_⟩
      array_get_dec
      exact hK
theorem cor_is_claim : Cor sp_is_claim [false] 2 ir_is_claim := by
  rintro (xs : List D) ds ⟨rfl, hz, hf⟩ hl
  clear hl
  have hz : ∀ t, D.str t ∈ xs → t.length ≤ 100000 := hz
  have hf : xs.all D.leafy = true := hf
  cases xs with
  | nil => array_get_dec
  | cons w r =>
    have hr : ∀ t, D.str t ∈ r → t.length ≤ 100000 := fun t ht => hz t (List.mem_cons_of_mem _ ht)
    have hw : w.leafy = true := by
      rw [List.all_cons, Bool.and_eq_true] at hf
      exact hf.1
    have rest2 : deq w (.str sameT) = false → deq w (.str diffT) = false → wSs (tailS 3 ir_is_claim) [.sh (.tup (w :: r)), .sh w] (ends sp_is_claim [false] (w :: r)) := by
      intro q1 q2
      have e0 : claimB (w :: r) = if deq w (.str ofT) || deq w (.str keyT) then ofB r else false := by
        show (if deq w (.str sameT) || deq w (.str diffT) then _ else _) = _
        rw [q1, q2]; rfl
      conv => whnf
      refine (show cmpS .Eq w (.str ofT) _ from ?_)
      refine eq_lf hw ?_
      cases q3 : deq w (.str ofT) with
      | true =>
        conv => whnf
        refine ⟨fun _ => ?_, fun h => Bool.noConfusion h⟩
        conv => whnf
        refine ⟨fun _ => ?_, fun h => Bool.noConfusion h⟩
        refine of_ret w r hr _ ?_
        refine ⟨?_, rfl⟩
        rw [e0, q3]; rfl
      | false =>
        conv => whnf
        refine ⟨fun h => Bool.noConfusion h, fun _ => ?_⟩
        conv => whnf
        refine (show cmpS .Eq w (.str keyT) _ from ?_)
        refine eq_lf hw ?_
        cases q4 : deq w (.str keyT) with
        | true =>
          conv => whnf
          refine ⟨fun _ => ?_, fun h => Bool.noConfusion h⟩
          refine of_ret w r hr _ ?_
          refine ⟨?_, rfl⟩
          rw [e0, q3, q4]; rfl
        | false =>
          conv => whnf
          refine ⟨fun h => Bool.noConfusion h, fun _ => ?_⟩
          conv => whnf
          refine ⟨?_, rfl⟩
          rw [e0, q3, q4]; rfl
    conv => whnf
    refine ⟨fun h => ?_, fun _ => ?_⟩
    · simp at h; omega
    conv => whnf
    refine ⟨w, atI_nat (j := 0) rfl, ?_⟩
    conv => whnf
    refine (show cmpS .Eq w (.str sameT) _ from ?_)
    refine eq_lf hw ?_
    cases q1 : deq w (.str sameT) with
    | true =>
      conv => whnf
      refine ⟨fun _ => ?_, fun h => Bool.noConfusion h⟩
      conv => whnf
      refine ⟨fun _ => ?_, fun h => Bool.noConfusion h⟩
      refine two_ret w r hr _ ?_
      refine ⟨?_, rfl⟩
      show _ = R.va (.bl (if deq w (.str sameT) || deq w (.str diffT) then _ else _))
      rw [q1]; rfl
    | false =>
      conv => whnf
      refine ⟨fun h => Bool.noConfusion h, fun _ => ?_⟩
      conv => whnf
      refine (show cmpS .Eq w (.str diffT) _ from ?_)
      refine eq_lf hw ?_
      cases q2 : deq w (.str diffT) with
      | true =>
        conv => whnf
        refine ⟨fun _ => ?_, fun h => Bool.noConfusion h⟩
        refine two_ret w r hr _ ?_
        refine ⟨?_, rfl⟩
        show _ = R.va (.bl (if deq w (.str sameT) || deq w (.str diffT) then _ else _))
        rw [q1, q2]; rfl
      | false =>
        conv => whnf
        refine ⟨fun h => Bool.noConfusion h, fun _ => ?_⟩
        exact rest2 q1 q2

end SU.K53
end PW

namespace PW
open PySem L2
local macro_rules
  | `(tactic| array_get_dec) => `(tactic| (conv => whnf) <;> repeat (first | refine And.intro rfl ?_ | refine And.intro (by assumption) ?_ | refine ⟨_, rfl, ?_⟩ | refine And.intro (Nat.le_of_ble_eq_true rfl) ?_ | refine And.intro (sz (by first | omega | (simp only [List.length_append, List.length_cons, List.length_nil, List.length_map]; omega))) ?_ | refine And.intro (szl (by first | omega | (simp only [List.length_append, List.length_cons, List.length_nil, List.length_map]; omega))) ?_ | refine And.intro (by decide) ?_ | refine And.intro (.inr (by decide)) ?_ | refine And.intro (fun _ => trivial) ?_ | refine And.intro (fun (h : false = true) => Bool.noConfusion h) (fun _ => ?_) | refine And.intro (fun _ => ?_) (fun (h : true = false) => Bool.noConfusion h) | refine And.intro ⟨by decide, by decide, by decide⟩ ?_); (conv => whnf))
namespace SU.K53
/-! ### k53: wrong parts, names -/
/-- what a drawn name is -/
structure OkN (t : Tt) : Prop where
  ok : nameB t = true
  fst : ∃ c r, t = c :: r ∧ c ∈ smallS ∧ r.length ≤ 11 ∧ ∀ e ∈ r, e ∈ nameS
def sp__law_bad_text : PSp where
  G := Nat × D × Tt
  pre g ds := ds = [g.2.1, .str g.2.2] ∧ Dl (g.1 + 2) g.2.1 ∧ g.2.2.length ≤ 9000
  post g r outs := ∃ u d, r = .va (.str u) ∧ outs = [d] ∧ Dl g.1 d ∧ u.length ≤ 20000 ∧ thingB u = false
def sp__law_bad_part : PSp where
  G := Nat × D × Tt
  pre g ds := ds = [g.2.1, .str g.2.2] ∧ Dl (g.1 + 4) g.2.1 ∧ g.2.2.length ≤ 9000
  post g r outs := ∃ x d, r = .va x ∧ outs = [d] ∧ Dl g.1 d ∧ x.leafy = true ∧ thD x = false ∧ ∀ t, x = .str t → t.length ≤ 20000
def sp__law_function : PSp where
  G := Nat × D × Nat
  pre g ds := ds = [g.2.1, .int g.2.2] ∧ Dl (g.1 + 20) g.2.1 ∧ 1 ≤ g.2.2 ∧ g.2.2 ≤ 12
  post g r outs := ∃ t d, r = .va (.str t) ∧ outs = [d] ∧ Dl g.1 d ∧ OkN t
def sp__law_bad_function : PSp where
  G := Nat × D × Tt
  pre g ds := ds = [g.2.1, .str g.2.2] ∧ Dl (g.1 + 4) g.2.1 ∧ OkN g.2.2
  post g r outs := ∃ x d, r = .va x ∧ outs = [d] ∧ Dl g.1 d ∧ x.leafy = true ∧ ∀ t, x = .str t → t.length ≤ 100 ∧ nameB t = false
def nm__law_bad_text : PySem.Str := "_law_bad_text"
def nm__law_bad_part : PySem.Str := "_law_bad_part"
def nm__law_function : PySem.Str := "_law_function"
def nm__law_bad_function : PySem.Str := "_law_bad_function"
-- _law_bad_text ['deal', 'thing', 'bad', 'at'] mask [true, false] own ['deal']
def ir__law_bad_text : Ss :=
  .cons (.asg (.nm 2) (.str [34, 91, 93, 123, 125, 94, 126, 92, 10, 9])) (.cons (.asg (.nm 3) (.fz (.call nm__law_take sp__law_take [true, false] (.cons (.v 0) (.cons (.op .Add (.cb .len (.cons (.v 1) .nil)) (.int 1)) .nil))))) (.cons (.ret (.op .Add (.op .Add (.sl (.v 1) .no (.so (.v 3))) (.ix (.v 2) (.call nm__law_take sp__law_take [true, false] (.cons (.v 0) (.cons (.int 10) .nil))))) (.sl (.v 1) (.so (.v 3)) .no))) .nil))

-- _law_bad_part ['deal', 'thing', 'odd'] mask [true, false] own ['deal']
def ir__law_bad_part : Ss :=
  .cons (.asg (.nm 2) (.fz (.lst (.cons (.non) (.cons (.bl true) (.cons (.int 0) (.cons (.int 7) (.cons (.tup (.cons (.v 1) .nil)) (.cons (.fzw (.lst (.nil))) (.cons (.str []) (.cons (.bl false) .nil))))))))))) (.cons (.ifs (.cmp .Eq (.call nm__law_take sp__law_take [true, false] (.cons (.v 0) (.cons (.int 2) .nil))) (.int 0)) (.cons (.ret (.ix (.v 2) (.call nm__law_take sp__law_take [true, false] (.cons (.v 0) (.cons (.int 8) .nil))))) .nil) (.nil)) (.cons (.ret (.call nm__law_bad_text sp__law_bad_text [true, false] (.cons (.v 0) (.cons (.v 1) .nil)))) .nil))

-- _law_function ['deal', 'size', 'small', 'name', 'k'] mask [true, false] own ['deal']
def ir__law_function_1 : Ss :=
  .cons (.asg (.nm 3) (.op .Add (.v 3) (.ix (.v 2) (.call nm__law_take sp__law_take [true, false] (.cons (.v 0) (.cons (.int 36) .nil)))))) .nil
def ir__law_function : Ss :=
  .cons (.asg (.nm 2) (.str nameS2)) (.cons (.asg (.nm 3) (.ix (.v 2) (.call nm__law_take sp__law_take [true, false] (.cons (.v 0) (.cons (.int 26) .nil))))) (.cons (.for (.nm 4) (.r1 (.op .Sub (.v 1) (.int 1))) ir__law_function_1) (.cons (.ret (.v 3)) .nil)))

-- _law_bad_function ['deal', 'name', 'odd'] mask [true, false] own ['deal', 'odd']
def ir__law_bad_function : Ss :=
  .cons (.asg (.nm 2) (.lst (.cons (.str []) (.cons (.op .Add (.str [55]) (.sl (.v 1) (.so (.int 1)) .no)) (.cons (.str []) (.cons (.op .Add (.mt .upper (.sl (.v 1) .no (.so (.int 1))) (.nil)) (.sl (.v 1) (.so (.int 1)) .no)) (.cons (.non) (.cons (.int 5) (.cons (.bl true) (.cons (.tup (.cons (.v 1) .nil)) (.cons (.fzw (.lst (.nil))) .nil))))))))))) (.cons (.set 2 (.int 2) (.op .Add (.sl (.op .Add (.v 1) (.str [97, 98, 99, 100, 101, 102, 103, 104, 105, 106, 107, 108])) .no (.so (.int 11))) (.str [109, 110]))) (.cons (.app 2 (.op .Add (.sl (.v 1) .no (.so (.int 11))) (.str [124]))) (.cons (.app 2 (.op .Add (.sl (.v 1) .no (.so (.int 11))) (.ix (.lst (.cons (.str [95]) (.cons (.str [45]) (.cons (.str [32]) (.cons (.str [46]) (.cons (.str [90]) .nil)))))) (.call nm__law_take sp__law_take [true, false] (.cons (.v 0) (.cons (.int 5) .nil)))))) (.cons (.app 2 (.op .Add (.str [32]) (.sl (.v 1) .no (.so (.int 11))))) (.cons (.ret (.ix (.v 2) (.call nm__law_take sp__law_take [true, false] (.cons (.v 0) (.cons (.cb .len (.cons (.v 2) .nil)) .nil))))) .nil)))))


theorem bad_sign {c : Nat} (h1 : c ∉ plainS) (h2 : c ≠ 124) (a b : Tt) : thingB (a ++ [c] ++ b) = false := by
  unfold thingB
  rw [Bool.and_eq_false_iff]
  refine .inr ?_
  rw [← Bool.not_eq_true]
  intro z
  have := List.all_eq_true.mp z c (List.mem_filter.mpr ⟨by simp, by simpa using h2⟩)
  exact h1 (of_decide_eq_true this)
theorem cor__law_bad_text : Cor sp__law_bad_text [true, false] 4 ir__law_bad_text := by
  rintro ⟨n, d, t⟩ ds ⟨rfl, hd, hz⟩ hl
  clear hl
  have hd : Dl (n + 2) d := hd
  have hz : t.length ≤ 9000 := hz
  dsimp only
  array_get_dec
  refine take_k (n := n + 1) hd (by omega) fun v d1 hd1 v0 v1 => ?_
  have la := cut_len t none (some v)
  have lb := cut_len t (some v) none
  array_get_dec
  refine take_k (n := n) hd1 (by decide) fun v2 d2 hd2 w0 w1 => ?_
  obtain ⟨c, hc, hm⟩ := at_mem (s := [34, 91, 93, 123, 125, 94, 126, 92, 10, 9]) w0 w1
  array_get_dec
  refine ⟨_, hc, ?_⟩
  array_get_dec
  refine ⟨_, d2, rfl, rfl, hd2, ?_, bad_sign ?_ ?_ _ _⟩
  · rw [List.length_append, List.length_append, List.length_cons, List.length_nil]; omega
  · have : ∀ c ∈ [34, 91, 93, 123, 125, 94, 126, 92, 10, 9], c ∉ plainS := by decide
    exact this c hm
  · intro e; subst e; revert hm; decide
theorem btext_k {n : Nat} {d : D} {t : Tt} {C : R → List D → Prop} (hd : Dl (n + 2) d) (hz : t.length ≤ 9000) (k : ∀ u d', Dl n d' → u.length ≤ 20000 → thingB u = false → C (.va (.str u)) [d']) : ∃ g : sp__law_bad_text.G, sp__law_bad_text.pre g [d, .str t] ∧ ∀ r outs, sp__law_bad_text.post g r outs → C r outs := by
  refine ⟨(n, d, t), ⟨rfl, hd, hz⟩, ?_⟩
  rintro _ _ ⟨u, d', rfl, rfl, q1, q2, q3⟩
  exact k u d' q1 q2 q3
theorem lst1 {d : D} {k : List D → Prop} (h : d.leafy = true) (w : k [d]) : lstK [.va d] k := ⟨h, w⟩
/-- d[t] = v where the dict's values are given by a map -/
theorem item_lf {b : Bool} {x : D} {C : R → Prop} (h : x.leafy = true) (k : C (.va x)) : item b x C := by
  cases b <;> cases x <;> first | exact k | cases h
theorem at_any {α : Type} {xs : List α} {v : Int} (h0 : 0 ≤ v) (h1 : v < xs.length) : ∃ c, atI xs v = some c ∧ c ∈ xs := by
  obtain ⟨n, rfl⟩ := Int.eq_ofNat_of_zero_le h0
  have hn : n < xs.length := by omega
  exact ⟨xs[n], atI_nat (List.getElem?_eq_getElem hn), List.getElem_mem hn⟩
theorem cor__law_bad_part : Cor sp__law_bad_part [true, false] 3 ir__law_bad_part := by
  rintro ⟨n, d, t⟩ ds ⟨rfl, hd, hz⟩ hl
  clear hl
  have hd : Dl (n + 4) d := hd
  have hz : t.length ≤ 9000 := hz
  dsimp only
  array_get_dec
  refine take_k (n := n + 3) hd (by decide) fun v d1 hd1 v0 v1 => ?_
  conv => whnf
  refine ⟨fun _ => ?_, fun _ => ?_⟩
  · array_get_dec
    refine take_k (n := n + 2) hd1 (by decide) fun v2 d2 hd2 w0 w1 => ?_
    obtain ⟨x, hx, hm⟩ := at_any (xs := [D.non, D.bl true, D.int 0, D.int 7, D.tup [D.str t], D.flz [], D.str [], D.bl false]) w0 w1
    conv => whnf
    refine ⟨_, hx, ?_⟩
    simp only [List.mem_cons, List.not_mem_nil, or_false] at hm
    conv => whnf
    have hp : x.leafy = true ∧ thD x = false ∧ ∀ t, x = .str t → t.length ≤ 20000 := by
      rcases hm with rfl | rfl | rfl | rfl | rfl | rfl | rfl | rfl
      · exact ⟨rfl, rfl, fun t e => nomatch e⟩
      · exact ⟨rfl, rfl, fun t e => nomatch e⟩
      · exact ⟨rfl, rfl, fun t e => nomatch e⟩
      · exact ⟨rfl, rfl, fun t e => nomatch e⟩
      · exact ⟨rfl, rfl, fun t e => nomatch e⟩
      · exact ⟨rfl, rfl, fun t e => nomatch e⟩
      · exact ⟨rfl, rfl, fun t e => by injection e with e; subst e; exact Nat.zero_le _⟩
      · exact ⟨rfl, rfl, fun t e => nomatch e⟩
    exact ⟨x, d2, rfl, rfl, hd2.mono (by omega), hp⟩
  · array_get_dec
    refine btext_k (n := n + 1) hd1 hz fun u d2 hd2 q1 q2 => ?_
    conv => whnf
    exact ⟨_, d2, rfl, rfl, hd2.mono (by omega), rfl, q2, fun t e => by injection e with e; subst e; exact q1⟩
theorem bpart_k {n : Nat} {d : D} {t : Tt} {C : R → List D → Prop} (hd : Dl (n + 4) d) (hz : t.length ≤ 9000) (k : ∀ x d', Dl n d' → x.leafy = true → thD x = false → (∀ t, x = .str t → t.length ≤ 20000) → C (.va x) [d']) : ∃ g : sp__law_bad_part.G, sp__law_bad_part.pre g [d, .str t] ∧ ∀ r outs, sp__law_bad_part.post g r outs → C r outs := by
  refine ⟨(n, d, t), ⟨rfl, hd, hz⟩, ?_⟩
  rintro _ _ ⟨u, d', rfl, rfl, q1, q2, q3, q4⟩
  exact k u d' q1 q2 q3 q4
theorem cor__law_function : Cor sp__law_function [true, false] 5 ir__law_function := by
  rintro ⟨n, d, z⟩ ds ⟨rfl, hd, h1, h2⟩ hl
  clear hl
  have hd : Dl (n + 20) d := hd
  have h1 : 1 ≤ z := h1
  have h2 : z ≤ 12 := h2
  dsimp only
  array_get_dec
  refine take_k (n := n + 19) hd (by decide) fun v d1 hd1 v0 v1 => ?_
  obtain ⟨v, rfl⟩ := Int.eq_ofNat_of_zero_le v0
  have hv : v < 26 := by omega
  have hv2 : v < nameS2.length := by rw [show nameS2.length = 36 from rfl]; omega
  have hc : nameS2[v] ∈ smallS := by
    have e : nameS2 = smallS ++ [48, 49, 50, 51, 52, 53, 54, 55, 56, 57] := rfl
    have hs : v < smallS.length := by rw [show smallS.length = 26 from rfl]; exact hv
    have : nameS2[v]? = smallS[v]? := by rw [e, List.getElem?_append_left hs]
    rw [List.getElem?_eq_getElem hv2, List.getElem?_eq_getElem hs] at this
    injection this with this
    rw [this]
    exact List.getElem_mem hs
  have ha : atI nameS2 (v : Int) = some nameS2[v] := atI_nat (List.getElem?_eq_getElem hv2)
  generalize nameS2[v] = c at hc ha
  obtain ⟨m, rfl⟩ : ∃ m, z = m + 1 := ⟨z - 1, by omega⟩
  have h36 : nameS2.length ≤ sizeLine := by rw [show nameS2.length = 36 from rfl]; decide
  conv => whnf
  refine ⟨h36, c, ha, ?_⟩
  conv => whnf
  refine ⟨by omega, ?_⟩
  rw [show (((m + 1 : Nat) : Int) - 1) = ((m : Nat) : Int) by omega]
  conv => whnf
  refine ⟨fun _ => trivial, ?_⟩
  refine for_range 0 m (fun j env => ∃ r d x4, (r.length = j ∧ (∀ e ∈ r, e ∈ nameS2) ∧ Dl (n + 19 - j) d) ∧ env = [.ow d, .sh (.int ((m + 1 : Nat) : Int)), .sh (.str nameS2), .sh (.str (c :: r)), x4]) ?_ ?_ _ ⟨[], d1, _, ⟨rfl, (fun _ q => nomatch q), hd1⟩, rfl⟩
  · rintro env ⟨r, d2, x4, ⟨q1, q2, q3⟩, rfl⟩
    have q1 : r.length = m := q1
    conv => whnf
    have sub : ∀ e ∈ nameS2, e ∈ nameS := by decide
    have sub2 : ∀ e ∈ smallS, e ∈ nameS := by decide
    refine ⟨c :: r, d2, rfl, rfl, q3.mono (by omega), ?_, c, r, rfl, hc, by omega, fun e he => sub e (q2 e he)⟩
    unfold nameB
    rw [decide_eq_true (by rw [List.length_cons]; omega), Bool.true_and, Bool.and_eq_true, List.all_eq_true]
    refine ⟨decide_eq_true hc, fun e he => decide_eq_true ?_⟩
    rcases List.mem_cons.mp he with he | he
    · rw [he]; exact sub2 c hc
    · exact sub e (q2 e he)
  · rintro j env f hj ⟨r, d2, x4, ⟨q1, q2, q3⟩, rfl⟩ hf
    have q1 : r.length = j := q1
    rw [Int.zero_add]
    obtain ⟨k, hk⟩ : ∃ k, n + 19 - j = k + 1 := ⟨n + 19 - j - 1, by omega⟩
    rw [hk] at q3
    conv => whnf
    refine take_k (n := k) q3 (by decide) fun v d3 hd3 v0 v1 => ?_
    obtain ⟨e, he, hm⟩ := at_mem (s := nameS2) v0 (by rw [show nameS2.length = 36 from rfl]; omega)
    conv => whnf
    refine ⟨h36, _, he, ?_⟩
    conv => whnf
    refine ⟨sz (by rw [List.length_cons, List.length_cons, List.length_nil]; omega), ?_⟩
    conv => whnf
    refine hf _ ⟨r ++ [e], d3, _, ⟨by rw [List.length_append, q1]; rfl, fun u hu => ?_, ?_⟩, rfl⟩
    · rcases List.mem_append.mp hu with hu | hu
      · exact q2 u hu
      · rw [List.mem_singleton] at hu
        rw [hu]; exact hm
    · rw [show n + 19 - (j + 1) = k by omega]; exact hd3
theorem func_k {n z : Nat} {d : D} {C : R → List D → Prop} (hd : Dl (n + 20) d) (h1 : 1 ≤ z) (h2 : z ≤ 12) (k : ∀ t d', Dl n d' → OkN t → C (.va (.str t)) [d']) : ∃ g : sp__law_function.G, sp__law_function.pre g [d, .int z] ∧ ∀ r outs, sp__law_function.post g r outs → C r outs := by
  refine ⟨(n, d, z), ⟨rfl, hd, h1, h2⟩, ?_⟩
  rintro _ _ ⟨t, d', rfl, rfl, q1, q2⟩
  exact k t d' q1 q2
theorem up_small : ∀ c ∈ smallS, upT [c] = [c - 32] := by decide +kernel
theorem name_fst {c : Nat} {r : Tt} (h : c ∉ smallS) : nameB (c :: r) = false := by
  unfold nameB
  simp [h]
theorem name_in {t : Tt} {c : Nat} (h : c ∉ nameS) (hm : c ∈ t) : nameB t = false := by
  unfold nameB
  rw [Bool.and_eq_false_iff]
  refine .inr ?_
  rw [← Bool.not_eq_true]
  intro z
  exact h (of_decide_eq_true (List.all_eq_true.mp z c hm))
theorem name_long {t : Tt} (h : 13 ≤ t.length) : nameB t = false := by
  unfold nameB
  rw [decide_eq_false (by omega)]; rfl
theorem name_nil : nameB [] = false := rfl
theorem cut_one {c : Nat} {r : Tt} : cutL (c :: r) none (some 1) = [c] := by
  rw [show (1 : Int) = ((1 : Nat) : Int) from rfl, cut_take]; rfl
theorem cut_rest {c : Nat} {r : Tt} : cutL (c :: r) (some 1) none = r := by
  rw [show (1 : Int) = ((1 : Nat) : Int) from rfl, cut_drop]; rfl
theorem cor__law_bad_function : Cor sp__law_bad_function [true, false] 3 ir__law_bad_function := by
  rintro ⟨n, d, t⟩ ds ⟨rfl, hd, ok⟩ hl
  clear hl
  have hd : Dl (n + 4) d := hd
  have ok : OkN t := ok
  obtain ⟨c, r, rfl, hc, hr, hrs⟩ := ok.fst
  dsimp only
  have l0 : (c :: r).length ≤ 12 := by rw [List.length_cons]; omega
  have ua := up_small c hc
  have l11 := cut_len (c :: r) none (some 11)
  conv => whnf
  refine ⟨sz (by omega), ?_⟩
  rw [cut_rest]
  conv => whnf
  refine ⟨sz (by rw [List.length_cons, List.length_nil]; omega), ?_⟩
  conv => whnf
  refine ⟨sz (by omega), ?_⟩
  rw [cut_one]
  conv => whnf
  refine ⟨rfl, ?_⟩
  conv => whnf
  refine ⟨Nat.le_of_ble_eq_true rfl, ?_⟩
  rw [ua]
  conv => whnf
  refine ⟨sz (by omega), ?_⟩
  rw [cut_rest]
  conv => whnf
  refine ⟨sz (by rw [List.length_cons, List.length_nil]; omega), ?_⟩
  array_get_dec
  have e11 : (cutL (c :: r ++ [97, 98, 99, 100, 101, 102, 103, 104, 105, 106, 107, 108]) none (some 11)).length = 11 := by
    rw [show (11 : Int) = ((11 : Nat) : Int) from rfl, cut_take, List.length_take, List.length_append]
    simp
  generalize cutL (c :: r ++ [97, 98, 99, 100, 101, 102, 103, 104, 105, 106, 107, 108]) none (some 11) = P at e11
  refine ⟨sz (by rw [e11]; decide), ?_⟩
  array_get_dec
  generalize cutL (c :: r) none (some 11) = M at l11
  refine take_k (n := n + 3) hd (by decide) fun v d1 hd1 v0 v1 => ?_
  obtain ⟨u, hu, hm⟩ := at_any (xs := [D.str [95], D.str [45], D.str [32], D.str [46], D.str [90]]) v0 v1
  obtain ⟨e, rfl, he⟩ : ∃ e, u = .str [e] ∧ e ∉ nameS := by
    simp only [List.mem_cons, List.not_mem_nil, or_false] at hm
    rcases hm with rfl | rfl | rfl | rfl | rfl
    · exact ⟨_, rfl, by decide⟩
    · exact ⟨_, rfl, by decide⟩
    · exact ⟨_, rfl, by decide⟩
    · exact ⟨_, rfl, by decide⟩
    · exact ⟨_, rfl, by decide⟩
  conv => whnf
  refine ⟨_, hu, ?_⟩
  array_get_dec
  have l11' := cut_len (c :: r) none (some 11)
  generalize cutL (c :: r) none (some 11) = M2 at l11'
  refine ⟨sz (by rw [List.length_cons, List.length_nil]; omega), ?_⟩
  rw [show ([D.str [], D.str ([55] ++ r), D.str [], D.str ([c - 32] ++ r), D.non, D.int 5, D.bl true, D.tup [D.str (c :: r)], D.flz []].set (Int.toNat 2) ([D.str (P ++ [109, 110])].headD D.non) ++ [D.str (M ++ [124])] ++ [D.str (M ++ [e])]) = [D.str [], D.str ([55] ++ r), D.str (P ++ [109, 110]), D.str ([c - 32] ++ r), D.non, D.int 5, D.bl true, D.tup [D.str (c :: r)], D.flz [], D.str (M ++ [124]), D.str (M ++ [e])] from rfl]
  conv => whnf
  refine ⟨szl (show _ < 100000 from Nat.lt_of_lt_of_le (Nat.lt_succ_self 11) (by decide)), ?_⟩
  refine lst1 rfl ?_
  obtain ⟨L, hL⟩ : ∃ L, L = [D.str [], D.str ([55] ++ r), D.str (P ++ [109, 110]), D.str ([c - 32] ++ r), D.non, D.int 5, D.bl true, D.tup [D.str (c :: r)], D.flz [], D.str (M ++ [124]), D.str (M ++ [e])] ++ [D.str ([32] ++ M2)] := ⟨_, rfl⟩
  rw [← hL]
  have hLe : L.length = 12 := by rw [hL]; rfl
  have hP : ∀ x ∈ L, x.leafy = true ∧ ∀ t, x = .str t → t.length ≤ 100 ∧ nameB t = false := by
    intro x hx
    rw [hL] at hx
    simp only [List.cons_append, List.nil_append, List.mem_cons, List.not_mem_nil, or_false] at hx
    rcases hx with rfl | rfl | rfl | rfl | rfl | rfl | rfl | rfl | rfl | rfl | rfl | rfl
    · exact ⟨rfl, fun t q => by injection q with q; subst q; exact ⟨Nat.zero_le _, rfl⟩⟩
    · exact ⟨rfl, fun t q => by injection q with q; subst q; exact ⟨by rw [List.length_cons]; omega, name_fst (by decide)⟩⟩
    · exact ⟨rfl, fun t q => by injection q with q; subst q; exact ⟨by rw [List.length_append, e11]; decide, name_long (by rw [List.length_append, e11]; decide)⟩⟩
    · have hs : ∀ c ∈ smallS, c - 32 ∉ smallS := by decide
      exact ⟨rfl, fun t q => by injection q with q; subst q; exact ⟨by rw [List.length_cons]; omega, name_fst (hs c hc)⟩⟩
    · exact ⟨rfl, fun t q => nomatch q⟩
    · exact ⟨rfl, fun t q => nomatch q⟩
    · exact ⟨rfl, fun t q => nomatch q⟩
    · exact ⟨rfl, fun t q => nomatch q⟩
    · exact ⟨rfl, fun t q => nomatch q⟩
    · exact ⟨rfl, fun t q => by injection q with q; subst q; exact ⟨by rw [List.length_append, List.length_cons, List.length_nil]; omega, name_in (c := 124) (by decide) (by simp)⟩⟩
    · exact ⟨rfl, fun t q => by injection q with q; subst q; exact ⟨by rw [List.length_append, List.length_cons, List.length_nil]; omega, name_in he (by simp)⟩⟩
    · exact ⟨rfl, fun t q => by injection q with q; subst q; exact ⟨by rw [List.length_cons]; omega, name_fst (by decide)⟩⟩
  clear hL
  conv => whnf
  rw [hLe]
  refine take_k (n := n + 2) hd1 (by decide) fun v2 d2 hd2 w0 w1 => ?_
  obtain ⟨x, hx, hm2⟩ := at_any (xs := L) w0 (by rw [hLe]; exact w1)
  obtain ⟨q1, q2⟩ := hP x hm2
  conv => whnf
  refine ⟨_, hx, ?_⟩
  refine item_lf q1 ?_
  conv => whnf
  exact ⟨x, d2, rfl, rfl, hd2.mono (by omega), q1, q2⟩
theorem bfunc_k {n : Nat} {d : D} {t : Tt} {C : R → List D → Prop} (hd : Dl (n + 4) d) (ok : OkN t) (k : ∀ x d', Dl n d' → x.leafy = true → (∀ t, x = .str t → t.length ≤ 100 ∧ nameB t = false) → C (.va x) [d']) : ∃ g : sp__law_bad_function.G, sp__law_bad_function.pre g [d, .str t] ∧ ∀ r outs, sp__law_bad_function.post g r outs → C r outs := by
  refine ⟨(n, d, t), ⟨rfl, hd, ok⟩, ?_⟩
  rintro _ _ ⟨x, d', rfl, rfl, q1, q2, q3⟩
  exact k x d' q1 q2 q3

end SU.K53
end PW

namespace PW
open PySem L2
local macro_rules
  | `(tactic| array_get_dec) => `(tactic| (conv => whnf) <;> repeat (first | refine And.intro rfl ?_ | refine And.intro (by assumption) ?_ | refine ⟨_, rfl, ?_⟩ | refine And.intro (Nat.le_of_ble_eq_true rfl) ?_ | refine And.intro (sz (by first | omega | (simp only [List.length_append, List.length_cons, List.length_nil, List.length_map]; omega))) ?_ | refine And.intro (szl (by first | omega | (simp only [List.length_append, List.length_cons, List.length_nil, List.length_map]; omega))) ?_ | refine And.intro (by decide) ?_ | refine And.intro (.inr (by decide)) ?_ | refine And.intro (fun _ => trivial) ?_ | refine And.intro (fun (h : false = true) => Bool.noConfusion h) (fun _ => ?_) | refine And.intro (fun _ => ?_) (fun (h : true = false) => Bool.noConfusion h) | refine And.intro ⟨by decide, by decide, by decide⟩ ?_); (conv => whnf))
namespace SU.K53
/-! ### k53: wrong claims, drawn claims -/
structure OkX (t : Tt) : Prop where
  th : thingB t = true
  few : t.length ≤ 9000
def OkC (c : List Tt) : Prop := ∃ w a b, OkX a ∧ OkX b ∧ ((c = [w, a, b] ∧ (w = sameT ∨ w = diffT)) ∨ ∃ n, OkN n ∧ c = [w, n, a, b] ∧ (w = ofT ∨ w = keyT))
def Wrong (row : List D) : Prop := claimB row = false ∧ row.all D.leafy = true ∧ ∀ t, D.str t ∈ row → t.length ≤ 100000
def sp__law_wrong_claims : PSp where
  G := Nat × D × List Tt × Tt
  pre g ds := ds = [g.2.1, clD g.2.2.1, .str g.2.2.2] ∧ Dl (g.1 + 20) g.2.1 ∧ OkC g.2.2.1 ∧ g.2.2.2.length ≤ 9000
  post g r outs := ∃ (rows : List (List D)) (d : D), r = .ow (.lst (rows.map D.tup)) ∧ outs = [d] ∧ Dl g.1 d ∧ ∀ row ∈ rows, Wrong row
def sp__law_claims : PSp where
  G := Nat × D × List Tt × Tt
  pre g ds := ds = [g.2.1, tsD g.2.2.1, .str g.2.2.2] ∧ Dl (g.1 + 200) g.2.1 ∧ 0 < g.2.2.1.length ∧ g.2.2.1.length ≤ 100
  post g r outs := ∃ (cs : List (List Tt)) (d : D), r = .ow (.lst (cs.map clD)) ∧ outs = [d] ∧ Dl g.1 d ∧ cs.length ≤ 60 ∧ ∀ c ∈ cs, c.length ≤ 4
def nm__law_wrong_claims : PySem.Str := "_law_wrong_claims"
def nm__law_claims : PySem.Str := "_law_claims"
-- _law_wrong_claims ['deal', 'claim', 'thing', 'rows', 'words'] mask [true, false, false] own ['deal', 'rows']
def ir__law_wrong_claims_1 : Ss :=
  .cons (.app 3 (.op .Add (.tup (.cons (.str [115, 97, 109, 101]) .nil)) (.sl (.v 1) (.so (.int 1)) .no))) (.cons (.app 3 (.op .Add (.tup (.cons (.str [100, 105, 102, 102, 101, 114]) .nil)) (.sl (.v 1) (.so (.int 1)) .no))) (.cons (.app 3 (.op .Add (.tup (.cons (.ix (.v 1) (.int 0)) (.cons (.call nm__law_bad_function sp__law_bad_function [true, false] (.cons (.v 0) (.cons (.ix (.v 1) (.int 1)) .nil))) .nil))) (.sl (.v 1) (.so (.int 2)) .no))) .nil))
def ir__law_wrong_claims : Ss :=
  .cons (.asg (.nm 3) (.lst (.cons (.tup (.nil)) (.cons (.sl (.v 1) .no (.so (.neg (.int 1)))) (.cons (.op .Add (.v 1) (.tup (.cons (.v 2) .nil))) (.cons (.sl (.v 1) .no (.so (.int 1))) (.cons (.sl (.v 1) (.so (.int 2)) .no) .nil))))))) (.cons (.asg (.nm 4) (.fz (.lst (.cons (.str [83, 97, 109, 101]) (.cons (.str []) (.cons (.str [115, 97, 109, 101, 32]) (.cons (.str [105, 115]) (.cons (.str [111, 110]) (.cons (.str [116, 111, 108, 100]) (.cons (.str [111, 102, 115]) (.cons (.str [107, 101, 121, 115]) (.cons (.str [100, 105, 102, 102, 101, 114, 115]) (.cons (.non) (.cons (.int 1) (.cons (.tup (.cons (.str [115, 97, 109, 101]) .nil)) (.cons (.str [97, 115, 107, 101, 100]) .nil)))))))))))))))) (.cons (.app 3 (.op .Add (.tup (.cons (.ix (.v 4) (.call nm__law_take sp__law_take [true, false] (.cons (.v 0) (.cons (.int 13) .nil)))) .nil)) (.sl (.v 1) (.so (.int 1)) .no))) (.cons (.ifs (.cmp .Eq (.cb .len (.cons (.v 1) .nil)) (.int 4)) (ir__law_wrong_claims_1) (.cons (.app 3 (.op .Add (.tup (.cons (.str [111, 102]) .nil)) (.sl (.v 1) (.so (.int 1)) .no))) (.cons (.app 3 (.op .Add (.tup (.cons (.str [107, 101, 121]) .nil)) (.sl (.v 1) (.so (.int 1)) .no))) .nil))) (.cons (.app 3 (.op .Add (.sl (.v 1) .no (.so (.neg (.int 1)))) (.tup (.cons (.call nm__law_bad_part sp__law_bad_part [true, false] (.cons (.v 0) (.cons (.v 2) .nil))) .nil)))) (.cons (.app 3 (.op .Add (.op .Add (.sl (.v 1) .no (.so (.neg (.int 2)))) (.tup (.cons (.call nm__law_bad_part sp__law_bad_part [true, false] (.cons (.v 0) (.cons (.v 2) .nil))) .nil))) (.sl (.v 1) (.so (.neg (.int 1))) .no))) (.cons (.ret (.mv 3)) .nil))))))

-- _law_claims ['deal', 'things', 'name', 'claims', 'many', 'k', 'pair', 'word'] mask [true, false, false] own ['claims', 'deal']
def ir__law_claims_1 : Ss :=
  .cons (.asg (.nm 6) (.tup (.cons (.ix (.v 1) (.call nm__law_take sp__law_take [true, false] (.cons (.v 0) (.cons (.cb .len (.cons (.v 1) .nil)) .nil)))) (.cons (.ix (.v 1) (.call nm__law_take sp__law_take [true, false] (.cons (.v 0) (.cons (.cb .len (.cons (.v 1) .nil)) .nil)))) .nil)))) (.cons (.asg (.nm 7) (.ix (.lst (.cons (.str [115, 97, 109, 101]) (.cons (.str [100, 105, 102, 102, 101, 114]) (.cons (.str [111, 102]) (.cons (.str [107, 101, 121]) .nil))))) (.call nm__law_take sp__law_take [true, false] (.cons (.v 0) (.cons (.int 4) .nil))))) (.cons (.ifs (.orr (.cmp .Eq (.v 7) (.str [111, 102])) (.cmp .Eq (.v 7) (.str [107, 101, 121]))) (.cons (.asg (.nm 6) (.op .Add (.tup (.cons (.v 2) .nil)) (.v 6))) .nil) (.nil)) (.cons (.app 3 (.op .Add (.tup (.cons (.v 7) .nil)) (.v 6))) .nil)))
def ir__law_claims : Ss :=
  .cons (.asg (.nm 3) (.lst (.nil))) (.cons (.asg (.nm 4) (.fz (.call nm__law_take sp__law_take [true, false] (.cons (.v 0) (.cons (.int 13) .nil))))) (.cons (.ifs (.cmp .Eq (.call nm__law_take sp__law_take [true, false] (.cons (.v 0) (.cons (.int 8) .nil))) (.int 2)) (.cons (.asg (.nm 4) (.fz (.call nm__law_take sp__law_take [true, false] (.cons (.v 0) (.cons (.int 51) .nil))))) .nil) (.nil)) (.cons (.for (.nm 5) (.r1 (.v 4)) ir__law_claims_1) (.cons (.ret (.mv 3)) .nil))))


theorem clA {w : Tt} {r : List D} (h : w = sameT ∨ w = diffT) : claimB (.str w :: r) = (decide (r.length = 2) && r.all thD) := by
  show (if deq (.str w) (.str sameT) || deq (.str w) (.str diffT) then _ else _) = _
  rw [deq_str, deq_str, if_pos]
  rcases h with rfl | rfl <;> decide
theorem clO {w : Tt} {r : List D} (h : w = ofT ∨ w = keyT) : claimB (.str w :: r) = ofB r := by
  show (if deq (.str w) (.str sameT) || deq (.str w) (.str diffT) then _ else if deq (.str w) (.str ofT) || deq (.str w) (.str keyT) then ofB r else false) = _
  rw [deq_str, deq_str, deq_str, deq_str, if_neg, if_pos]
  · rcases h with rfl | rfl <;> decide
  · rcases h with rfl | rfl <;> decide
/-- no word of a claim -/
def NoW (x : D) : Prop := deq x (.str sameT) = false ∧ deq x (.str diffT) = false ∧ deq x (.str ofT) = false ∧ deq x (.str keyT) = false
theorem clX {x : D} {r : List D} (h : NoW x) : claimB (x :: r) = false := by
  show (if deq x (.str sameT) || deq x (.str diffT) then _ else if deq x (.str ofT) || deq x (.str keyT) then ofB r else false) = _
  rw [h.1, h.2.1, h.2.2.1, h.2.2.2]; rfl
theorem cl1 (x : D) : claimB [x] = false := by
  show (if deq x (.str sameT) || deq x (.str diffT) then decide ((0 : Nat) = 2) && true else if deq x (.str ofT) || deq x (.str keyT) then false else false) = _
  split
  · rfl
  · split <;> rfl
theorem cl2 (x y : D) : claimB [x, y] = false := by
  show (if deq x (.str sameT) || deq x (.str diffT) then decide ((1 : Nat) = 2) && _ else if deq x (.str ofT) || deq x (.str keyT) then ofB [y] else false) = _
  split
  · rfl
  · split
    · unfold ofB
      split
      · rename_i h; cases h
      · rfl
    · rfl
theorem noW_str {s : Tt} (h : decide (s = sameT ∨ s = diffT ∨ s = ofT ∨ s = keyT) = false) : NoW (.str s) := by
  have h := of_decide_eq_false h
  unfold NoW
  rw [deq_str, deq_str, deq_str, deq_str]
  exact ⟨decide_eq_false fun e => h (.inl e), decide_eq_false fun e => h (.inr (.inl e)), decide_eq_false fun e => h (.inr (.inr (.inl e))), decide_eq_false fun e => h (.inr (.inr (.inr e)))⟩
theorem deq_non_str (s : Tt) : deq .non (.str s) = false := by
  show PyData.eqv .none (.str (tx s)) = false
  rw [PyData.eqv.eq_def]
theorem deq_int_str (i : Int) (s : Tt) : deq (.int i) (.str s) = false := by
  show PyData.eqv (.int i) (.str (tx s)) = false
  rw [PyData.eqv.eq_def]
theorem deq_tup_str (a s : Tt) : deq (.tup [.str a]) (.str s) = false := by
  show PyData.eqv (.tuple [.str (tx a)]) (.str (tx s)) = false
  rw [PyData.eqv.eq_def]
theorem wrongL {row : List D} (h : claimB row = false) (hl : ∀ x ∈ row, x.leafy = true ∧ ∀ t, x = .str t → t.length ≤ 100000) : Wrong row :=
  ⟨h, List.all_eq_true.mpr fun x hx => (hl x hx).1, fun t ht => (hl _ ht).2 t rfl⟩
/-- an element of a row that is short enough -/
def El (x : D) : Prop := x.leafy = true ∧ ∀ t, x = .str t → t.length ≤ 100000
theorem el_str {t : Tt} (h : t.length ≤ 20000) : El (.str t) := ⟨rfl, fun u e => by injection e with e; subst e; omega⟩
def wordsD : List D := [D.str [83, 97, 109, 101], D.str [], D.str [115, 97, 109, 101, 32], D.str [105, 115], D.str [111, 110], D.str [116, 111, 108, 100], D.str [111, 102, 115], D.str [107, 101, 121, 115], D.str [100, 105, 102, 102, 101, 114, 115], D.non, D.int 1, D.tup [D.str [115, 97, 109, 101]], D.str [97, 115, 107, 101, 100]]
theorem words_no {x : D} (h : x ∈ wordsD) : NoW x ∧ El x := by
  unfold wordsD at h
  simp only [List.mem_cons, List.not_mem_nil, or_false] at h
  rcases h with rfl | rfl | rfl | rfl | rfl | rfl | rfl | rfl | rfl | rfl | rfl | rfl | rfl
  all_goals first
    | exact ⟨noW_str (by decide), el_str (by decide)⟩
    | exact ⟨⟨deq_non_str _, deq_non_str _, deq_non_str _, deq_non_str _⟩, rfl, fun t e => nomatch e⟩
    | exact ⟨⟨deq_int_str _ _, deq_int_str _ _, deq_int_str _ _, deq_int_str _ _⟩, rfl, fun t e => nomatch e⟩
    | exact ⟨⟨deq_tup_str _ _, deq_tup_str _ _, deq_tup_str _ _, deq_tup_str _ _⟩, rfl, fun t e => nomatch e⟩
def ElL : List D → Prop
  | [] => True
  | x :: r => El x ∧ ElL r
theorem elL : ∀ {xs : List D}, ElL xs → ∀ x ∈ xs, El x
  | [], _, _, h => nomatch h
  | y :: r, h, x, hx => by
    rcases List.mem_cons.mp hx with hx | hx
    · rw [hx]; exact h.1
    · exact elL h.2 x hx
def WrL : List (List D) → Prop
  | [] => True
  | x :: r => (claimB x = false ∧ ElL x) ∧ WrL r
theorem wrong_all : ∀ {rows : List (List D)}, WrL rows → ∀ row ∈ rows, Wrong row
  | [], _, _, h => nomatch h
  | y :: r, h, x, hx => by
    rcases List.mem_cons.mp hx with hx | hx
    · rw [hx]; exact wrongL h.1.1 (elL h.1.2)
    · exact wrong_all h.2 x hx
theorem of_f {f a b : D} (h : ∀ t, f = .str t → nameB t = false) : ofB [f, a, b] = false := by
  cases f with
  | str t =>
    show (nameB t && _) = false
    rw [h t rfl]; rfl
  | _ => rfl
theorem nd_lf {x : D} {P : Prop} (h : x.leafy = true) (k : P) : ndK x P := by
  cases x <;> first | exact k | cases h
theorem cor__law_wrong_claims : Cor sp__law_wrong_claims [true, false, false] 5 ir__law_wrong_claims := by
  rintro ⟨n, d, c, t⟩ ds ⟨rfl, hd, ok, hz⟩ hl
  clear hl
  have hd : Dl (n + 20) d := hd
  have hz : t.length ≤ 9000 := hz
  obtain ⟨w, a, b, oa, ob, ⟨rfl, hw⟩ | ⟨nm, on, rfl, hw⟩⟩ := ok
  · have wl : w.length ≤ 6 := by rcases hw with rfl | rfl <;> decide
    show wSs ir__law_wrong_claims [.ow d, .sh (.tup [.str w, .str a, .str b]), .sh (.str t), .no, .no] _
    array_get_dec
    refine take_k (n := n + 19) hd (by decide) fun v d1 hd1 v0 v1 => ?_
    obtain ⟨x, hx, hm⟩ := at_any (xs := wordsD) v0 v1
    obtain ⟨xn, xe⟩ := words_no hm
    conv => whnf
    refine ⟨_, hx, ?_⟩
    conv => whnf
    refine (show ndK x _ from ?_)
    refine nd_lf xe.1 ?_
    array_get_dec
    refine bpart_k (n := n + 15) (hd1.mono (by omega)) hz fun y d2 hd2 y1 y2 y3 => ?_
    conv => whnf
    refine (show ndK y _ from ?_)
    refine nd_lf y1 ?_
    array_get_dec
    refine bpart_k (n := n + 11) (hd2.mono (by omega)) hz fun z d3 hd3 z1 z2 z3 => ?_
    conv => whnf
    refine (show ndK z _ from ?_)
    refine nd_lf z1 ?_
    array_get_dec
    have ew : El (.str w) := el_str (by omega)
    have ea : El (.str a) := el_str (by have := oa.few; omega)
    have eb : El (.str b) := el_str (by have := ob.few; omega)
    have et : El (.str t) := el_str (by omega)
    have ey : El y := ⟨y1, fun t e => by have := y3 t e; omega⟩
    have ez : El z := ⟨z1, fun t e => by have := z3 t e; omega⟩
    refine ⟨[[], [.str w, .str a], [.str w, .str a, .str b, .str t], [.str w], [.str b], [x, .str a, .str b], [.str ofT, .str a, .str b], [.str keyT, .str a, .str b], [.str w, .str a, y], [.str w, z, .str b]], d3, rfl, rfl, hd3.mono (by omega), ?_⟩
    refine wrong_all ⟨⟨rfl, trivial⟩, ⟨cl2 _ _, ew, ea, trivial⟩, ⟨clA hw, ew, ea, eb, et, trivial⟩, ⟨cl1 _, ew, trivial⟩, ⟨cl1 _, eb, trivial⟩, ⟨clX xn, xe, ea, eb, trivial⟩, ⟨clO (.inl rfl), el_str (by decide), ea, eb, trivial⟩, ⟨clO (.inr rfl), el_str (by decide), ea, eb, trivial⟩, ⟨?_, ew, ea, ey, trivial⟩, ⟨?_, ew, ez, eb, trivial⟩, trivial⟩
    · rw [clA hw]
      show (true && (thD _ && (thD y && true))) = false
      rw [y2]; simp
    · rw [clA hw]
      show (true && (thD z && _)) = false
      rw [z2]; rfl
  · have wl : w.length ≤ 6 := by rcases hw with rfl | rfl <;> decide
    show wSs ir__law_wrong_claims [.ow d, .sh (.tup [.str w, .str nm, .str a, .str b]), .sh (.str t), .no, .no] _
    array_get_dec
    refine take_k (n := n + 19) hd (by decide) fun v d1 hd1 v0 v1 => ?_
    obtain ⟨x, hx, hm⟩ := at_any (xs := wordsD) v0 v1
    obtain ⟨xn, xe⟩ := words_no hm
    conv => whnf
    refine ⟨_, hx, ?_⟩
    conv => whnf
    refine (show ndK x _ from ?_)
    refine nd_lf xe.1 ?_
    array_get_dec
    refine bfunc_k (n := n + 15) (hd1.mono (by omega)) on fun f d1 hd1 f1 f2 => ?_
    conv => whnf
    refine (show ndK f _ from ?_)
    refine nd_lf f1 ?_
    array_get_dec
    refine bpart_k (n := n + 11) (hd1.mono (by omega)) hz fun y d2 hd2 y1 y2 y3 => ?_
    conv => whnf
    refine (show ndK y _ from ?_)
    refine nd_lf y1 ?_
    array_get_dec
    refine bpart_k (n := n + 7) (hd2.mono (by omega)) hz fun z d3 hd3 z1 z2 z3 => ?_
    conv => whnf
    refine (show ndK z _ from ?_)
    refine nd_lf z1 ?_
    array_get_dec
    have ew : El (.str w) := el_str (by omega)
    have en : El (.str nm) := by
      obtain ⟨c, r, rfl, _, hr, _⟩ := on.fst
      exact el_str (by rw [List.length_cons]; omega)
    have ea : El (.str a) := el_str (by have := oa.few; omega)
    have eb : El (.str b) := el_str (by have := ob.few; omega)
    have et : El (.str t) := el_str (by omega)
    have ef : El f := ⟨f1, fun t e => by have := (f2 t e).1; omega⟩
    have ey : El y := ⟨y1, fun t e => by have := y3 t e; omega⟩
    have ez : El z := ⟨z1, fun t e => by have := z3 t e; omega⟩
    refine ⟨[[], [.str w, .str nm, .str a], [.str w, .str nm, .str a, .str b, .str t], [.str w], [.str a, .str b], [x, .str nm, .str a, .str b], [.str sameT, .str nm, .str a, .str b], [.str diffT, .str nm, .str a, .str b], [.str w, f, .str a, .str b], [.str w, .str nm, .str a, y], [.str w, .str nm, z, .str b]], d3, rfl, rfl, hd3.mono (by omega), ?_⟩
    refine wrong_all ⟨⟨rfl, trivial⟩, ⟨clO hw, ew, en, ea, trivial⟩, ⟨clO hw, ew, en, ea, eb, et, trivial⟩, ⟨cl1 _, ew, trivial⟩, ⟨cl2 _ _, ea, eb, trivial⟩, ⟨clX xn, xe, en, ea, eb, trivial⟩, ⟨clA (.inl rfl), el_str (by decide), en, ea, eb, trivial⟩, ⟨clA (.inr rfl), el_str (by decide), en, ea, eb, trivial⟩, ⟨?_, ew, ef, ea, eb, trivial⟩, ⟨?_, ew, en, ea, ey, trivial⟩, ⟨?_, ew, en, ez, eb, trivial⟩, trivial⟩
    · rw [clO hw]
      exact of_f fun t e => (f2 t e).2
    · rw [clO hw]
      show (nameB nm && (thD _ && (thD y && true))) = false
      rw [y2]; simp
    · rw [clO hw]
      show (nameB nm && (thD z && _)) = false
      rw [z2]; simp
theorem wclaims_k {n : Nat} {d : D} {c : List Tt} {t : Tt} {C : R → List D → Prop} (hd : Dl (n + 20) d) (ok : OkC c) (hz : t.length ≤ 9000) (k : ∀ (rows : List (List D)) d', Dl n d' → (∀ row ∈ rows, Wrong row) → C (.ow (.lst (rows.map D.tup))) [d']) : ∃ g : sp__law_wrong_claims.G, sp__law_wrong_claims.pre g [d, clD c, .str t] ∧ ∀ r outs, sp__law_wrong_claims.post g r outs → C r outs := by
  refine ⟨(n, d, c, t), ⟨rfl, hd, ok, hz⟩, ?_⟩
  rintro _ _ ⟨rows, d', rfl, rfl, q1, q2⟩
  exact k rows d' q1 q2
theorem lc_body (n : Nat) (ts : List Tt) (nm : Tt) (h1 : 0 < ts.length) (h2 : ts.length ≤ 100) (cs : List (List Tt)) (hc : cs.length ≤ 90) (d : D) (hd : Dl (n + 3) d) (x4 x5 x6 x7 : Slot) (K : KS)
    (hK : ∀ c d' x6 x7, c.length ≤ 4 → Dl n d' → K.nx [.ow d', .sh (tsD ts), .sh (.str nm), .ow (.lst ((cs ++ [c]).map clD)), x4, x5, x6, x7]) :
    wSs ir__law_claims_1 [.ow d, .sh (tsD ts), .sh (.str nm), .ow (.lst (cs.map clD)), x4, x5, x6, x7] K := by
  have app : ∀ (c : List Tt), Slot.ow (.lst (cs.map clD ++ [.tup (c.map D.str)])) = .ow (.lst ((cs ++ [c]).map clD)) := fun c => by rw [List.map_append]; rfl
  conv => whnf
  refine take_k (n := n + 2) hd (by rw [List.length_map]; omega) fun v d1 hd1 v0 v1 => ?_
  rw [List.length_map] at v1
  obtain ⟨a, ha, ea⟩ := at_map (f := D.str) v0 v1
  conv => whnf
  refine ⟨_, ea, ?_⟩
  conv => whnf
  refine take_k (n := n + 1) hd1 (by rw [List.length_map]; omega) fun v2 d2 hd2 w0 w1 => ?_
  rw [List.length_map] at w1
  obtain ⟨b, hb, eb⟩ := at_map (f := D.str) w0 w1
  conv => whnf
  refine ⟨_, eb, ?_⟩
  array_get_dec
  refine take_k (n := n) hd2 (by decide) fun v3 d3 hd3 u0 u1 => ?_
  obtain ⟨u, hu, hm⟩ := at_any (xs := [D.str sameT, D.str diffT, D.str ofT, D.str keyT]) u0 u1
  simp only [List.mem_cons, List.not_mem_nil, or_false] at hm
  rcases hm with rfl | rfl | rfl | rfl
  · conv => whnf
    refine ⟨_, hu, ?_⟩
    array_get_dec
    have := hK [sameT, a, b] d3 (.sh (.tup [.str a, .str b])) (.sh (.str sameT)) (Nat.le_succ 3) hd3
    rw [← app] at this
    exact this
  · conv => whnf
    refine ⟨_, hu, ?_⟩
    array_get_dec
    have := hK [diffT, a, b] d3 (.sh (.tup [.str a, .str b])) (.sh (.str diffT)) (Nat.le_succ 3) hd3
    rw [← app] at this
    exact this
  · conv => whnf
    refine ⟨_, hu, ?_⟩
    array_get_dec
    have := hK [ofT, nm, a, b] d3 (.sh (.tup [.str nm, .str a, .str b])) (.sh (.str ofT)) (Nat.le_refl 4) hd3
    rw [← app] at this
    exact this
  · conv => whnf
    refine ⟨_, hu, ?_⟩
    array_get_dec
    have := hK [keyT, nm, a, b] d3 (.sh (.tup [.str nm, .str a, .str b])) (.sh (.str keyT)) (Nat.le_refl 4) hd3
    rw [← app] at this
    exact this
theorem cor__law_claims : Cor sp__law_claims [true, false, false] 8 ir__law_claims := by
  rintro ⟨n, d, ts, nm⟩ ds ⟨rfl, hd, h1, h2⟩ hl
  clear hl
  have hd : Dl (n + 200) d := hd
  have h1 : 0 < ts.length := h1
  have h2 : ts.length ≤ 100 := h2
  dsimp only
  have rest : ∀ (m : Nat) d, m ≤ 51 → Dl (n + 180) d → wSs (tailS 3 ir__law_claims) [.ow d, .sh (tsD ts), .sh (.str nm), .ow (.lst []), .sh (.int m), .no, .no, .no] (ends sp__law_claims [true, false, false] (n, d, ts, nm)) := by
    intro m d hm hd
    conv => whnf
    refine ⟨⟨by omega, by omega⟩, ?_⟩
    conv => whnf
    refine ⟨fun _ => trivial, ?_⟩
    refine for_range 0 m (fun j env => ∃ (cs : List (List Tt)) (d : D) (x5 x6 x7 : Slot), (cs.length = j ∧ (∀ c ∈ cs, c.length ≤ 4) ∧ Dl (n + 180 - 3 * j) d) ∧ env = [.ow d, .sh (tsD ts), .sh (.str nm), .ow (.lst (cs.map clD)), .sh (.int m), x5, x6, x7]) ?_ ?_ _ ⟨[], d, _, _, _, ⟨rfl, (fun _ q => nomatch q), hd⟩, rfl⟩
    · rintro env ⟨cs, d2, x5, x6, x7, ⟨q1, q2, q3⟩, rfl⟩
      have q1 : cs.length = m := q1
      conv => whnf
      exact ⟨cs, d2, rfl, rfl, q3.mono (by omega), by omega, q2⟩
    · rintro j env f hj ⟨cs, d2, x5, x6, x7, ⟨q1, q2, q3⟩, rfl⟩ hf
      have q1 : cs.length = j := q1
      refine (show wSs ir__law_claims_1 _ _ from ?_)
      refine lc_body (n + 180 - 3 * (j + 1)) ts nm h1 h2 cs (by omega) d2 (q3.mono (by omega)) _ _ _ _ _ fun c d' x6 x7 hc hd' => ?_
      refine hf _ ⟨cs ++ [c], d', _, _, _, ⟨by rw [List.length_append, q1]; rfl, fun e he => ?_, hd'⟩, rfl⟩
      rcases List.mem_append.mp he with he | he
      · exact q2 e he
      · rw [List.mem_singleton] at he
        rw [he]; exact hc
  array_get_dec
  refine take_k (n := n + 199) hd (by decide) fun v d1 hd1 v0 v1 => ?_
  obtain ⟨v, rfl⟩ := Int.eq_ofNat_of_zero_le v0
  array_get_dec
  refine take_k (n := n + 198) hd1 (by decide) fun v2 d2 hd2 w0 w1 => ?_
  conv => whnf
  refine ⟨fun _ => ?_, fun _ => ?_⟩
  · array_get_dec
    refine take_k (n := n + 197) hd2 (by decide) fun v3 d3 hd3 u0 u1 => ?_
    obtain ⟨v3, rfl⟩ := Int.eq_ofNat_of_zero_le u0
    array_get_dec
    exact rest v3 d3 (by omega) (hd3.mono (by omega))
  · exact rest v d2 (by omega) (hd2.mono (by omega))
theorem claims_k {n : Nat} {d : D} {ts : List Tt} {nm : Tt} {C : R → List D → Prop} (hd : Dl (n + 200) d) (h1 : 0 < ts.length) (h2 : ts.length ≤ 100) (k : ∀ (cs : List (List Tt)) d', Dl n d' → cs.length ≤ 60 → (∀ c ∈ cs, c.length ≤ 4) → C (.ow (.lst (cs.map clD))) [d']) : ∃ g : sp__law_claims.G, sp__law_claims.pre g [d, tsD ts, .str nm] ∧ ∀ r outs, sp__law_claims.post g r outs → C r outs := by
  refine ⟨(n, d, ts, nm), ⟨rfl, hd, h1, h2⟩, ?_⟩
  rintro _ _ ⟨cs, d', rfl, rfl, q1, q2, q3⟩
  exact k cs d' q1 q2 q3

end SU.K53
end PW

namespace PW
open PySem L2
local macro_rules
  | `(tactic| array_get_dec) => `(tactic| (conv => whnf) <;> repeat (first | refine And.intro rfl ?_ | refine And.intro (by assumption) ?_ | refine ⟨_, rfl, ?_⟩ | refine And.intro (Nat.le_of_ble_eq_true rfl) ?_ | refine And.intro (sz (by first | omega | (simp only [List.length_append, List.length_cons, List.length_nil, List.length_map]; omega))) ?_ | refine And.intro (szl (by first | omega | (simp only [List.length_append, List.length_cons, List.length_nil, List.length_map]; omega))) ?_ | refine And.intro (by decide) ?_ | refine And.intro (.inr (by decide)) ?_ | refine And.intro (fun _ => trivial) ?_ | refine And.intro (fun (h : false = true) => Bool.noConfusion h) (fun _ => ?_) | refine And.intro (fun _ => ?_) (fun (h : true = false) => Bool.noConfusion h) | refine And.intro ⟨by decide, by decide, by decide⟩ ?_); (conv => whnf))
namespace SU.K53
/-! ### k53: the list of things; the law -/
def sp__law_right_list : PSp where
  G := List (List Tt)
  pre cs ds := ds = [.lst (cs.map clD)] ∧ cs.length ≤ 100 ∧ ∀ c ∈ cs, c.length ≤ 4
  post _ r outs := r = .va (.bl true) ∧ outs = []
def nm__law_right_list : PySem.Str := "_law_right_list"
def nm_law : PySem.Str := "law"
-- _law_right_list ['claims', 'told', 'due', 'claim', 'k', 'thing'] mask [false] own ['due', 'told']
def ir__law_right_list_1 : Ss :=
  .cons (.ifs (.cmp .NotIn (.v 5) (.v 2)) (.cons (.app 2 (.v 5)) .nil) (.nil)) .nil
def ir__law_right_list_2 : Ss :=
  .cons (.for (.nm 5) (.sq (.sl (.v 3) (.so (.neg (.int 2))) .no)) ir__law_right_list_1) .nil
def ir__law_right_list_3 : Ss :=
  .cons (.ifs (.orr (.nt (.tr (.isi (.ix (.v 1) (.v 4)) .str))) (.cmp .NotEq (.ix (.v 1) (.v 4)) (.ix (.v 2) (.v 4)))) (.cons (.ret (.bl false)) .nil) (.nil)) .nil
def ir__law_right_list : Ss :=
  .cons (.asg (.nm 1) (.call nm_things_of sp_things_of [false] (.cons (.v 0) .nil))) (.cons (.asg (.nm 2) (.lst (.nil))) (.cons (.for (.nm 3) (.sq (.v 0)) ir__law_right_list_2) (.cons (.ifs (.orr (.nt (.tr (.isi (.v 1) .list))) (.cmp .NotEq (.cb .len (.cons (.v 1) .nil)) (.cb .len (.cons (.v 2) .nil)))) (.cons (.ret (.bl false)) .nil) (.nil)) (.cons (.for (.nm 4) (.r1 (.cb .len (.cons (.v 2) .nil))) ir__law_right_list_3) (.cons (.app 1 (.str [124])) (.cons (.ret (.cmp .Eq (.call nm_things_of sp_things_of [false] (.cons (.v 0) .nil)) (.v 2))) .nil))))))

-- law ['script', 'deal', 'things', 'name', 'thing', 'word', 'claims', 'before', 'claim', 'wrong'] mask [false] own ['claims', 'deal']
def ir_law_1 : Ss :=
  .cons (.ifs (.orr (.nt (.tr (.call nm__law_yes sp__law_yes [false] (.cons (.call nm_is_thing sp_is_thing [false] (.cons (.v 4) .nil)) .nil)))) (.nt (.tr (.call nm__law_no sp__law_no [false] (.cons (.call nm_is_thing sp_is_thing [false] (.cons (.call nm__law_bad_text sp__law_bad_text [true, false] (.cons (.v 1) (.cons (.v 4) .nil))) .nil)) .nil))))) (.cons (.ret (.bl false)) .nil) (.nil)) .nil
def ir_law_2 : Ss :=
  .cons (.ifs (.nt (.tr (.call nm__law_no sp__law_no [false] (.cons (.call nm_is_claim sp_is_claim [false] (.cons (.v 9) .nil)) .nil)))) (.cons (.ret (.bl false)) .nil) (.nil)) .nil
def ir_law_3 : Ss :=
  .cons (.asg (.nm 8) (.tup (.cons (.v 5) (.cons (.ix (.v 2) (.int 0)) (.cons (.ix (.v 2) (.neg (.int 1))) .nil))))) (.cons (.ifs (.orr (.cmp .Eq (.v 5) (.str [111, 102])) (.cmp .Eq (.v 5) (.str [107, 101, 121]))) (.cons (.asg (.nm 8) (.tup (.cons (.v 5) (.cons (.v 3) (.cons (.ix (.v 2) (.int 0)) (.cons (.ix (.v 2) (.neg (.int 1))) .nil)))))) .nil) (.nil)) (.cons (.ifs (.nt (.tr (.call nm__law_yes sp__law_yes [false] (.cons (.call nm_is_claim sp_is_claim [false] (.cons (.v 8) .nil)) .nil)))) (.cons (.ret (.bl false)) .nil) (.nil)) (.cons (.for (.nm 9) (.sq (.call nm__law_wrong_claims sp__law_wrong_claims [true, false, false] (.cons (.v 1) (.cons (.v 8) (.cons (.ix (.v 2) (.int 0)) .nil))))) ir_law_2) .nil)))
def ir_law : Ss :=
  .cons (.asg (.nm 1) (.call nm__law_deal sp__law_deal [false] (.cons (.v 0) .nil))) (.cons (.asg (.nm 2) (.fz (.call nm__law_things sp__law_things [true, false] (.cons (.v 1) (.cons (.op .Add (.int 1) (.call nm__law_take sp__law_take [true, false] (.cons (.v 1) (.cons (.int 9) .nil)))) .nil))))) (.cons (.asg (.nm 3) (.fz (.call nm__law_function sp__law_function [true, false] (.cons (.v 1) (.cons (.ix (.lst (.cons (.int 12) (.cons (.op .Add (.int 1) (.call nm__law_take sp__law_take [true, false] (.cons (.v 1) (.cons (.int 12) .nil)))) .nil))) (.call nm__law_take sp__law_take [true, false] (.cons (.v 1) (.cons (.int 2) .nil)))) .nil))))) (.cons (.for (.nm 4) (.sq (.v 2)) ir_law_1) (.cons (.ifs (.orr (.nt (.tr (.call nm__law_no sp__law_no [false] (.cons (.call nm_is_thing sp_is_thing [false] (.cons (.str []) .nil)) .nil)))) (.orr (.nt (.tr (.call nm__law_yes sp__law_yes [false] (.cons (.call nm_is_thing sp_is_thing [false] (.cons (.str [124]) .nil)) .nil)))) (.nt (.tr (.call nm__law_yes sp__law_yes [false] (.cons (.call nm_is_thing sp_is_thing [false] (.cons (.str [32]) .nil)) .nil)))))) (.cons (.ret (.bl false)) .nil) (.nil)) (.cons (.for (.nm 5) (.sq (.lst (.cons (.str [115, 97, 109, 101]) (.cons (.str [100, 105, 102, 102, 101, 114]) (.cons (.str [111, 102]) (.cons (.str [107, 101, 121]) .nil)))))) ir_law_3) (.cons (.asg (.nm 6) (.call nm__law_claims sp__law_claims [true, false, false] (.cons (.v 1) (.cons (.v 2) (.cons (.v 3) .nil))))) (.cons (.asg (.nm 7) (.fz (.cb .list (.cons (.v 6) .nil)))) (.cons (.ifs (.orr (.nt (.tr (.frz [true, true, true, true, true, true, true, true, true, true] (.call nm__law_right_list sp__law_right_list [false] (.cons (.v 6) .nil))))) (.cmp .NotEq (.v 6) (.v 7))) (.cons (.ret (.bl false)) .nil) (.nil)) (.cons (.ins 6 (.call nm__law_take sp__law_take [true, false] (.cons (.v 1) (.cons (.op .Add (.cb .len (.cons (.v 6) .nil)) (.int 1)) .nil))) (.tup (.cons (.str [115, 97, 109, 101]) (.cons (.ix (.v 2) (.neg (.int 1))) (.cons (.op .Add (.ix (.v 2) (.int 0)) (.str [97, 124])) .nil))))) (.cons (.ret (.frz [true, true, true, true, true, true, true, true, true, true] (.call nm__law_right_list sp__law_right_list [false] (.cons (.v 6) .nil)))) .nil))))))))))


theorem thof_k {cs : List (List Tt)} {C : R → List D → Prop} (h1 : cs.length ≤ 1000) (h2 : ∀ c ∈ cs, c.length ≤ 100) (k : C (.ow (tsD (thingsOf cs))) []) : ∃ g : sp_things_of.G, sp_things_of.pre g [.lst (cs.map clD)] ∧ ∀ r outs, sp_things_of.post g r outs → C r outs := by
  refine ⟨cs, ⟨rfl, h1, h2⟩, ?_⟩
  rintro _ _ ⟨rfl, rfl⟩
  exact k
theorem cor__law_right_list : Cor sp__law_right_list [false] 6 ir__law_right_list := by
  rintro (cs : List (List Tt)) ds ⟨rfl, h1, h2⟩ hl
  clear hl
  have h1 : cs.length ≤ 100 := h1
  have h2 : ∀ c ∈ cs, c.length ≤ 4 := h2
  have h2' : ∀ c ∈ cs, c.length ≤ 100 := fun c hc => by have := h2 c hc; omega
  conv => whnf
  refine thof_k (by omega) h2' ?_
  array_get_dec
  refine for_list _ (fun j env => ∃ ts x3 x5, (ts = (cs.take j).foldl (fun ts c => (lst2 c).foldl addT ts) [] ∧ ts.length ≤ 4 * j) ∧ env = [.sh (.lst (cs.map clD)), .ow (tsD (thingsOf cs)), .ow (tsD ts), x3, .no, x5]) ?_ ?_ _ ⟨[], _, _, ⟨rfl, Nat.zero_le _⟩, rfl⟩
  · rintro env ⟨ts, x3, x5, ⟨hts, hlen⟩, rfl⟩
    rw [List.length_map] at hlen
    rw [List.length_map, List.take_length] at hts
    have hts : ts = thingsOf cs := hts
    have hts' := hts
    rw [← hts]
    clear hts
    have end_k : ∀ {C : R → List D → Prop}, C (.ow (tsD ts)) [] → ∃ g : sp_things_of.G, sp_things_of.pre g [.lst (cs.map clD)] ∧ ∀ r outs, sp_things_of.post g r outs → C r outs := fun k => thof_k (by omega) h2' (by rw [← hts']; exact k)
    array_get_dec
    rw [decide_eq_true rfl]
    array_get_dec
    rw [List.length_map]
    refine ⟨⟨by omega, by omega⟩, ?_⟩
    conv => whnf
    refine ⟨fun _ => trivial, ?_⟩
    refine for_range 0 ts.length (fun j env => ∃ x4, env = [.sh (.lst (cs.map clD)), .ow (tsD ts), .ow (tsD ts), x3, x4, x5]) ?_ ?_ _ ⟨_, rfl⟩
    · rintro env ⟨x4, rfl⟩
      conv => whnf
      refine ⟨szl (by rw [List.length_map]; omega), ?_⟩
      refine lst1 rfl ?_
      conv => whnf
      refine end_k ?_
      conv => whnf
      refine ⟨.inl (sh_ts ts), ?_⟩
      rw [show deq (D.lst (ts.map D.str)) (tsD ts) = true from (deq_ts ts ts).trans (decide_eq_true rfl)]
      array_get_dec
    · rintro j env f hj ⟨x4, rfl⟩ hf
      obtain ⟨t, ht⟩ : ∃ t, ts[j]? = some t := ⟨_, List.getElem?_eq_getElem hj⟩
      have et : atI (ts.map D.str) (j : Int) = some (.str t) := atI_nat (by rw [List.getElem?_map, ht]; rfl)
      rw [Int.zero_add]
      conv => whnf
      refine ⟨_, et, ?_⟩
      conv => whnf
      refine ⟨fun h => Bool.noConfusion h, fun _ => ?_⟩
      conv => whnf
      refine ⟨_, et, ?_⟩
      conv => whnf
      refine ⟨_, et, ?_⟩
      conv => whnf
      rw [decide_eq_true rfl]
      refine ⟨fun h => Bool.noConfusion h, fun _ => ?_⟩
      exact hf _ ⟨_, rfl⟩
  · rintro j d env f hd ⟨ts, x3, x5, ⟨hts, hlen⟩, rfl⟩ hf
    obtain ⟨c, hc, rfl⟩ := get_map' hd
    obtain ⟨hj, ec⟩ := List.getElem?_eq_some_iff.mp hc
    have hcl := h2 c (List.mem_of_getElem? hc)
    have hll : (lst2 c).length ≤ 4 := Nat.le_trans (cut_len _ _ _) hcl
    array_get_dec
    rw [cut_map]
    refine for_list _ (fun u env => ∃ us x5, (us = ((lst2 c).take u).foldl addT ts ∧ us.length ≤ 4 * j + u) ∧ env = [.sh (.lst (cs.map clD)), .ow (tsD (thingsOf cs)), .ow (tsD us), .sh (clD c), .no, x5]) ?_ ?_ _ ⟨ts, _, ⟨rfl, hlen⟩, rfl⟩
    · rintro env ⟨us, x5, ⟨hus, hul⟩, rfl⟩
      rw [List.length_map] at hus hul
      have hl : (cutL c (some (-2)) none).length = (lst2 c).length := rfl
      rw [hl, List.take_length] at hus
      rw [hl] at hul
      refine hf _ ⟨us, _, _, ⟨?_, by omega⟩, rfl⟩
      rw [List.take_succ_eq_append_getElem hj, List.foldl_append, ← hts, ec]
      exact hus
    · rintro u d env f' hd ⟨us, x5, ⟨hus, hul⟩, rfl⟩ hf'
      obtain ⟨t, ht, rfl⟩ := get_map' hd
      obtain ⟨hu, et⟩ := List.getElem?_eq_some_iff.mp ht
      have hu : u < (lst2 c).length := hu
      have hstep : ((lst2 c).take (u + 1)).foldl addT ts = addT us t := by
        rw [List.take_succ_eq_append_getElem hu, List.foldl_append, ← hus]
        show addT us (lst2 c)[u] = _
        rw [show (lst2 c)[u] = t from et]
      conv => whnf
      refine ⟨.inl (sh_str t), ?_⟩
      conv => whnf
      refine ⟨fun hc => ?_, fun hc => ?_⟩
      · rw [any_str] at hc
        have hn : t ∉ us := by simpa using hc
        conv => whnf
        refine ⟨szl (by rw [List.length_map]; omega), ?_⟩
        refine lst1 rfl ?_
        conv => whnf
        refine hf' _ ⟨us ++ [t], .sh (.str t), ⟨by rw [hstep, addT_no hn], by rw [List.length_append]; simp; omega⟩, ?_⟩
        unfold tsD
        rw [List.map_append]; rfl
      · rw [any_str] at hc
        have hn : t ∈ us := by simpa using hc
        conv => whnf
        exact hf' _ ⟨us, _, ⟨by rw [hstep, addT_in hn], by omega⟩, rfl⟩
theorem rlist_k {cs : List (List Tt)} {C : R → List D → Prop} (h1 : cs.length ≤ 100) (h2 : ∀ c ∈ cs, c.length ≤ 4) (k : C (.va (.bl true)) []) : ∃ g : sp__law_right_list.G, sp__law_right_list.pre g [.lst (cs.map clD)] ∧ ∀ r outs, sp__law_right_list.post g r outs → C r outs := by
  refine ⟨cs, ⟨rfl, h1, h2⟩, ?_⟩
  rintro _ _ ⟨rfl, rfl⟩
  exact k
theorem things_k {n : Nat} {d : D} {many : Nat} {C : R → List D → Prop} (hd : Dl (n + 100 * many) d) (h2 : many ≤ 60) (k : ∀ ts d', ts.length = many → (∀ t ∈ ts, OkT t) → Dl n d' → C (.ow (tsD ts)) [d']) :
    ∃ g : sp__law_things.G, sp__law_things.pre g [d, .int many] ∧ ∀ r outs, sp__law_things.post g r outs → C r outs := by
  refine ⟨(n, d, many), ⟨rfl, hd, h2⟩, ?_⟩
  rintro _ _ ⟨ts, d', rfl, rfl, q1, q2, q3⟩
  exact k ts d' q2 q3 q1
theorem okX {t : Tt} (h : OkT t) : OkX t := by
  refine ⟨?_, by have := h.few; omega⟩
  unfold thingB
  have h1 : t ≠ [] := fun e => by have := h.one; rw [e] at this; simp at this
  rw [decide_eq_true h1, Bool.true_and]
  unfold isPlain
  rw [List.all_eq_true]
  intro c hc
  obtain ⟨hc1, hc2⟩ := List.mem_filter.mp hc
  have sub : ∀ c ∈ thingS, c ≠ 124 → c ∈ plainS := by decide
  exact decide_eq_true (sub c (h.sg c hc1) (by simpa using hc2))
theorem leafy_cl (cs : List (List Tt)) : (cs.map clD).all D.leafy = true := by
  rw [List.all_eq_true]
  intro d hd
  obtain ⟨m, _, rfl⟩ := List.mem_map.mp hd
  rfl
theorem sh_cl (cs : List (List Tt)) : shallow (.lst (cs.map clD)) := Nat.le_trans (dep_lst dep_wd cs) (by decide)
theorem deq_cl (a b : List (List Tt)) : deq (.lst (a.map clD)) (.lst (b.map clD)) = decide (a = b) := deq_lst deq_wd a b
theorem at_last {α : Type} {f : α → D} {xs : List α} (h : 0 < xs.length) : ∃ x, x ∈ xs ∧ atI (xs.map f) (-1) = some (f x) := by
  rcases List.eq_nil_or_concat xs with q | ⟨l, x, q⟩
  · rw [q] at h; simp at h
  · rw [List.concat_eq_append] at q
    refine ⟨x, by rw [q]; simp, ?_⟩
    rw [q, List.map_append]
    exact atI_last _ _
theorem law_tail (ns : List Int) (ts : List Tt) (h1 : 0 < ts.length) (h2 : ts.length ≤ 9) (hok : ∀ t ∈ ts, OkX t) (nm : Tt) (d : D) (hd : Dl 200000000 d) (x4 x5 x8 x9 : Slot) :
    wSs (tailS 6 ir_law) [.sh (.scr ns), .ow d, .sh (tsD ts), .sh (.str nm), x4, x5, .no, .no, x8, x9] (ends sp_law [false] ns) := by
  obtain ⟨t0, ht0, e0⟩ := at_map (f := D.str) (xs := ts) (v := 0) (by omega) (by omega)
  obtain ⟨t1, ht1, e1⟩ := at_last (f := D.str) h1
  have l0 := (hok t0 ht0).few
  conv => whnf
  refine claims_k (n := 190000000) (hd.mono (by omega)) h1 (by omega) fun cs d1 hd1 c1 c2 => ?_
  conv => whnf
  refine ⟨leafy_cl cs, ?_⟩
  conv => whnf
  refine rlist_k (by omega) c2 ?_
  conv => whnf
  refine ⟨fun h => Bool.noConfusion h, fun _ => ?_⟩
  conv => whnf
  refine ⟨.inl (sh_cl cs), ?_⟩
  rw [show deq (D.lst (cs.map clD)) (D.lst (cs.map clD)) = true from (deq_cl cs cs).trans (decide_eq_true rfl)]
  array_get_dec
  refine take_k (n := 180000000) (hd1.mono (by omega)) (by omega) fun v d2 hd2 v0 v1 => ?_
  obtain ⟨v, rfl⟩ := Int.eq_ofNat_of_zero_le v0
  conv => whnf
  refine ⟨_, e1, ?_⟩
  conv => whnf
  refine ⟨_, e0, ?_⟩
  conv => whnf
  refine ⟨sz (by rw [List.length_cons, List.length_cons, List.length_nil]; omega), ?_⟩
  conv => whnf
  refine ⟨Nat.le_of_ble_eq_true rfl, ?_⟩
  conv => whnf
  refine ⟨szl (by rw [List.length_map]; omega), ⟨by omega, by rw [List.length_map] at v1; omega⟩, ?_⟩
  refine lst1 rfl ?_
  have e5 : D.lst (List.take (v : Int).toNat (cs.map clD) ++ [D.tup [D.str [115, 97, 109, 101], D.str t1, D.str (t0 ++ [97, 124])]] ++ List.drop (v : Int).toNat (cs.map clD)) = .lst ((cs.take v ++ [[sameT, t1, t0 ++ [97, 124]]] ++ cs.drop v).map clD) := by
    rw [List.map_append, List.map_append, List.map_take, List.map_drop]; rfl
  rw [e5]
  have n1 : (cs.take v ++ [[sameT, t1, t0 ++ [97, 124]]] ++ cs.drop v).length ≤ 100 := by simp only [List.length_append, List.length_take, List.length_drop, List.length_cons, List.length_nil]; omega
  have n2 : ∀ c ∈ cs.take v ++ [[sameT, t1, t0 ++ [97, 124]]] ++ cs.drop v, c.length ≤ 4 := fun c hc => by
    rcases List.mem_append.mp hc with hc | hc
    · rcases List.mem_append.mp hc with hc | hc
      · exact c2 c (List.mem_of_mem_take hc)
      · rw [List.mem_singleton] at hc
        rw [hc]; exact Nat.le_succ 3
    · exact c2 c (List.mem_of_mem_drop hc)
  generalize cs.take v ++ [[sameT, t1, t0 ++ [97, 124]]] ++ cs.drop v = cs2 at n1 n2
  conv => whnf
  refine rlist_k n1 n2 ?_
  array_get_dec
theorem word_turn (ns : List Int) (n : Nat) (ts : List Tt) (h1 : 0 < ts.length) (hok : ∀ t ∈ ts, OkX t) (nm : Tt) (on : OkN nm) (w : Tt) (hw : w = sameT ∨ w = diffT ∨ w = ofT ∨ w = keyT) (d : D) (hd : Dl (n + 20) d) (x0 x4 x6 x7 x8 x9 : Slot) (K : KS)
    (hK : ∀ d' x8 x9, Dl n d' → K.nx [x0, .ow d', .sh (tsD ts), .sh (.str nm), x4, .sh (.str w), x6, x7, x8, x9]) :
    wSs ir_law_3 [x0, .ow d, .sh (tsD ts), .sh (.str nm), x4, .sh (.str w), x6, x7, x8, x9] K := by
  obtain ⟨a, ha, ea⟩ := at_map (f := D.str) (xs := ts) (v := 0) (by omega) (by omega)
  obtain ⟨b, hb, eb⟩ := at_last (f := D.str) h1
  have oa := hok a ha
  have ob := hok b hb
  have last : ∀ (c : List Tt) x9, OkC c → claimB (c.map D.str) = true → (∀ t ∈ c, t.length ≤ 20000) → wSs (tailS 2 ir_law_3) [x0, .ow d, .sh (tsD ts), .sh (.str nm), x4, .sh (.str w), x6, x7, .sh (clD c), x9] K := by
    intro c x9 oc hc hl
    conv => whnf
    refine claim_k (xs := c.map D.str) (fun t ht => ?_) (leafy_ts c) ?_
    · obtain ⟨u, hu, e⟩ := List.mem_map.mp ht
      injection e with e
      rw [← e]
      have := hl u hu
      omega
    rw [hc]
    conv => whnf
    refine yes_k (b := true) ?_
    conv => whnf
    refine ⟨fun h => Bool.noConfusion h, fun _ => ?_⟩
    conv => whnf
    refine ⟨_, ea, ?_⟩
    conv => whnf
    refine wclaims_k (n := n) hd oc oa.few fun rows d' hd' hrows => ?_
    conv => whnf
    refine ⟨fun _ => trivial, ?_⟩
    refine for_list _ (fun j env => ∃ x9, env = [x0, .ow d', .sh (tsD ts), .sh (.str nm), x4, .sh (.str w), x6, x7, .sh (clD c), x9]) ?_ ?_ _ ⟨_, rfl⟩
    · rintro env ⟨x9, rfl⟩
      exact hK d' _ _ hd'
    · rintro j q env f hq ⟨x9, rfl⟩ hf
      obtain ⟨row, hr, rfl⟩ := get_map' hq
      obtain ⟨w1, w2, w3⟩ := hrows row (List.mem_of_getElem? hr)
      conv => whnf
      refine claim_k (xs := row) w3 w2 ?_
      rw [w1]
      conv => whnf
      refine no_k (b := false) ?_
      conv => whnf
      refine ⟨fun h => Bool.noConfusion h, fun _ => ?_⟩
      exact hf _ ⟨_, rfl⟩
  have lab : ∀ (w : Tt) , w.length ≤ 6 → ∀ t ∈ [w, a, b], t.length ≤ 20000 := by
    intro w hw t ht
    have := oa.few
    have := ob.few
    simp only [List.mem_cons, List.not_mem_nil, or_false] at ht
    rcases ht with rfl | rfl | rfl <;> omega
  have lnab : ∀ (w : Tt) , w.length ≤ 6 → ∀ t ∈ [w, nm, a, b], t.length ≤ 20000 := by
    intro w hw t ht
    have := oa.few
    have := ob.few
    obtain ⟨c, r, hnm, _, hr, _⟩ := on.fst
    have ln : nm.length ≤ 12 := by rw [hnm, List.length_cons]; omega
    simp only [List.mem_cons, List.not_mem_nil, or_false] at ht
    rcases ht with rfl | rfl | rfl | rfl <;> omega
  have cA : ∀ w, (w = sameT ∨ w = diffT) → claimB ([w, a, b].map D.str) = true := by
    intro w hw
    show claimB (.str w :: [.str a, .str b]) = true
    rw [clA hw]
    show (true && (thingB a && (thingB b && true))) = true
    rw [oa.th, ob.th]; rfl
  have cO : ∀ w, (w = ofT ∨ w = keyT) → claimB ([w, nm, a, b].map D.str) = true := by
    intro w hw
    show claimB (.str w :: [.str nm, .str a, .str b]) = true
    rw [clO hw]
    show (nameB nm && (thingB a && (thingB b && true))) = true
    rw [oa.th, ob.th, on.ok]; rfl
  rcases hw with rfl | rfl | rfl | rfl
  · conv => whnf
    refine ⟨_, ea, ?_⟩
    conv => whnf
    refine ⟨_, eb, ?_⟩
    array_get_dec
    exact last [sameT, a, b] _ ⟨sameT, a, b, oa, ob, .inl ⟨rfl, .inl rfl⟩⟩ (cA _ (.inl rfl)) (lab _ (by decide))
  · conv => whnf
    refine ⟨_, ea, ?_⟩
    conv => whnf
    refine ⟨_, eb, ?_⟩
    array_get_dec
    exact last [diffT, a, b] _ ⟨diffT, a, b, oa, ob, .inl ⟨rfl, .inr rfl⟩⟩ (cA _ (.inr rfl)) (lab _ (by decide))
  · conv => whnf
    refine ⟨_, ea, ?_⟩
    conv => whnf
    refine ⟨_, eb, ?_⟩
    array_get_dec
    refine ⟨_, ea, ?_⟩
    conv => whnf
    refine ⟨_, eb, ?_⟩
    array_get_dec
    exact last [ofT, nm, a, b] _ ⟨ofT, a, b, oa, ob, .inr ⟨nm, on, rfl, .inl rfl⟩⟩ (cO _ (.inl rfl)) (lnab _ (by decide))
  · conv => whnf
    refine ⟨_, ea, ?_⟩
    conv => whnf
    refine ⟨_, eb, ?_⟩
    array_get_dec
    refine ⟨_, ea, ?_⟩
    conv => whnf
    refine ⟨_, eb, ?_⟩
    array_get_dec
    exact last [keyT, nm, a, b] _ ⟨keyT, a, b, oa, ob, .inr ⟨nm, on, rfl, .inr rfl⟩⟩ (cO _ (.inr rfl)) (lnab _ (by decide))
theorem law_mid (ns : List Int) (ts : List Tt) (h1 : 0 < ts.length) (h2 : ts.length ≤ 9) (hok : ∀ t ∈ ts, OkX t) (nm : Tt) (on : OkN nm) (d : D) (hd : Dl 300000000 d) (x4 : Slot) :
    wSs (tailS 5 ir_law) [.sh (.scr ns), .ow d, .sh (tsD ts), .sh (.str nm), x4, .no, .no, .no, .no, .no] (ends sp_law [false] ns) := by
  array_get_dec
  rw [show [D.str [115, 97, 109, 101], D.str [100, 105, 102, 102, 101, 114], D.str [111, 102], D.str [107, 101, 121]] = [sameT, diffT, ofT, keyT].map D.str from rfl]
  refine for_list _ (fun j env => ∃ d x5 x8 x9, Dl (200000000 + 20 * (4 - j)) d ∧ env = [.sh (.scr ns), .ow d, .sh (tsD ts), .sh (.str nm), x4, x5, .no, .no, x8, x9]) ?_ ?_ _ ⟨d, _, _, _, hd.mono (by omega), rfl⟩
  · rintro env ⟨d, x5, x8, x9, hd, rfl⟩
    refine (show wSs (tailS 6 ir_law) _ _ from ?_)
    exact law_tail ns ts h1 h2 hok nm d (hd.mono (by omega)) _ _ _ _
  · rintro j q env f hq ⟨d, x5, x8, x9, hd, rfl⟩ hf
    obtain ⟨w, hw, rfl⟩ := get_map' hq
    have hj : j < 4 := (List.getElem?_eq_some_iff.mp hw).1
    have hm := List.mem_of_getElem? hw
    simp only [List.mem_cons, List.not_mem_nil, or_false] at hm
    refine (show wSs ir_law_3 _ _ from ?_)
    refine word_turn ns (200000000 + 20 * (4 - (j + 1))) ts h1 hok nm on w hm d (hd.mono (by omega)) _ _ _ _ _ _ _ fun d' x8 x9 hd' => ?_
    exact hf _ ⟨d', _, _, _, hd', rfl⟩
theorem thing_nil : thingB [] = false := by decide
theorem thing_bar : thingB [124] = true := by decide
theorem thing_sp : thingB [32] = true := by decide
theorem cor_law : Cor sp_law [false] 10 ir_law := by
  rintro (ns : List Int) ds ⟨rfl, hl⟩ hl2
  clear hl2
  conv => whnf
  refine deal_k hl fun d hd => ?_
  conv => whnf
  refine take_k (n := 500000000) (hd.mono (by omega)) (by decide) fun v d1 hd1 v0 v1 => ?_
  obtain ⟨v, rfl⟩ := Int.eq_ofNat_of_zero_le v0
  conv => whnf
  refine things_k (n := 490000000) (many := 1 + v) (hd1.mono (by omega)) (by omega) fun ts d2 hlt ok hd2 => ?_
  array_get_dec
  refine take_k (n := 480000000) (hd2.mono (by omega)) (by decide) fun w d3 hd3 w0 w1 => ?_
  obtain ⟨w, rfl⟩ := Int.eq_ofNat_of_zero_le w0
  array_get_dec
  refine take_k (n := 470000000) (hd3.mono (by omega)) (by decide) fun v2 d4 hd4 y0 y1 => ?_
  obtain ⟨x, hx, hm⟩ := at_any (xs := [D.int 12, D.int (1 + (w : Int))]) y0 y1
  obtain ⟨z, rfl, z1, z2⟩ : ∃ z : Nat, x = .int z ∧ 1 ≤ z ∧ z ≤ 12 := by
    simp only [List.mem_cons, List.not_mem_nil, or_false] at hm
    rcases hm with rfl | rfl
    · exact ⟨12, rfl, by decide, by decide⟩
    · exact ⟨1 + w, by rw [Int.natCast_add]; rfl, by omega, by omega⟩
  conv => whnf
  refine ⟨_, hx, ?_⟩
  conv => whnf
  refine func_k (n := 460000000) (z := z) (hd4.mono (by omega)) z1 z2 fun nm d5 hd5 on => ?_
  conv => whnf
  refine ⟨fun _ => trivial, ?_⟩
  refine for_list _ (fun j env => ∃ d x4, Dl (400000000 + 10 * (ts.length - j)) d ∧ env = [.sh (.scr ns), .ow d, .sh (tsD ts), .sh (.str nm), x4, .no, .no, .no, .no, .no]) ?_ ?_ _ ⟨d5, _, hd5.mono (by omega), rfl⟩
  · rintro env ⟨d, x4, hd, rfl⟩
    conv => whnf
    refine thing_k (by decide) ?_
    rw [thing_nil]
    conv => whnf
    refine no_k (b := false) ?_
    conv => whnf
    refine ⟨fun h => Bool.noConfusion h, fun _ => ?_⟩
    conv => whnf
    refine thing_k (by decide) ?_
    rw [thing_bar]
    conv => whnf
    refine yes_k (b := true) ?_
    conv => whnf
    refine ⟨fun h => Bool.noConfusion h, fun _ => ?_⟩
    conv => whnf
    refine thing_k (by decide) ?_
    rw [thing_sp]
    conv => whnf
    refine yes_k (b := true) ?_
    conv => whnf
    refine ⟨fun h => Bool.noConfusion h, fun _ => ?_⟩
    refine (show wSs (tailS 5 ir_law) _ _ from ?_)
    exact law_mid ns ts (by omega) (by omega) (fun t ht => okX (ok t ht)) nm on d (hd.mono (by omega)) _
  · rintro j q env f hq ⟨d, x4, hd, rfl⟩ hf
    obtain ⟨t, ht, rfl⟩ := get_map' hq
    have hj := (List.getElem?_eq_some_iff.mp ht).1
    have ox := okX (ok t (List.mem_of_getElem? ht))
    have hf9 := ox.few
    conv => whnf
    refine thing_k (by omega) ?_
    rw [ox.th]
    conv => whnf
    refine yes_k (b := true) ?_
    conv => whnf
    refine ⟨fun h => Bool.noConfusion h, fun _ => ?_⟩
    conv => whnf
    refine btext_k (n := 400000000 + 10 * (ts.length - (j + 1))) (hd.mono (by omega)) hf9 fun u d2 hd2 q1 q2 => ?_
    conv => whnf
    refine thing_k (by omega) ?_
    rw [q2]
    conv => whnf
    refine no_k (b := false) ?_
    conv => whnf
    refine ⟨fun h => Bool.noConfusion h, fun _ => ?_⟩
    exact hf _ ⟨d2, _, hd2, rfl⟩

end SU.K53
end PW

namespace PW
namespace SU.K53
open PySem L2 PyProof.Rows
def top (i : Nat) : Stmt := PySem.Challenge.pw_booksowed_k53_things_and_claims.main.body.getD i (.Pass ⟨0, 0, 0, 0⟩)
section
variable {P : Program} {w : World} {K : PySem.W.Frag} {mg : Str → Option Value} {base : Heap}
theorem sc__law_deal : FnScope ["script", "row", "k", "total", "cell", "turn"] ["script"] (defScope (top 13)) := ⟨rfl, rfl, rfl, by decide +kernel, rfl, by decide +kernel, by decide +kernel⟩
theorem ck__law_deal : cSs ["script", "row", "k", "total", "cell", "turn"] (defScope (top 13)) [false] ir__law_deal (defBody (top 13)) = true := by decide +kernel
theorem fs__law_deal (D : DefAt K mg "_law_deal" (top 13)) (z_range : mg "range" = none) (z_min : mg "min" = none) (z_abs : mg "abs" = none) (z_sum : mg "sum" = none) (z_len : mg "len" = none) (z_int : mg "int" = none) : FnS P w K mg base 1 nm__law_deal sp__law_deal [false] :=
  DefAt.fnS (ps := ["script"]) D (fun _ _ _ _ _ _ us hl => match us, hl with | [_], _ => rfl) sc__law_deal rfl ck__law_deal (by repeat' (first | exact trivial | assumption | refine And.intro ?_ ?_)) cor_deal
theorem sc__law_take : FnScope ["deal", "many", "at"] ["deal", "many"] (defScope (top 14)) := ⟨rfl, rfl, rfl, by decide +kernel, rfl, by decide +kernel, by decide +kernel⟩
theorem ck__law_take : cSs ["deal", "many", "at"] (defScope (top 14)) [true, false] ir__law_take (defBody (top 14)) = true := by decide +kernel
theorem fs__law_take (D : DefAt K mg "_law_take" (top 14)) (z_len : mg "len" = none) : FnS P w K mg base 1 nm__law_take sp__law_take [true, false] :=
  DefAt.fnS (ps := ["deal", "many"]) D (fun _ _ _ _ _ _ us hl => match us, hl with | [_, _], _ => rfl) sc__law_take rfl ck__law_take (by repeat' (first | exact trivial | assumption | refine And.intro ?_ ?_)) cor_take
theorem sc__law_things : FnScope ["deal", "many", "plain", "found", "k", "size", "text", "turn"] ["deal", "many"] (defScope (top 17)) := ⟨rfl, rfl, rfl, by decide +kernel, rfl, by decide +kernel, by decide +kernel⟩
theorem ck__law_things : cSs ["deal", "many", "plain", "found", "k", "size", "text", "turn"] (defScope (top 17)) [true, false] ir__law_things (defBody (top 17)) = true := by decide +kernel
theorem fs__law_things (D : DefAt K mg "_law_things" (top 17)) (z_range : mg "range" = none) (h__law_take : FnS P w K mg base 1 nm__law_take sp__law_take [true, false]) : FnS P w K mg base 2 nm__law_things sp__law_things [true, false] :=
  DefAt.fnS (ps := ["deal", "many"]) D (fun _ _ _ _ _ _ us hl => match us, hl with | [_, _], _ => rfl) sc__law_things rfl ck__law_things (by repeat' (first | exact trivial | assumption | refine And.intro ?_ ?_)) cor__law_things
theorem sc__law_function : FnScope ["deal", "size", "small", "name", "k"] ["deal", "size"] (defScope (top 20)) := ⟨rfl, rfl, rfl, by decide +kernel, rfl, by decide +kernel, by decide +kernel⟩
theorem ck__law_function : cSs ["deal", "size", "small", "name", "k"] (defScope (top 20)) [true, false] ir__law_function (defBody (top 20)) = true := by decide +kernel
theorem fs__law_function (D : DefAt K mg "_law_function" (top 20)) (z_range : mg "range" = none) (h__law_take : FnS P w K mg base 1 nm__law_take sp__law_take [true, false]) : FnS P w K mg base 2 nm__law_function sp__law_function [true, false] :=
  DefAt.fnS (ps := ["deal", "size"]) D (fun _ _ _ _ _ _ us hl => match us, hl with | [_, _], _ => rfl) sc__law_function rfl ck__law_function (by repeat' (first | exact trivial | assumption | refine And.intro ?_ ?_)) cor__law_function
theorem sc__law_claims : FnScope ["deal", "things", "name", "claims", "many", "k", "pair", "word"] ["deal", "things", "name"] (defScope (top 23)) := ⟨rfl, rfl, rfl, by decide +kernel, rfl, by decide +kernel, by decide +kernel⟩
theorem ck__law_claims : cSs ["deal", "things", "name", "claims", "many", "k", "pair", "word"] (defScope (top 23)) [true, false, false] ir__law_claims (defBody (top 23)) = true := by decide +kernel
theorem fs__law_claims (D : DefAt K mg "_law_claims" (top 23)) (z_range : mg "range" = none) (z_len : mg "len" = none) (h__law_take : FnS P w K mg base 1 nm__law_take sp__law_take [true, false]) : FnS P w K mg base 2 nm__law_claims sp__law_claims [true, false, false] :=
  DefAt.fnS (ps := ["deal", "things", "name"]) D (fun _ _ _ _ _ _ us hl => match us, hl with | [_, _, _], _ => rfl) sc__law_claims rfl ck__law_claims (by repeat' (first | exact trivial | assumption | refine And.intro ?_ ?_)) cor__law_claims
theorem sc_things_of : FnScope ["claims", "found", "claim", "thing"] ["claims"] (defScope (top 11)) := ⟨rfl, rfl, rfl, by decide +kernel, rfl, by decide +kernel, by decide +kernel⟩
theorem ck_things_of : cSs ["claims", "found", "claim", "thing"] (defScope (top 11)) [false] ir_things_of (defBody (top 11)) = true := by decide +kernel
theorem fs_things_of (D : DefAt K mg "things_of" (top 11)) (z_list : mg "list" = none) : FnS P w K mg base 1 nm_things_of sp_things_of [false] :=
  DefAt.fnS (ps := ["claims"]) D (fun _ _ _ _ _ _ us hl => match us, hl with | [_], _ => rfl) sc_things_of rfl ck_things_of (by repeat' (first | exact trivial | assumption | refine And.intro ?_ ?_)) cor_things_of
theorem sc__law_right_list : FnScope ["claims", "told", "due", "claim", "k", "thing"] ["claims"] (defScope (top 24)) := ⟨rfl, rfl, rfl, by decide +kernel, rfl, by decide +kernel, by decide +kernel⟩
theorem ck__law_right_list : cSs ["claims", "told", "due", "claim", "k", "thing"] (defScope (top 24)) [false] ir__law_right_list (defBody (top 24)) = true := by decide +kernel
theorem fs__law_right_list (D : DefAt K mg "_law_right_list" (top 24)) (z_range : mg "range" = none) (z_len : mg "len" = none) (z_isinstance : mg "isinstance" = none) (z_list : mg "list" = none) (z_str : mg "str" = none) (h_things_of : FnS P w K mg base 1 nm_things_of sp_things_of [false]) : FnS P w K mg base 2 nm__law_right_list sp__law_right_list [false] :=
  DefAt.fnS (ps := ["claims"]) D (fun _ _ _ _ _ _ us hl => match us, hl with | [_], _ => rfl) sc__law_right_list rfl ck__law_right_list (by repeat' (first | exact trivial | assumption | refine And.intro ?_ ?_)) cor__law_right_list
theorem sc__law_bad_text : FnScope ["deal", "thing", "bad", "at"] ["deal", "thing"] (defScope (top 18)) := ⟨rfl, rfl, rfl, by decide +kernel, rfl, by decide +kernel, by decide +kernel⟩
theorem ck__law_bad_text : cSs ["deal", "thing", "bad", "at"] (defScope (top 18)) [true, false] ir__law_bad_text (defBody (top 18)) = true := by decide +kernel
theorem fs__law_bad_text (D : DefAt K mg "_law_bad_text" (top 18)) (z_len : mg "len" = none) (h__law_take : FnS P w K mg base 1 nm__law_take sp__law_take [true, false]) : FnS P w K mg base 2 nm__law_bad_text sp__law_bad_text [true, false] :=
  DefAt.fnS (ps := ["deal", "thing"]) D (fun _ _ _ _ _ _ us hl => match us, hl with | [_, _], _ => rfl) sc__law_bad_text rfl ck__law_bad_text (by repeat' (first | exact trivial | assumption | refine And.intro ?_ ?_)) cor__law_bad_text
theorem sc__law_bad_part : FnScope ["deal", "thing", "odd"] ["deal", "thing"] (defScope (top 19)) := ⟨rfl, rfl, rfl, by decide +kernel, rfl, by decide +kernel, by decide +kernel⟩
theorem ck__law_bad_part : cSs ["deal", "thing", "odd"] (defScope (top 19)) [true, false] ir__law_bad_part (defBody (top 19)) = true := by decide +kernel
theorem fs__law_bad_part (D : DefAt K mg "_law_bad_part" (top 19)) (h__law_bad_text : FnS P w K mg base 2 nm__law_bad_text sp__law_bad_text [true, false]) (h__law_take : FnS P w K mg base 2 nm__law_take sp__law_take [true, false]) : FnS P w K mg base 3 nm__law_bad_part sp__law_bad_part [true, false] :=
  DefAt.fnS (ps := ["deal", "thing"]) D (fun _ _ _ _ _ _ us hl => match us, hl with | [_, _], _ => rfl) sc__law_bad_part rfl ck__law_bad_part (by repeat' (first | exact trivial | assumption | refine And.intro ?_ ?_)) cor__law_bad_part
theorem sc__law_bad_function : FnScope ["deal", "name", "odd"] ["deal", "name"] (defScope (top 21)) := ⟨rfl, rfl, rfl, by decide +kernel, rfl, by decide +kernel, by decide +kernel⟩
theorem ck__law_bad_function : cSs ["deal", "name", "odd"] (defScope (top 21)) [true, false] ir__law_bad_function (defBody (top 21)) = true := by decide +kernel
theorem fs__law_bad_function (D : DefAt K mg "_law_bad_function" (top 21)) (z_len : mg "len" = none) (h__law_take : FnS P w K mg base 1 nm__law_take sp__law_take [true, false]) : FnS P w K mg base 2 nm__law_bad_function sp__law_bad_function [true, false] :=
  DefAt.fnS (ps := ["deal", "name"]) D (fun _ _ _ _ _ _ us hl => match us, hl with | [_, _], _ => rfl) sc__law_bad_function rfl ck__law_bad_function (by repeat' (first | exact trivial | assumption | refine And.intro ?_ ?_)) cor__law_bad_function
theorem sc__law_wrong_claims : FnScope ["deal", "claim", "thing", "rows", "words"] ["deal", "claim", "thing"] (defScope (top 22)) := ⟨rfl, rfl, rfl, by decide +kernel, rfl, by decide +kernel, by decide +kernel⟩
theorem ck__law_wrong_claims : cSs ["deal", "claim", "thing", "rows", "words"] (defScope (top 22)) [true, false, false] ir__law_wrong_claims (defBody (top 22)) = true := by decide +kernel
theorem fs__law_wrong_claims (D : DefAt K mg "_law_wrong_claims" (top 22)) (z_len : mg "len" = none) (h__law_bad_part : FnS P w K mg base 3 nm__law_bad_part sp__law_bad_part [true, false]) (h__law_take : FnS P w K mg base 3 nm__law_take sp__law_take [true, false]) (h__law_bad_function : FnS P w K mg base 3 nm__law_bad_function sp__law_bad_function [true, false]) : FnS P w K mg base 4 nm__law_wrong_claims sp__law_wrong_claims [true, false, false] :=
  DefAt.fnS (ps := ["deal", "claim", "thing"]) D (fun _ _ _ _ _ _ us hl => match us, hl with | [_, _, _], _ => rfl) sc__law_wrong_claims rfl ck__law_wrong_claims (by repeat' (first | exact trivial | assumption | refine And.intro ?_ ?_)) cor__law_wrong_claims
theorem sc__law_no : FnScope ["told"] ["told"] (defScope (top 16)) := ⟨rfl, rfl, rfl, by decide +kernel, rfl, by decide +kernel, by decide +kernel⟩
theorem ck__law_no : cSs ["told"] (defScope (top 16)) [false] ir__law_no (defBody (top 16)) = true := by decide +kernel
theorem fs__law_no (D : DefAt K mg "_law_no" (top 16)) (z_isinstance : mg "isinstance" = none) (z_bool : mg "bool" = none) : FnS P w K mg base 1 nm__law_no sp__law_no [false] :=
  DefAt.fnS (ps := ["told"]) D (fun _ _ _ _ _ _ us hl => match us, hl with | [_], _ => rfl) sc__law_no rfl ck__law_no (by repeat' (first | exact trivial | assumption | refine And.intro ?_ ?_)) cor__law_no
theorem sc__law_yes : FnScope ["told"] ["told"] (defScope (top 15)) := ⟨rfl, rfl, rfl, by decide +kernel, rfl, by decide +kernel, by decide +kernel⟩
theorem ck__law_yes : cSs ["told"] (defScope (top 15)) [false] ir__law_yes (defBody (top 15)) = true := by decide +kernel
theorem fs__law_yes (D : DefAt K mg "_law_yes" (top 15)) (z_isinstance : mg "isinstance" = none) (z_bool : mg "bool" = none) : FnS P w K mg base 1 nm__law_yes sp__law_yes [false] :=
  DefAt.fnS (ps := ["told"]) D (fun _ _ _ _ _ _ us hl => match us, hl with | [_], _ => rfl) sc__law_yes rfl ck__law_yes (by repeat' (first | exact trivial | assumption | refine And.intro ?_ ?_)) cor__law_yes
theorem sc_is_plain : FnScope ["text", "sign"] ["text"] (defScope (top 5)) := ⟨rfl, rfl, rfl, by decide +kernel, rfl, by decide +kernel, by decide +kernel⟩
theorem ck_is_plain : cSs ["text", "sign"] (defScope (top 5)) [false] ir_is_plain (defBody (top 5)) = true := by decide +kernel
theorem fs_is_plain (D : DefAt K mg "is_plain" (top 5)) (g_PLAIN : Gm.Glob ⟨P, w, K, mg, base, 0⟩ nm_PLAIN g_PLAIN) : FnS P w K mg base 1 nm_is_plain sp_is_plain [false] :=
  DefAt.fnS (ps := ["text"]) D (fun _ _ _ _ _ _ us hl => match us, hl with | [_], _ => rfl) sc_is_plain rfl ck_is_plain (by repeat' (first | exact trivial | assumption | refine And.intro ?_ ?_)) cor_is_plain
theorem sc_is_thing : FnScope ["text"] ["text"] (defScope (top 8)) := ⟨rfl, rfl, rfl, by decide +kernel, rfl, by decide +kernel, by decide +kernel⟩
theorem fs_is_thing (D : DefAt K mg "is_thing" (top 8)) (h_is_plain : FnS P w K mg base 1 nm_is_plain sp_is_plain [false]) : FnS P w K mg base 2 nm_is_thing sp_is_thing [false] :=
  th_fn (c := 124) D (fun _ _ _ _ _ _ us hl => match us, hl with | [_], _ => rfl) sc_is_thing rfl rfl (by decide) rfl (by decide) (by decide) rfl (by decide) h_is_plain thing_hs
theorem sc_are_things : FnScope ["parts", "part"] ["parts"] (defScope (top 9)) := ⟨rfl, rfl, rfl, by decide +kernel, rfl, by decide +kernel, by decide +kernel⟩
theorem ck_are_things : cSs ["parts", "part"] (defScope (top 9)) [false] ir_are_things (defBody (top 9)) = true := by decide +kernel
theorem fs_are_things (D : DefAt K mg "are_things" (top 9)) (z_isinstance : mg "isinstance" = none) (z_str : mg "str" = none) (h_is_thing : FnS P w K mg base 2 nm_is_thing sp_is_thing [false]) : FnS P w K mg base 3 nm_are_things sp_are_things [false] :=
  DefAt.fnS (ps := ["parts"]) D (fun _ _ _ _ _ _ us hl => match us, hl with | [_], _ => rfl) sc_are_things rfl ck_are_things (by repeat' (first | exact trivial | assumption | refine And.intro ?_ ?_)) cor_are_things
theorem sc_is_name : FnScope ["text", "sign"] ["text"] (defScope (top 6)) := ⟨rfl, rfl, rfl, by decide +kernel, rfl, by decide +kernel, by decide +kernel⟩
theorem ck_is_name : cSs ["text", "sign"] (defScope (top 6)) [false] ir_is_name (defBody (top 6)) = true := by decide +kernel
theorem fs_is_name (D : DefAt K mg "is_name" (top 6)) (z_len : mg "len" = none) (g_SMALL : Gm.Glob ⟨P, w, K, mg, base, 0⟩ nm_SMALL g_SMALL) (g_NAME_SIGNS : Gm.Glob ⟨P, w, K, mg, base, 0⟩ nm_NAME_SIGNS g_NAME_SIGNS) (g_LONGEST_NAME : Gm.Glob ⟨P, w, K, mg, base, 0⟩ nm_LONGEST_NAME g_LONGEST_NAME) : FnS P w K mg base 1 nm_is_name sp_is_name [false] :=
  DefAt.fnS (ps := ["text"]) D (fun _ _ _ _ _ _ us hl => match us, hl with | [_], _ => rfl) sc_is_name rfl ck_is_name (by repeat' (first | exact trivial | assumption | refine And.intro ?_ ?_)) cor_is_name
theorem sc_is_claim : FnScope ["claim", "word"] ["claim"] (defScope (top 10)) := ⟨rfl, rfl, rfl, by decide +kernel, rfl, by decide +kernel, by decide +kernel⟩
theorem ck_is_claim : cSs ["claim", "word"] (defScope (top 10)) [false] ir_is_claim (defBody (top 10)) = true := by decide +kernel
theorem fs_is_claim (D : DefAt K mg "is_claim" (top 10)) (z_len : mg "len" = none) (z_isinstance : mg "isinstance" = none) (z_str : mg "str" = none) (h_are_things : FnS P w K mg base 3 nm_are_things sp_are_things [false]) (h_is_name : FnS P w K mg base 3 nm_is_name sp_is_name [false]) : FnS P w K mg base 4 nm_is_claim sp_is_claim [false] :=
  DefAt.fnS (ps := ["claim"]) D (fun _ _ _ _ _ _ us hl => match us, hl with | [_], _ => rfl) sc_is_claim rfl ck_is_claim (by repeat' (first | exact trivial | assumption | refine And.intro ?_ ?_)) cor_is_claim
theorem sc_law : FnScope ["script", "deal", "things", "name", "thing", "word", "claims", "before", "claim", "wrong"] ["script"] (defScope (top 25)) := ⟨rfl, rfl, rfl, by decide +kernel, rfl, by decide +kernel, by decide +kernel⟩
theorem ck_law : cSs ["script", "deal", "things", "name", "thing", "word", "claims", "before", "claim", "wrong"] (defScope (top 25)) [false] ir_law (defBody (top 25)) = true := by decide +kernel
end
theorem all_mk {l : PySem.W.OpenLaw} {w : World} {K : PySem.W.Frag} {h : Heap} {mg : Str → Option Value} {fa f : Addr} (X : K.In h) (G : h.Ns mainGlobals mg) (hfa : mg "law" = some (.ref fa))
        (D__law_deal : DefAt K mg "_law_deal" (top 13))
    (D__law_take : DefAt K mg "_law_take" (top 14))
    (D__law_things : DefAt K mg "_law_things" (top 17))
    (D__law_function : DefAt K mg "_law_function" (top 20))
    (D__law_claims : DefAt K mg "_law_claims" (top 23))
    (D_things_of : DefAt K mg "things_of" (top 11))
    (D__law_right_list : DefAt K mg "_law_right_list" (top 24))
    (D__law_bad_text : DefAt K mg "_law_bad_text" (top 18))
    (D__law_bad_part : DefAt K mg "_law_bad_part" (top 19))
    (D__law_bad_function : DefAt K mg "_law_bad_function" (top 21))
    (D__law_wrong_claims : DefAt K mg "_law_wrong_claims" (top 22))
    (D__law_no : DefAt K mg "_law_no" (top 16))
    (D__law_yes : DefAt K mg "_law_yes" (top 15))
    (D_is_plain : DefAt K mg "is_plain" (top 5))
    (D_is_thing : DefAt K mg "is_thing" (top 8))
    (D_are_things : DefAt K mg "are_things" (top 9))
    (D_is_name : DefAt K mg "is_name" (top 6))
    (D_is_claim : DefAt K mg "is_claim" (top 10))
    (y_range : PySem.W.nsIn K mainGlobals "range" = some none)
    (y_min : PySem.W.nsIn K mainGlobals "min" = some none)
    (y_abs : PySem.W.nsIn K mainGlobals "abs" = some none)
    (y_sum : PySem.W.nsIn K mainGlobals "sum" = some none)
    (y_len : PySem.W.nsIn K mainGlobals "len" = some none)
    (y_int : PySem.W.nsIn K mainGlobals "int" = some none)
    (y_list : PySem.W.nsIn K mainGlobals "list" = some none)
    (y_isinstance : PySem.W.nsIn K mainGlobals "isinstance" = some none)
    (y_str : PySem.W.nsIn K mainGlobals "str" = some none)
    (y_bool : PySem.W.nsIn K mainGlobals "bool" = some none)
    {s_PLAIN : Str} {n_PLAIN : Nat} (y_PLAIN : PySem.W.nsIn K mainGlobals "PLAIN" = some (some (.str s_PLAIN n_PLAIN))) (e_PLAIN : s_PLAIN = tx plainS)
    {s_SMALL : Str} {n_SMALL : Nat} (y_SMALL : PySem.W.nsIn K mainGlobals "SMALL" = some (some (.str s_SMALL n_SMALL))) (e_SMALL : s_SMALL = tx smallS)
    {s_NAME_SIGNS : Str} {n_NAME_SIGNS : Nat} (y_NAME_SIGNS : PySem.W.nsIn K mainGlobals "NAME_SIGNS" = some (some (.str s_NAME_SIGNS n_NAME_SIGNS))) (e_NAME_SIGNS : s_NAME_SIGNS = tx nameS)
    {s_LONGEST_NAME : Int} {n_LONGEST_NAME : Nat} (y_LONGEST_NAME : PySem.W.nsIn K mainGlobals "LONGEST_NAME" = some (some (.int s_LONGEST_NAME n_LONGEST_NAME))) (e_LONGEST_NAME : s_LONGEST_NAME = 12)
    {oc : Value} {od an : Option Addr} {osl : Array (Option Value)} {kV doc pm cdv ct : Value} (a : PySem.W.nsIn K mainGlobals "law" = some (some (.ref f)))
    (lk : K.lookup f = some ⟨oc, od, .func (PySem.W.fnOf "law" "law" (defArgs (top 25)) (defBody (top 25)) (defScope (top 25)) .none kV doc pm an cdv ct), osl⟩) (c : PySem.W.codeIn K cdv "law" = true) (kp : PySem.W.keepIn K (.ref f) = true) :
    ∃ fd : FuncData, (∀ (s : Shared) (u : Value), BindsTo s fd ⟨[u], []⟩ [("script", u)]) ∧ ∀ base : Heap, K.In base → base.Ns mainGlobals mg → FnOk l.prog w K mg base CX0 5 fa fd ["script"] (Lift K sp_law [false]) :=
  law_head (n := 4) X G hfa a lk c kp (fun s v => .of_eq rfl) sc_law ck_law (fun base Xb Gb => by
    have z_range := PySem.W.mg_none_of Xb Gb y_range
    have z_min := PySem.W.mg_none_of Xb Gb y_min
    have z_abs := PySem.W.mg_none_of Xb Gb y_abs
    have z_sum := PySem.W.mg_none_of Xb Gb y_sum
    have z_len := PySem.W.mg_none_of Xb Gb y_len
    have z_int := PySem.W.mg_none_of Xb Gb y_int
    have z_list := PySem.W.mg_none_of Xb Gb y_list
    have z_isinstance := PySem.W.mg_none_of Xb Gb y_isinstance
    have z_str := PySem.W.mg_none_of Xb Gb y_str
    have z_bool := PySem.W.mg_none_of Xb Gb y_bool
    have g_PLAIN : ∀ j, Gm.Glob ⟨l.prog, w, K, mg, base, j⟩ nm_PLAIN g_PLAIN := fun j => glob_str X G y_PLAIN e_PLAIN
    have g_SMALL : ∀ j, Gm.Glob ⟨l.prog, w, K, mg, base, j⟩ nm_SMALL g_SMALL := fun j => glob_str X G y_SMALL e_SMALL
    have g_NAME_SIGNS : ∀ j, Gm.Glob ⟨l.prog, w, K, mg, base, j⟩ nm_NAME_SIGNS g_NAME_SIGNS := fun j => glob_str X G y_NAME_SIGNS e_NAME_SIGNS
    have g_LONGEST_NAME : ∀ j, Gm.Glob ⟨l.prog, w, K, mg, base, j⟩ nm_LONGEST_NAME g_LONGEST_NAME := fun j => glob_int X G y_LONGEST_NAME e_LONGEST_NAME
    have h__law_deal : FnS l.prog w K mg base 1 nm__law_deal sp__law_deal [false] := fs__law_deal D__law_deal z_range z_min z_abs z_sum z_len z_int
    have h__law_take : FnS l.prog w K mg base 1 nm__law_take sp__law_take [true, false] := fs__law_take D__law_take z_len
    have h__law_things : FnS l.prog w K mg base 2 nm__law_things sp__law_things [true, false] := fs__law_things D__law_things z_range (h__law_take.mono (by decide))
    have h__law_function : FnS l.prog w K mg base 2 nm__law_function sp__law_function [true, false] := fs__law_function D__law_function z_range (h__law_take.mono (by decide))
    have h__law_claims : FnS l.prog w K mg base 2 nm__law_claims sp__law_claims [true, false, false] := fs__law_claims D__law_claims z_range z_len (h__law_take.mono (by decide))
    have h_things_of : FnS l.prog w K mg base 1 nm_things_of sp_things_of [false] := fs_things_of D_things_of z_list
    have h__law_right_list : FnS l.prog w K mg base 2 nm__law_right_list sp__law_right_list [false] := fs__law_right_list D__law_right_list z_range z_len z_isinstance z_list z_str (h_things_of.mono (by decide))
    have h__law_bad_text : FnS l.prog w K mg base 2 nm__law_bad_text sp__law_bad_text [true, false] := fs__law_bad_text D__law_bad_text z_len (h__law_take.mono (by decide))
    have h__law_bad_part : FnS l.prog w K mg base 3 nm__law_bad_part sp__law_bad_part [true, false] := fs__law_bad_part D__law_bad_part (h__law_bad_text.mono (by decide)) (h__law_take.mono (by decide))
    have h__law_bad_function : FnS l.prog w K mg base 2 nm__law_bad_function sp__law_bad_function [true, false] := fs__law_bad_function D__law_bad_function z_len (h__law_take.mono (by decide))
    have h__law_wrong_claims : FnS l.prog w K mg base 4 nm__law_wrong_claims sp__law_wrong_claims [true, false, false] := fs__law_wrong_claims D__law_wrong_claims z_len (h__law_bad_part.mono (by decide)) (h__law_take.mono (by decide)) (h__law_bad_function.mono (by decide))
    have h__law_no : FnS l.prog w K mg base 1 nm__law_no sp__law_no [false] := fs__law_no D__law_no z_isinstance z_bool
    have h__law_yes : FnS l.prog w K mg base 1 nm__law_yes sp__law_yes [false] := fs__law_yes D__law_yes z_isinstance z_bool
    have h_is_plain : FnS l.prog w K mg base 1 nm_is_plain sp_is_plain [false] := fs_is_plain D_is_plain (g_PLAIN _)
    have h_is_thing : FnS l.prog w K mg base 2 nm_is_thing sp_is_thing [false] := fs_is_thing D_is_thing (h_is_plain.mono (by decide))
    have h_are_things : FnS l.prog w K mg base 3 nm_are_things sp_are_things [false] := fs_are_things D_are_things z_isinstance z_str (h_is_thing.mono (by decide))
    have h_is_name : FnS l.prog w K mg base 1 nm_is_name sp_is_name [false] := fs_is_name D_is_name z_len (g_SMALL _) (g_NAME_SIGNS _) (g_LONGEST_NAME _)
    have h_is_claim : FnS l.prog w K mg base 4 nm_is_claim sp_is_claim [false] := fs_is_claim D_is_claim z_len z_isinstance z_str (h_are_things.mono (by decide)) (h_is_name.mono (by decide))
    have k__law_deal := h__law_deal.mono (k := 4) (by decide)
    have k__law_things := h__law_things.mono (k := 4) (by decide)
    have k__law_function := h__law_function.mono (k := 4) (by decide)
    have k__law_claims := h__law_claims.mono (k := 4) (by decide)
    have k__law_right_list := h__law_right_list.mono (k := 4) (by decide)
    have k__law_wrong_claims := h__law_wrong_claims.mono (k := 4) (by decide)
    have k__law_take := h__law_take.mono (k := 4) (by decide)
    have k__law_no := h__law_no.mono (k := 4) (by decide)
    have k__law_yes := h__law_yes.mono (k := 4) (by decide)
    have k_is_thing := h_is_thing.mono (k := 4) (by decide)
    have k_is_claim := h_is_claim.mono (k := 4) (by decide)
    have k__law_bad_text := h__law_bad_text.mono (k := 4) (by decide)
    clear h__law_deal h__law_take h__law_things h__law_function h__law_claims h_things_of h__law_right_list h__law_bad_text h__law_bad_part h__law_bad_function h__law_wrong_claims h__law_no h__law_yes h_is_plain h_is_thing h_are_things h_is_name h_is_claim
    repeat' (first | exact trivial | assumption | refine And.intro ?_ ?_)) cor_law
end SU.K53
end PW
open PySem PySem.W PyProof.Rows in
set_option maxRecDepth 100000 in
set_option maxHeartbeats 0 in
theorem PySem.Challenge.cw_booksowed_k53_things_and_claims_holds : PySem.Challenge.rw_booksowed_k53_things_and_claims.Holds := by
  w_on; o_law; k_head; (case hw => w_witness2)
  k_fill
  refine PW.walk_law (l := PySem.Challenge.rw_booksowed_k53_things_and_claims) (n := 4) rfl rfl ⟨rfl, by decide, by decide⟩ (fun w h Y => PySem.W.kIn_of Y) ?F
  case F =>
    intro w mg fa h KX G hmg
    refine' PW.SU.K53.all_mk KX G hmg (PW.DefAt.mk' KX G ?a0 ?l0 ?c0 ?k0) (PW.DefAt.mk' KX G ?a1 ?l1 ?c1 ?k1) (PW.DefAt.mk' KX G ?a2 ?l2 ?c2 ?k2) (PW.DefAt.mk' KX G ?a3 ?l3 ?c3 ?k3) (PW.DefAt.mk' KX G ?a4 ?l4 ?c4 ?k4) (PW.DefAt.mk' KX G ?a5 ?l5 ?c5 ?k5) (PW.DefAt.mk' KX G ?a6 ?l6 ?c6 ?k6) (PW.DefAt.mk' KX G ?a7 ?l7 ?c7 ?k7) (PW.DefAt.mk' KX G ?a8 ?l8 ?c8 ?k8) (PW.DefAt.mk' KX G ?a9 ?l9 ?c9 ?k9) (PW.DefAt.mk' KX G ?a10 ?l10 ?c10 ?k10) (PW.DefAt.mk' KX G ?a11 ?l11 ?c11 ?k11) (PW.DefAt.mk' KX G ?a12 ?l12 ?c12 ?k12) (PW.DefAt.mk' KX G ?a13 ?l13 ?c13 ?k13) (PW.DefAt.mk' KX G ?a14 ?l14 ?c14 ?k14) (PW.DefAt.mk' KX G ?a15 ?l15 ?c15 ?k15) (PW.DefAt.mk' KX G ?a16 ?l16 ?c16 ?k16) (PW.DefAt.mk' KX G ?a17 ?l17 ?c17 ?k17) ?z0 ?z1 ?z2 ?z3 ?z4 ?z5 ?z6 ?z7 ?z8 ?z9 ?s0 ?e0 ?s1 ?e1 ?s2 ?e2 ?s3 ?e3 ?aL ?lL ?cL ?kL
    (case a0 => k_is)
    (case l0 => k_is)
    (case c0 => k_is)
    (case k0 => k_is)
    (case a1 => k_is)
    (case l1 => k_is)
    (case c1 => k_is)
    (case k1 => k_is)
    (case a2 => k_is)
    (case l2 => k_is)
    (case c2 => k_is)
    (case k2 => k_is)
    (case a3 => k_is)
    (case l3 => k_is)
    (case c3 => k_is)
    (case k3 => k_is)
    (case a4 => k_is)
    (case l4 => k_is)
    (case c4 => k_is)
    (case k4 => k_is)
    (case a5 => k_is)
    (case l5 => k_is)
    (case c5 => k_is)
    (case k5 => k_is)
    (case a6 => k_is)
    (case l6 => k_is)
    (case c6 => k_is)
    (case k6 => k_is)
    (case a7 => k_is)
    (case l7 => k_is)
    (case c7 => k_is)
    (case k7 => k_is)
    (case a8 => k_is)
    (case l8 => k_is)
    (case c8 => k_is)
    (case k8 => k_is)
    (case a9 => k_is)
    (case l9 => k_is)
    (case c9 => k_is)
    (case k9 => k_is)
    (case a10 => k_is)
    (case l10 => k_is)
    (case c10 => k_is)
    (case k10 => k_is)
    (case a11 => k_is)
    (case l11 => k_is)
    (case c11 => k_is)
    (case k11 => k_is)
    (case a12 => k_is)
    (case l12 => k_is)
    (case c12 => k_is)
    (case k12 => k_is)
    (case a13 => k_is)
    (case l13 => k_is)
    (case c13 => k_is)
    (case k13 => k_is)
    (case a14 => k_is)
    (case l14 => k_is)
    (case c14 => k_is)
    (case k14 => k_is)
    (case a15 => k_is)
    (case l15 => k_is)
    (case c15 => k_is)
    (case k15 => k_is)
    (case a16 => k_is)
    (case l16 => k_is)
    (case c16 => k_is)
    (case k16 => k_is)
    (case a17 => k_is)
    (case l17 => k_is)
    (case c17 => k_is)
    (case k17 => k_is)
    (case z0 => k_is)
    (case z1 => k_is)
    (case z2 => k_is)
    (case z3 => k_is)
    (case z4 => k_is)
    (case z5 => k_is)
    (case z6 => k_is)
    (case z7 => k_is)
    (case z8 => k_is)
    (case z9 => k_is)
    (case s0 => k_is)
    (case s1 => k_is)
    (case s2 => k_is)
    (case s3 => k_is)
    (case aL => k_is)
    (case lL => k_is)
    (case cL => k_is)
    (case kL => k_is)
    (case e0 => rfl)
    (case e1 => rfl)
    (case e2 => rfl)
    (case e3 => rfl)
