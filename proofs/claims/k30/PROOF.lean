import PyProof.Rows.All
import Wide.All
import OpenK.AllK
import Wide.FinOn
import HandS.ForMost
import HandS.Wide
import HandS.SortInts
import HandS.TupAny
import HandS.Zip
import HandS.Flow
import HandS.Style
import HandS.Text
import HandS.IsInst
import HandS.TupLe
import HandS.Iter
import HandS.SortRule
import HandS.Conv
import HandS.ListItems
import KE.GoesMore
import KE.KDictZip
import KE.GoesZip
import KE.GoesEnum
import HandS.Small
import HandS.More
import PySem.Challenge.RW_tailrooms_k30_whole_spill_that_falls_one
set_option Elab.async false
set_option linter.all false
set_option maxRecDepth 100000
namespace DL
open PySem PySem.Spec L2
open PyProof.Rows hiding St

abbrev D := PyData

mutual
inductive Rep (I : Hp) : V → D → Prop
  | non : Rep I .non .none
  | bl (b : Bool) : Rep I (.bl b) (.bool b)
  | int (i : Int) : Rep I (.int i) (.int i)
  | str (x : Str) : Rep I (.str x) (.str x)
  | lst {a : Addr} {vs : List V} {ds : List D} : I a = some (.lst vs) → RepL I vs ds → Rep I (.ref a) (.list ds)
  | tup {a : Addr} {vs : List V} {ds : List D} : I a = some (.tup vs) → RepL I vs ds → Rep I (.ref a) (.tuple ds)
inductive RepL (I : Hp) : List V → List D → Prop
  | nil : RepL I [] []
  | cons {v : V} {vs : List V} {d : D} {ds : List D} : Rep I v d → RepL I vs ds → RepL I (v :: vs) (d :: ds)
end

def Sub (I I' : Hp) : Prop := ∀ a o, I a = some o → I' a = some o
theorem Sub.refl (I : Hp) : Sub I I := fun _ _ h => h
theorem Sub.trans {I J L : Hp} (a : Sub I J) (b : Sub J L) : Sub I L := fun x o h => b x o (a x o h)
theorem Sub.new {I : Hp} {p : Addr} {o : HO} (h : I p = none) : Sub I (upd I p o) := fun a u e => by
  rw [upd_ne (ne_of_none e h)]; exact e

mutual
theorem Rep.mono {I I' : Hp} (s : Sub I I') : ∀ {v : V} {d : D}, Rep I v d → Rep I' v d
  | _, _, .non => .non
  | _, _, .bl b => .bl b
  | _, _, .int i => .int i
  | _, _, .str x => .str x
  | _, _, .lst h r => .lst (s _ _ h) (RepL.mono s r)
  | _, _, .tup h r => .tup (s _ _ h) (RepL.mono s r)
theorem RepL.mono {I I' : Hp} (s : Sub I I') : ∀ {vs : List V} {ds : List D}, RepL I vs ds → RepL I' vs ds
  | _, _, .nil => .nil
  | _, _, .cons h r => .cons (Rep.mono s h) (RepL.mono s r)
end

section
variable {I : Hp}
theorem RepL.length : ∀ {vs : List V} {ds : List D}, RepL I vs ds → vs.length = ds.length
  | _, _, .nil => rfl
  | _, _, .cons _ r => by simp [RepL.length r]
theorem RepL.get : ∀ {vs : List V} {ds : List D} {i : Nat} {d : D}, RepL I vs ds → ds[i]? = some d → ∃ v, vs[i]? = some v ∧ Rep I v d
  | _, _, _, _, .nil, e => by simp at e
  | _, _, 0, _, .cons h _, e => by simp at e; subst e; exact ⟨_, rfl, h⟩
  | _, _, i + 1, d, .cons _ r, e => by
    obtain ⟨v, h1, h2⟩ := RepL.get (i := i) (d := d) r (by simpa using e)
    exact ⟨v, by simpa using h1, h2⟩
theorem RepL.getV : ∀ {vs : List V} {ds : List D} {i : Nat} {v : V}, RepL I vs ds → vs[i]? = some v → ∃ d, ds[i]? = some d ∧ Rep I v d
  | _, _, _, _, .nil, e => by simp at e
  | _, _, 0, _, .cons h _, e => by simp at e; subst e; exact ⟨_, rfl, h⟩
  | _, _, i + 1, v, .cons _ r, e => by
    obtain ⟨d, h1, h2⟩ := RepL.getV (i := i) (v := v) r (by simpa using e)
    exact ⟨d, by simpa using h1, h2⟩
theorem RepL.append : ∀ {vs ws : List V} {ds es : List D}, RepL I vs ds → RepL I ws es → RepL I (vs ++ ws) (ds ++ es)
  | _, _, _, _, .nil, s => s
  | _, _, _, _, .cons h r, s => .cons h (RepL.append r s)
theorem RepL.set {v : V} {d : D} (h : Rep I v d) : ∀ {vs : List V} {ds : List D} (i : Nat), RepL I vs ds → RepL I (vs.set i v) (ds.set i d)
  | _, _, _, .nil => .nil
  | _, _, 0, .cons _ r => .cons h r
  | _, _, i + 1, .cons q r => .cons q (RepL.set h i r)
theorem RepL.take : ∀ {vs : List V} {ds : List D} (n : Nat), RepL I vs ds → RepL I (vs.take n) (ds.take n)
  | _, _, 0, _ => .nil
  | _, _, _ + 1, .nil => .nil
  | _, _, n + 1, .cons h r => .cons h (RepL.take n r)
theorem RepL.drop : ∀ {vs : List V} {ds : List D} (n : Nat), RepL I vs ds → RepL I (vs.drop n) (ds.drop n)
  | _, _, 0, r => r
  | _, _, _ + 1, .nil => .nil
  | _, _, n + 1, .cons _ r => RepL.drop n r
theorem RepL.eraseIdx : ∀ {vs : List V} {ds : List D} (n : Nat), RepL I vs ds → RepL I (vs.eraseIdx n) (ds.eraseIdx n)
  | _, _, _, .nil => .nil
  | _, _, 0, .cons _ r => r
  | _, _, n + 1, .cons h r => .cons h (RepL.eraseIdx n r)
theorem RepL.reverse {vs : List V} {ds : List D} (h : RepL I vs ds) : RepL I vs.reverse ds.reverse := by
  induction vs generalizing ds with
  | nil => cases h; exact .nil
  | cons v vs ih =>
    cases h with
    | cons a r => rw [List.reverse_cons, List.reverse_cons]; exact (ih r).append (.cons a .nil)
theorem RepL.rep {vs : List V} {ds : List D} (h : RepL I vs ds) : ∀ n : Nat, RepL I (List.replicate n vs).flatten (List.replicate n ds).flatten
  | 0 => .nil
  | n + 1 => by
    rw [List.replicate_succ, List.replicate_succ, List.flatten_cons, List.flatten_cons]
    exact h.append (RepL.rep h n)
theorem RepL.ints : ∀ {ns : List Int} {vs : List V}, RepL I vs (ns.map PyData.int) → vs = ns.map V.int
  | [], _, .nil => rfl
  | _ :: _, _, .cons (.int _) r => by rw [RepL.ints r]; rfl
theorem RepL.bools : ∀ {ns : List Bool} {vs : List V}, RepL I vs (ns.map PyData.bool) → vs = ns.map V.bl
  | [], _, .nil => rfl
  | _ :: _, _, .cons (.bl _) r => by rw [RepL.bools r]; rfl
theorem RepL.strs : ∀ {ns : List Str} {vs : List V}, RepL I vs (ns.map PyData.str) → vs = ns.map V.str
  | [], _, .nil => rfl
  | _ :: _, _, .cons (.str _) r => by rw [RepL.strs r]; rfl
theorem RepL.ofInts : ∀ (ns : List Int), RepL I (ns.map V.int) (ns.map PyData.int)
  | [] => .nil
  | n :: ns => .cons (.int n) (RepL.ofInts ns)
theorem RepL.ofBools : ∀ (ns : List Bool), RepL I (ns.map V.bl) (ns.map PyData.bool)
  | [] => .nil
  | n :: ns => .cons (.bl n) (RepL.ofBools ns)
theorem RepL.ofStrs : ∀ (ns : List Str), RepL I (ns.map V.str) (ns.map PyData.str)
  | [] => .nil
  | n :: ns => .cons (.str n) (RepL.ofStrs ns)
mutual
theorem Rep.inj : ∀ {v : V} {d e : D}, Rep I v d → Rep I v e → d = e
  | _, _, _, .non, .non => rfl
  | _, _, _, .bl _, .bl _ => rfl
  | _, _, _, .int _, .int _ => rfl
  | _, _, _, .str _, .str _ => rfl
  | _, _, _, .lst h r, .lst h' r' => by rw [h] at h'; cases h'; rw [RepL.inj r r']
  | _, _, _, .lst h _, .tup h' _ => by rw [h] at h'; cases h'
  | _, _, _, .tup h _, .lst h' _ => by rw [h] at h'; cases h'
  | _, _, _, .tup h r, .tup h' r' => by rw [h] at h'; cases h'; rw [RepL.inj r r']
theorem RepL.inj : ∀ {vs : List V} {ds es : List D}, RepL I vs ds → RepL I vs es → ds = es
  | _, _, _, .nil, .nil => rfl
  | _, _, _, .cons a r, .cons b s => by rw [Rep.inj a b, RepL.inj r s]
end
mutual
theorem Rep.dp {K : PySem.W.Frag} {H : Hp} (s : Sub I H) : ∀ {v : V} {d : D}, Rep I v d → Dp K H v d
  | _, _, .non => .non
  | _, _, .bl b => .bl b
  | _, _, .int i => .int i
  | _, _, .str x => .str x
  | _, _, .lst h r => .lst (.of (s _ _ h)) (RepL.dp s r)
  | _, _, .tup h r => .tup (.of (s _ _ h)) (RepL.dp s r)
theorem RepL.dp {K : PySem.W.Frag} {H : Hp} (s : Sub I H) : ∀ {vs : List V} {ds : List D}, RepL I vs ds → DpAll K H vs ds
  | _, _, .nil => .nil
  | _, _, .cons h r => .cons (Rep.dp s h) (RepL.dp s r)
end
end

/-- the entries of a dict: keys by value, the values data -/
inductive RepK (I : Hp) : List (Key × V) → List (Key × D) → Prop
  | nil : RepK I [] []
  | cons {k : Key} {v : V} {vs : List (Key × V)} {d : D} {ds : List (Key × D)} : Rep I v d → RepK I vs ds → RepK I ((k, v) :: vs) ((k, d) :: ds)
theorem RepK.mono {I I' : Hp} (s : Sub I I') : ∀ {vs : List (Key × V)} {ds : List (Key × D)}, RepK I vs ds → RepK I' vs ds
  | _, _, .nil => .nil
  | _, _, .cons h r => .cons (Rep.mono s h) (RepK.mono s r)

/-- a: the address, where it matters -/
inductive OV where
  | fz (d : D)
  | rf (p : Addr)
  | dct (a : Option Addr) (kvs : List (Key × D))
  | lst (a : Option Addr) (xs : List OV)
  | ins (a : Option Addr) (C : Addr) (ns : List Str) (xs : List OV)
def Pin (a : Option Addr) (p : Addr) : Prop := ∀ q, a = some q → q = p
theorem Pin.none (p : Addr) : Pin .none p := fun _ z => nomatch z
mutual
/-- the tree, with the addresses that it takes -/
inductive Ov (I H : Hp) : V → OV → List Addr → Prop
  | fz {v : V} {d : D} : Rep I v d → Ov I H v (.fz d) []
  | rf (p : Addr) : Ov I H (.ref p) (.rf p) []
  | dct {a : Option Addr} {p : Addr} {ws : List (Key × V)} {kvs : List (Key × D)} : Pin a p → H p = some (.dK ws) → RepK I ws kvs → Ov I H (.ref p) (.dct a kvs) [p]
  | lst {a : Option Addr} {p : Addr} {vs : List V} {xs : List OV} {f : List Addr} : Pin a p → H p = some (.lst vs) → OvL I H vs xs f → Ov I H (.ref p) (.lst a xs) (p :: f)
  | ins {a : Option Addr} {p C dx : Addr} {ns : List Str} {vs : List V} {xs : List OV} {f : List Addr} : Pin a p → H p = some (.ins C dx (ns.zip vs)) → H dx = some (.own p) → ns.length = vs.length → OvL I H vs xs f → Ov I H (.ref p) (.ins a C ns xs) (p :: dx :: f)
inductive OvL (I H : Hp) : List V → List OV → List Addr → Prop
  | nil : OvL I H [] [] []
  | cons {v : V} {x : OV} {f : List Addr} {vs : List V} {xs : List OV} {g : List Addr} : Ov I H v x f → OvL I H vs xs g → OvL I H (v :: vs) (x :: xs) (f ++ g)
end
mutual
theorem Ov.frame {I I' H H' : Hp} (s : Sub I I') : ∀ {v : V} {o : OV} {f : List Addr}, Ov I H v o f → (∀ a ∈ f, H' a = H a) → Ov I' H' v o f
  | _, _, _, .fz h, _ => .fz (h.mono s)
  | _, _, _, .rf p, _ => .rf p
  | _, _, _, .dct q h r, e => .dct q ((e _ List.mem_cons_self).trans h) (r.mono s)
  | _, _, _, .lst q h r, e => .lst q ((e _ List.mem_cons_self).trans h) (OvL.frame s r fun a m => e a (List.mem_cons_of_mem _ m))
  | _, _, _, .ins q h d l r, e => .ins q ((e _ List.mem_cons_self).trans h) ((e _ (List.mem_cons_of_mem _ List.mem_cons_self)).trans d) l (OvL.frame s r fun a m => e a (List.mem_cons_of_mem _ (List.mem_cons_of_mem _ m)))
theorem OvL.frame {I I' H H' : Hp} (s : Sub I I') : ∀ {vs : List V} {xs : List OV} {f : List Addr}, OvL I H vs xs f → (∀ a ∈ f, H' a = H a) → OvL I' H' vs xs f
  | _, _, _, .nil, _ => .nil
  | _, _, _, .cons h r, e => .cons (Ov.frame s h fun a m => e a (List.mem_append_left _ m)) (OvL.frame s r fun a m => e a (List.mem_append_right _ m))
end
mutual
theorem Ov.live {I H : Hp} : ∀ {v : V} {o : OV} {f : List Addr}, Ov I H v o f → ∀ a ∈ f, H a ≠ none
  | _, _, _, .fz _, _, m => nomatch m
  | _, _, _, .rf _, _, m => nomatch m
  | _, _, _, .dct _ h _, a, m => by
    rw [List.mem_singleton] at m; subst m; rw [h]; exact fun y => nomatch y
  | _, _, _, .lst _ h r, a, m => by
    rcases List.mem_cons.mp m with e | m
    · subst e; rw [h]; exact fun y => nomatch y
    · exact OvL.live r a m
  | _, _, _, .ins _ h d _ r, a, m => by
    rcases List.mem_cons.mp m with e | m
    · subst e; rw [h]; exact fun y => nomatch y
    · rcases List.mem_cons.mp m with e | m
      · subst e; rw [d]; exact fun y => nomatch y
      · exact OvL.live r a m
theorem OvL.live {I H : Hp} : ∀ {vs : List V} {xs : List OV} {f : List Addr}, OvL I H vs xs f → ∀ a ∈ f, H a ≠ none
  | _, _, _, .nil, _, m => nomatch m
  | _, _, _, .cons h r, a, m => by
    rcases List.mem_append.mp m with m | m
    · exact Ov.live h a m
    · exact OvL.live r a m
end
mutual
/-- a tree of lists as data -/
def OV.toD : OV → Option D
  | .fz d => some d
  | .lst _ xs => (OV.toDs xs).map PyData.list
  | _ => none
def OV.toDs : List OV → Option (List D)
  | [] => some []
  | x :: xs => match OV.toD x, OV.toDs xs with
    | some d, some ds => some (d :: ds)
    | _, _ => none
end
mutual
theorem Ov.rep {I I' H : Hp} (s : Sub I I') : ∀ {v : V} {o : OV} {f : List Addr} {d : D}, Ov I H v o f → (∀ a ∈ f, I' a = H a) → o.toD = some d → Rep I' v d
  | _, _, _, _, .fz h, _, e => by simp only [OV.toD, Option.some.injEq] at e; subst e; exact h.mono s
  | _, _, _, _, .rf _, _, e => by simp only [OV.toD] at e; cases e
  | _, _, _, _, .dct _ _ _, _, e => by simp only [OV.toD] at e; cases e
  | _, _, _, _, .ins _ _ _ _ _, _, e => by simp only [OV.toD] at e; cases e
  | _, _, _, _, .lst _ h r, hI, e => by
    simp only [OV.toD, Option.map_eq_some_iff] at e
    obtain ⟨ds, e, rfl⟩ := e
    exact .lst ((hI _ List.mem_cons_self).trans h) (OvL.rep s r (fun a m => hI a (List.mem_cons_of_mem _ m)) e)
theorem OvL.rep {I I' H : Hp} (s : Sub I I') : ∀ {vs : List V} {xs : List OV} {f : List Addr} {ds : List D}, OvL I H vs xs f → (∀ a ∈ f, I' a = H a) → OV.toDs xs = some ds → RepL I' vs ds
  | _, _, _, _, .nil, _, e => by simp only [OV.toDs, Option.some.injEq] at e; subst e; exact .nil
  | _, _, _, _, .cons h r, hI, e => by
    simp only [OV.toDs] at e
    split at e
    · rename_i d ds e1 e2
      cases e
      exact .cons (Ov.rep s h (fun a m => hI a (List.mem_append_left _ m)) e1) (OvL.rep s r (fun a m => hI a (List.mem_append_right _ m)) e2)
    · cases e
end

/-- a thing that a slot alone holds, of any kind: by what is true of it -/
structure TP where
  holds : (Addr → Prop) → Hp → Hp → V → Prop
  frame : ∀ S S' I I' H H' v, (∀ a, S a → S' a) → Sub I I' → (∀ a, S a → H' a = H a) → holds S I H v → holds S' I' H' v

inductive Slot where
  /-- nothing known -/
  | un
  /-- data that is never changed again -/
  | fz (d : D)
  /-- a list of the slot's own -/
  | lst (ds : List D)
  /-- a tree of the slot's own -/
  | ov (o : OV)
  /-- any thing of the slot's own -/
  | ob (T : TP)

abbrev DEnv := List Slot
def DEnv.at (ρ : DEnv) (i : Nat) : Slot := ρ.getD i .un

def ValOk (S : Addr → Prop) (I H : Hp) (v : V) : Slot → Prop
  | .un => True
  | .fz d => Rep I v d
  | .lst ds => ∃ p vs, v = .ref p ∧ S p ∧ H p = some (.lst vs) ∧ RepL I vs ds
  | .ov o => ∃ f, Ov I H v o f ∧ f.Nodup ∧ ∀ a ∈ f, S a
  | .ob T => T.holds S I H v
theorem ValOk.frame {S S' : Addr → Prop} {I I' H H' : Hp} {v : V} {s : Slot} (hS : ∀ a, S a → S' a) (hI : Sub I I') (hH : ∀ a, S a → H' a = H a) (h : ValOk S I H v s) : ValOk S' I' H' v s := by
  cases s with
  | un => trivial
  | fz d => exact Rep.mono hI h
  | lst ds =>
    obtain ⟨p, vs, e, hp, h1, h2⟩ := h
    exact ⟨p, vs, e, hS p hp, (hH p hp).trans h1, h2.mono hI⟩
  | ov o =>
    obtain ⟨f, h1, h2, h3⟩ := h
    exact ⟨f, h1.frame hI fun a m => hH a (h3 a m), h2, fun a m => hS a (h3 a m)⟩
  | ob T => exact T.frame _ _ _ _ _ _ _ hS hI hH h

/-- where a def's run began: the data that it was handed, the heap, what it may change, the slots whose things belong to the caller -/
structure Fx where
  I0 : Hp
  H0 : Hp
  mu : Addr → Option Nat
  fix : Nat → Option V

structure Rel (F : Fx) (ρ : DEnv) (I : Hp) (own : Addr → Option Nat) (σ : St) (H : Hp) : Prop where
  sub : Sub I H
  frame : ∀ a o, F.H0 a = some o → F.mu a = none → H a = some o
  there : ∀ a, F.H0 a ≠ none → H a ≠ none
  imm : ∀ a, own a ≠ none → I a = none
  new : ∀ a i, own a = some i → F.H0 a = none ∨ F.mu a = some i
  live : ∀ a, own a ≠ none → H a ≠ none
  inew : ∀ a, I a ≠ none → F.H0 a = none ∨ F.I0 a ≠ none ∨ F.mu a ≠ none
  i0 : Sub F.I0 I
  fix : ∀ i v, F.fix i = some v → σ[i]? = some (some v)
  len : ρ.length ≤ σ.length
  slots : ∀ i, ρ.at i = .un ∨ ∃ v, σ[i]? = some (some v) ∧ ValOk (fun a => own a = some i) I H v (ρ.at i)

/-- a value that has come: data, or a new thing that nobody has yet -/
def ResOk (F : Fx) (I : Hp) (own : Addr → Option Nat) (H : Hp) (v : V) (s : Slot) : Prop :=
  ∃ S : Addr → Prop, (∀ a, S a → I a = none ∧ own a = none ∧ F.H0 a = none ∧ H a ≠ none) ∧ ValOk S I H v s
theorem ResOk.fz {F : Fx} {I : Hp} {own : Addr → Option Nat} {H : Hp} {v : V} {d : D} (h : Rep I v d) : ResOk F I own H v (.fz d) := ⟨fun _ => False, fun _ z => z.elim, h⟩
theorem ResOk.rep {F : Fx} {I : Hp} {own : Addr → Option Nat} {H : Hp} {v : V} {d : D} (h : ResOk F I own H v (.fz d)) : Rep I v d := let ⟨_, _, r⟩ := h; r

section
variable {F : Fx} {ρ ρ' : DEnv} {I I' : Hp} {own : Addr → Option Nat} {σ : St} {H H' : Hp}

theorem DEnv.at_set_self {i : Nat} {s : Slot} (h : i < ρ.length) : DEnv.at (ρ.set i s) i = s := by
  unfold DEnv.at
  rw [List.getD_eq_getElem?_getD, List.getElem?_set_self h]; rfl
theorem DEnv.at_set_ne {i j : Nat} {s : Slot} (h : i ≠ j) : DEnv.at (ρ.set i s) j = DEnv.at ρ j := by
  unfold DEnv.at
  rw [List.getD_eq_getElem?_getD, List.getElem?_set_ne h, List.getD_eq_getElem?_getD]
theorem DEnv.at_set {i j : Nat} {s : Slot} : DEnv.at (ρ.set i s) j = s ∧ i = j ∨ DEnv.at (ρ.set i s) j = DEnv.at ρ j := by
  by_cases h : i = j
  · subst h
    by_cases hl : i < ρ.length
    · exact .inl ⟨DEnv.at_set_self hl, rfl⟩
    · rw [List.set_eq_of_length_le (Nat.le_of_not_lt hl)]; exact .inr rfl
  · exact .inr (DEnv.at_set_ne h)

/-- a slot is changed to what its value is -/
theorem Rel.to (R : Rel F ρ I own σ H) {i : Nat} {s : Slot} (h : s = .un ∨ ∃ v, σ[i]? = some (some v) ∧ ValOk (fun a => own a = some i) I H v s) : Rel F (ρ.set i s) I own σ H := by
  refine ⟨R.sub, R.frame, R.there, R.imm, R.new, R.live, R.inew, R.i0, R.fix, by rw [List.length_set]; exact R.len, fun j => ?_⟩
  rcases DEnv.at_set (ρ := ρ) (i := i) (j := j) (s := s) with ⟨e, rfl⟩ | e
  · rw [e]; exact h
  · rw [e]; exact R.slots j
theorem Rel.forget (R : Rel F ρ I own σ H) (i : Nat) : Rel F (ρ.set i .un) I own σ H := R.to (.inl rfl)

/-- a list of a slot is frozen -/
theorem Rel.freeze (R : Rel F ρ I own σ H) {i : Nat} {v : V} {ds : List D} (hσ : σ[i]? = some (some v)) (hv : ValOk (fun a => own a = some i) I H v (.lst ds)) :
    ∃ I' own', Rel F (ρ.set i (.fz (.list ds))) I' own' σ H ∧ Sub I I' ∧ Rep I' v (.list ds) := by
  obtain ⟨p, vs, rfl, hp, h1, h2⟩ := hv
  have hn : I p = none := R.imm p (by rw [hp]; exact fun z => nomatch z)
  have s1 : Sub I (upd I p (.lst vs)) := Sub.new hn
  have r1 : Rep (upd I p (.lst vs)) (.ref p) (.list ds) := .lst upd_same (h2.mono s1)
  have hI : ∀ a, upd I p (.lst vs) a ≠ none → a = p ∨ I a ≠ none := fun a z => by
    by_cases e : a = p
    · exact .inl e
    · rw [upd_ne e] at z; exact .inr z
  have ho : ∀ a, (if a = p then none else own a) ≠ none → a ≠ p ∧ own a ≠ none := fun a z => by
    by_cases e : a = p
    · rw [if_pos e] at z; exact absurd rfl z
    · rw [if_neg e] at z; exact ⟨e, z⟩
  refine ⟨upd I p (.lst vs), fun a => if a = p then none else own a, ⟨fun a o e => ?_, R.frame, R.there, fun a z => ?_, fun a j e => ?_, fun a z => R.live a (ho a z).2, fun a z => ?_, R.i0.trans s1, R.fix, by rw [List.length_set]; exact R.len, fun j => ?_⟩, s1, r1⟩
  · by_cases h : a = p
    · subst h; rw [upd_same] at e; cases e; exact h1
    · rw [upd_ne h] at e; exact R.sub a o e
  · rw [upd_ne (ho a z).1]; exact R.imm a (ho a z).2
  · by_cases h : a = p
    · rw [if_pos h] at e; cases e
    · rw [if_neg h] at e; exact R.new a j e
  · rcases hI a z with rfl | z
    · rcases R.new a i hp with q | q
      · exact .inl q
      · exact .inr (.inr (by rw [q]; exact fun y => nomatch y))
    · exact R.inew a z
  · by_cases h : i = j
    · subst h
      by_cases hl : i < ρ.length
      · rw [DEnv.at_set_self hl]; exact .inr ⟨_, hσ, r1⟩
      · rw [List.set_eq_of_length_le (Nat.le_of_not_lt hl)]
        exact .inl (by unfold DEnv.at; rw [List.getD_eq_getElem?_getD, List.getElem?_eq_none (Nat.le_of_not_lt hl)]; rfl)
    · rw [DEnv.at_set_ne h]
      rcases R.slots j with e | ⟨w, e, q⟩
      · exact .inl e
      · refine .inr ⟨w, e, q.frame (fun a z => ?_) s1 fun _ _ => rfl⟩
        show (if a = p then none else own a) = some j
        by_cases h' : a = p
        · subst h'; rw [hp] at z; cases z; exact absurd rfl h
        · rw [if_neg h']; exact z

/-- a new thing is laid into the heap, tracked by nobody -/
theorem Rel.laid (R : Rel F ρ I own σ H) {p : Addr} {o : HO} (hp : H p = none) : Rel F ρ I own σ (upd H p o) := by
  have s1 : Sub H (upd H p o) := Sub.new hp
  have ne : ∀ a, own a ≠ none → a ≠ p := fun a z e => R.live a z (e ▸ hp)
  have ok : ∀ a, H a ≠ none → upd H p o a ≠ none := fun a z => by
    cases e : H a with
    | none => exact absurd e z
    | some u => rw [s1 a u e]; exact fun y => nomatch y
  refine ⟨R.sub.trans s1, fun a u e m => s1 _ _ (R.frame a u e m), fun a z => ok a (R.there a z), R.imm, R.new, fun a z => ok a (R.live a z), R.inew, R.i0, R.fix, R.len, fun j => ?_⟩
  · rcases R.slots j with e | ⟨w, e, q⟩
    · exact .inl e
    · exact .inr ⟨w, e, q.frame (fun _ z => z) (Sub.refl _) fun a z => upd_ne (ne a (by rw [z]; exact fun y => nomatch y))⟩
theorem Rel.fresh (R : Rel F ρ I own σ H) {p : Addr} (hp : H p = none) : I p = none ∧ own p = none ∧ F.H0 p = none := by
  refine ⟨?_, ?_, ?_⟩
  · cases e : I p with
    | none => rfl
    | some o => rw [R.sub p o e] at hp; cases hp
  · cases e : own p with
    | none => rfl
    | some i => exact absurd hp (R.live p (by rw [e]; exact fun y => nomatch y))
  · cases e : F.H0 p with
    | none => rfl
    | some o => exact absurd hp (R.there p (by rw [e]; exact fun y => nomatch y))
/-- the thing of a slot becomes another one: fp what it took, fp' what it takes -/
theorem Rel.place (R : Rel F ρ I own σ H) {i : Nat} {v : V} {s : Slot} {fp fp' : List Addr} (hσ : σ[i]? = some (some v)) (hfp : ∀ a ∈ fp, own a = some i) (hI : Sub I I') (hsub : Sub I' H') (hO : ValOk (fun a => a ∈ fp') I' H' v s)
    (hnew : ∀ a ∈ fp', a ∈ fp ∨ (own a = none ∧ F.H0 a = none)) (himm : ∀ a ∈ fp', I' a = none) (hlive : ∀ a ∈ fp', H' a ≠ none) (hIn : ∀ a, I' a ≠ none → I a ≠ none ∨ a ∈ fp ∨ (own a = none ∧ F.H0 a = none))
    (hH : ∀ a, H a ≠ none → a ∉ fp → H' a = H a) (hL : ∀ a, H a ≠ none → H' a ≠ none) :
    ∃ own', Rel F (ρ.set i s) I' own' σ H' ∧ (∀ a ∈ fp', own' a = some i) ∧ (∀ a, a ∉ fp → a ∉ fp' → own' a = own a) ∧ ∀ a, a ∈ fp → a ∉ fp' → own' a = none := by
  classical
  have o1 : ∀ a, a ∈ fp' → (if a ∈ fp' then some i else if a ∈ fp then none else own a) = some i := fun a m => if_pos m
  have o2 : ∀ a, a ∉ fp' → a ∈ fp → (if a ∈ fp' then some i else if a ∈ fp then none else own a) = none := fun a m n => by rw [if_neg m, if_pos n]
  have o3 : ∀ a, a ∉ fp' → a ∉ fp → (if a ∈ fp' then some i else if a ∈ fp then none else own a) = own a := fun a m n => by rw [if_neg m, if_neg n]
  have nn : ∀ a j, own a = some j → own a ≠ none := fun a j e z => by rw [z] at e; cases e
  refine ⟨fun a => if a ∈ fp' then some i else if a ∈ fp then none else own a, ⟨hsub, fun a o e m => ?_, fun a z => hL a (R.there a z), fun a z => ?_, fun a j e => ?_, fun a z => ?_, fun a z => ?_, R.i0.trans hI, R.fix, by rw [List.length_set]; exact R.len, fun j => ?_⟩, o1, fun a m n => o3 a n m, fun a m n => o2 a n m⟩
  · have h := R.frame a o e m
    by_cases hf : a ∈ fp
    · rcases R.new a i (hfp a hf) with y | y
      · rw [y] at e; cases e
      · rw [y] at m; cases m
    · rw [hH a (by rw [h]; exact fun y => nomatch y) hf]; exact h
  · by_cases m : a ∈ fp'
    · exact himm a m
    · by_cases n : a ∈ fp
      · exact absurd (o2 a m n) z
      · have z : own a ≠ none := fun e => z ((o3 a m n).trans e)
        cases e : I' a with
        | none => rfl
        | some u =>
          rcases hIn a (by rw [e]; exact fun y => nomatch y) with y | y | y
          · exact absurd (R.imm a z) y
          · exact absurd y n
          · exact absurd y.1 z
  · by_cases m : a ∈ fp'
    · have e := (o1 a m).symm.trans e
      cases e
      rcases hnew a m with y | y
      · exact R.new a i (hfp a y)
      · exact .inl y.2
    · by_cases n : a ∈ fp
      · have e := (o2 a m n).symm.trans e; cases e
      · exact R.new a j ((o3 a m n).symm.trans e)
  · by_cases m : a ∈ fp'
    · exact hlive a m
    · by_cases n : a ∈ fp
      · exact absurd (o2 a m n) z
      · exact hL a (R.live a fun e => z ((o3 a m n).trans e))
  · rcases hIn a z with y | y | y
    · exact R.inew a y
    · rcases R.new a i (hfp a y) with q | q
      · exact .inl q
      · exact .inr (.inr (by rw [q]; exact fun y => nomatch y))
    · exact .inl y.2
  · by_cases hj : i = j
    · subst hj
      by_cases hl : i < ρ.length
      · rw [DEnv.at_set_self hl]
        exact .inr ⟨v, hσ, hO.frame (fun a z => o1 a z) (Sub.refl _) fun _ _ => rfl⟩
      · rw [List.set_eq_of_length_le (Nat.le_of_not_lt hl)]
        exact .inl (by unfold DEnv.at; rw [List.getD_eq_getElem?_getD, List.getElem?_eq_none (Nat.le_of_not_lt hl)]; rfl)
    · rw [DEnv.at_set_ne hj]
      rcases R.slots j with e | ⟨w, e, q⟩
      · exact .inl e
      · have nf : ∀ a, own a = some j → a ∉ fp := fun a z m => by rw [hfp a m] at z; cases z; exact hj rfl
        have nf' : ∀ a, own a = some j → a ∉ fp' := fun a z m => by
          rcases hnew a m with y | y
          · exact nf a z y
          · rw [y.1] at z; cases z
        exact .inr ⟨w, e, q.frame (fun a z => (o3 a (nf' a z) (nf a z)).trans z) hI fun a z => hH a (R.live a (nn a j z)) (nf a z)⟩
/-- a slot's tree becomes data -/
theorem Rel.freezeOv (R : Rel F ρ I own σ H) {i : Nat} {v : V} {o : OV} {d : D} (hσ : σ[i]? = some (some v)) (hv : ValOk (fun a => own a = some i) I H v (.ov o)) (hd : o.toD = some d) :
    ∃ I' own', Rel F (ρ.set i (.fz d)) I' own' σ H ∧ Sub I I' ∧ Rep I' v d := by
  classical
  obtain ⟨f, h1, h2, h3⟩ := hv
  have hn : ∀ a ∈ f, I a = none := fun a m => R.imm a (by rw [h3 a m]; exact fun y => nomatch y)
  have s1 : Sub I fun a => if a ∈ f then H a else I a := fun a u e => by
    by_cases m : a ∈ f
    · rw [hn a m] at e; cases e
    · exact (if_neg m).trans e
  have r : Rep (fun a => if a ∈ f then H a else I a) v d := h1.rep s1 (fun a m => if_pos m) hd
  obtain ⟨own', R', _⟩ := R.place (s := .fz d) (fp := f) (fp' := []) (I' := fun a => if a ∈ f then H a else I a) (H' := H) hσ h3 s1 (fun a u e => by
      by_cases m : a ∈ f
      · exact (if_pos m).symm.trans e
      · exact R.sub a u ((if_neg m).symm.trans e)) r (fun a m => nomatch m) (fun a m => nomatch m) (fun a m => nomatch m) (fun a z => by
      by_cases m : a ∈ f
      · exact .inr (.inl m)
      · exact .inl fun e => z ((if_neg m).trans e)) (fun _ _ _ => rfl) (fun _ z => z)
  exact ⟨_, own', R', s1, r⟩
end
end DL
namespace DL
open PySem PySem.Spec L2
open PyProof.Rows hiding St
def OV.kids : OV → List OV
  | .lst _ xs => xs
  | .ins _ _ _ xs => xs
  | _ => []
def OV.setKids : OV → List OV → OV
  | .lst a _, ys => .lst a ys
  | .ins a C ns _, ys => .ins a C ns ys
  | o, _ => o
def OV.at : List Nat → OV → Option OV
  | [], o => some o
  | n :: π, o => match o.kids[n]? with
    | some x => OV.at π x
    | none => none
def OV.put (c : OV) : List Nat → OV → OV
  | [], _ => c
  | n :: π, o => match o.kids[n]? with
    | some x => o.setKids (o.kids.set n (OV.put c π x))
    | none => o
def OV.pinned : OV → Option Addr
  | .fz _ => none
  | .rf p => some p
  | .dct a _ => a
  | .lst a _ => a
  | .ins a _ _ _ => a
def OV.pin (a : Option Addr) : OV → OV
  | .dct _ kvs => .dct a kvs
  | .lst _ xs => .lst a xs
  | .ins _ C ns xs => .ins a C ns xs
  | o => o
inductive Nav (H : Hp) : V → List Nat → V → Prop
  | nil {v : V} : Nav H v [] v
  | lst {p : Addr} {vs : List V} {n : Nat} {u w : V} {π : List Nat} : H p = some (.lst vs) → vs[n]? = some u → Nav H u π w → Nav H (.ref p) (n :: π) w
  | ins {p C dx : Addr} {ns : List Str} {vs : List V} {n : Nat} {u w : V} {π : List Nat} : H p = some (.ins C dx (ns.zip vs)) → ns.length = vs.length → vs[n]? = some u → Nav H u π w → Nav H (.ref p) (n :: π) w
theorem OvL.at {I H : Hp} : ∀ {vs : List V} {xs : List OV} {f : List Addr} {n : Nat} {x : OV}, OvL I H vs xs f → xs[n]? = some x → ∃ v g1 g g2, vs[n]? = some v ∧ Ov I H v x g ∧ f = g1 ++ g ++ g2 ∧
    ∀ I' H' v' x' g', Sub I I' → (∀ a ∈ g1 ++ g2, H' a = H a) → Ov I' H' v' x' g' → OvL I' H' (vs.set n v') (xs.set n x') (g1 ++ g' ++ g2)
  | _, _, _, _, _, .nil, e => by simp at e
  | _, _, _, 0, _, .cons (v := v) (x := x) (f := f) (g := g) h r, e => by
    simp at e; subst e
    refine ⟨v, [], f, g, rfl, h, by simp, fun I' H' v' x' g' s hh ho => ?_⟩
    exact .cons ho (r.frame s fun a m => hh a (by simpa using m))
  | _, _, _, n + 1, _, .cons (v := v) (x := x) (f := f) (g := g) h r, e => by
    obtain ⟨u, g1, g0, g2, h1, h2, h3, h4⟩ := OvL.at (n := n) r (by simpa using e)
    refine ⟨u, f ++ g1, g0, g2, by simpa using h1, h2, by rw [h3]; simp [List.append_assoc], fun I' H' v' x' g' s hh ho => ?_⟩
    have := OvL.cons (h.frame s fun a m => hh a (by simp [m])) (h4 I' H' v' x' g' s (fun a m => hh a (by
      rcases List.mem_append.mp m with m | m <;> simp [m])) ho)
    simpa [List.append_assoc] using this
theorem Ov.focus {I H : Hp} : ∀ {π : List Nat} {v : V} {o c : OV} {fp : List Addr}, Ov I H v o fp → OV.at π o = some c → ∃ w g1 g g2, Nav H v π w ∧ Ov I H w c g ∧ fp = g1 ++ g ++ g2 ∧
    ∀ I' H' c' g', Sub I I' → (∀ a ∈ g1 ++ g2, H' a = H a) → Ov I' H' w c' g' → Ov I' H' v (OV.put c' π o) (g1 ++ g' ++ g2)
  | [], v, o, c, fp, h, e => by
    simp only [OV.at, Option.some.injEq] at e; subst e
    exact ⟨v, [], fp, [], .nil, h, by simp, fun I' H' c' g' s hh ho => by simpa [OV.put] using ho⟩
  | n :: π, v, o, c, fp, h, e => by
    simp only [OV.at] at e
    split at e
    · rename_i x ex
      cases h with
      | fz _ => simp [OV.kids] at ex
      | rf _ => simp [OV.kids] at ex
      | dct _ _ _ => simp [OV.kids] at ex
      | lst q hp r =>
        rename_i a p vs xs f
        have ex' : xs[n]? = some x := ex
        obtain ⟨u, g1, g, g2, h1, h2, h3, h4⟩ := r.at ex'
        obtain ⟨w, k1, k, k2, e1, e2, e3, e4⟩ := Ov.focus h2 e
        refine ⟨w, p :: (g1 ++ k1), k, k2 ++ g2, .lst hp h1 e1, e2, by rw [h3, e3]; simp [List.append_assoc], fun I' H' c' g' s hh ho => ?_⟩
        have A := e4 I' H' c' g' s (fun a m => hh a (by rcases List.mem_append.mp m with m | m <;> simp [m])) ho
        have B := h4 I' H' u _ _ s (fun a m => hh a (by rcases List.mem_append.mp m with m | m <;> simp [m])) A
        have hv : vs.set n u = vs := by
          apply List.ext_getElem?; intro j
          by_cases hj : n = j
          · subst hj; rw [h1, List.getElem?_set_self (List.getElem?_eq_some_iff.mp h1).1]
          · rw [List.getElem?_set_ne hj]
        rw [hv] at B
        have C := Ov.lst q ((hh p (by simp)).trans hp) B
        have E : OV.put c' (n :: π) (.lst a xs) = .lst a (xs.set n (OV.put c' π x)) := by simp only [OV.put, OV.kids, ex', OV.setKids]
        rw [E]
        simpa [List.append_assoc] using C
      | ins q hp hd hl r =>
        rename_i a p C0 dx ns vs xs f
        have ex' : xs[n]? = some x := ex
        obtain ⟨u, g1, g, g2, h1, h2, h3, h4⟩ := r.at ex'
        obtain ⟨w, k1, k, k2, e1, e2, e3, e4⟩ := Ov.focus h2 e
        refine ⟨w, p :: dx :: (g1 ++ k1), k, k2 ++ g2, .ins hp hl h1 e1, e2, by rw [h3, e3]; simp [List.append_assoc], fun I' H' c' g' s hh ho => ?_⟩
        have A := e4 I' H' c' g' s (fun a m => hh a (by rcases List.mem_append.mp m with m | m <;> simp [m])) ho
        have B := h4 I' H' u _ _ s (fun a m => hh a (by rcases List.mem_append.mp m with m | m <;> simp [m])) A
        have hv : vs.set n u = vs := by
          apply List.ext_getElem?; intro j
          by_cases hj : n = j
          · subst hj; rw [h1, List.getElem?_set_self (List.getElem?_eq_some_iff.mp h1).1]
          · rw [List.getElem?_set_ne hj]
        rw [hv] at B
        have C := Ov.ins (dx := dx) q ((hh p (by simp)).trans hp) ((hh dx (by simp)).trans hd) hl B
        have E : OV.put c' (n :: π) (.ins a C0 ns xs) = .ins a C0 ns (xs.set n (OV.put c' π x)) := by simp only [OV.put, OV.kids, ex', OV.setKids]
        rw [E]
        simpa [List.append_assoc] using C
    · cases e
section
variable {F : Fx} {ρ : DEnv} {I : Hp} {own : Addr → Option Nat} {σ : St} {H : Hp}
/-- a place in a slot's tree: what stands there, and what may come instead -/
theorem Rel.focus (R : Rel F ρ I own σ H) {i : Nat} {v : V} {o c : OV} {π : List Nat} (hρ : ρ.at i = .ov o) (hσ : σ[i]? = some (some v)) (e : OV.at π o = some c) :
    ∃ w g, Nav H v π w ∧ Ov I H w c g ∧ g.Nodup ∧ (∀ a ∈ g, own a = some i) ∧ ∀ I' H' c' g', Sub I I' → Sub I' H' → Ov I' H' w c' g' → g'.Nodup → (∀ a ∈ g', a ∈ g ∨ (own a = none ∧ F.H0 a = none)) → (∀ a ∈ g', I' a = none) →
      (∀ a, I' a ≠ none → I a ≠ none ∨ a ∈ g ∨ (own a = none ∧ F.H0 a = none)) → (∀ a, H a ≠ none → a ∉ g → H' a = H a) → (∀ a, H a ≠ none → H' a ≠ none) →
      ∃ own', Rel F (ρ.set i (.ov (OV.put c' π o))) I' own' σ H' ∧ (∀ a, own a = none → a ∉ g' → own' a = none) := by
  rcases R.slots i with z | ⟨w0, z, q⟩
  · rw [hρ] at z; cases z
  · rw [hσ] at z; cases z
    rw [hρ] at q
    obtain ⟨fp, h1, h2, h3⟩ := q
    obtain ⟨w, g1, g, g2, n1, n2, rfl, n4⟩ := h1.focus e
    have d1 : ∀ a ∈ g1 ++ g2, a ∉ g := fun a m m2 => by
      rw [List.append_assoc, List.nodup_append] at h2
      obtain ⟨_, h22, h23⟩ := h2
      rw [List.nodup_append] at h22
      rcases List.mem_append.mp m with m | m
      · exact h23 a m a (List.mem_append_left _ m2) rfl
      · exact h22.2.2 a m2 a m rfl
    have n12 : (g1 ++ g2).Nodup := by
      have : List.Sublist (g1 ++ g2) (g1 ++ g ++ g2) := by
        rw [List.append_assoc]
        exact List.Sublist.append_left (List.sublist_append_right _ _) _
      exact this.nodup h2
    have hg : ∀ a ∈ g, own a = some i := fun a m => h3 a (by simp [m])
    have h12 : ∀ a ∈ g1 ++ g2, own a = some i := fun a m => h3 a (by
      rcases List.mem_append.mp m with m | m <;> simp [m])
    have lv : ∀ a, own a = some i → H a ≠ none := fun a e => R.live a (by rw [e]; exact fun y => nomatch y)
    refine ⟨w, g, n1, n2, (show List.Sublist g (g1 ++ g ++ g2) from by
      rw [List.append_assoc]; exact (List.sublist_append_left _ _).trans (List.sublist_append_right _ _)).nodup h2, hg, fun I' H' c' g' s sub ho nd hnew himm hIn hH hL => ?_⟩
    have ho' := n4 I' H' c' g' s (fun a m => hH a (lv a (h12 a m)) (d1 a m)) ho
    have dn : ∀ a ∈ g', a ∉ g1 ++ g2 := fun a m m2 => by
      rcases hnew a m with y | y
      · exact d1 a m2 y
      · rw [h12 a m2] at y; cases y.1
    have nd' : (g1 ++ g' ++ g2).Nodup := by
      rw [List.nodup_append] at n12
      rw [List.append_assoc, List.nodup_append]
      refine ⟨n12.1, ?_, fun a m b m2 e => ?_⟩
      · rw [List.nodup_append]
        exact ⟨nd, n12.2.1, fun a m b m2 e => dn a m (by rw [e]; simp [m2])⟩
      · subst e
        rcases List.mem_append.mp m2 with m2 | m2
        · exact dn a m2 (by simp [m])
        · exact n12.2.2 a m a m2 rfl
    have sp : ∀ a, a ∈ g1 ++ g' ++ g2 → a ∈ g' ∨ a ∈ g1 ++ g2 := fun a m => by
      rw [List.append_assoc] at m
      rcases List.mem_append.mp m with m | m
      · exact .inr (by simp [m])
      · rcases List.mem_append.mp m with m | m
        · exact .inl m
        · exact .inr (by simp [m])
    have sp0 : ∀ a, a ∈ g1 ++ g ++ g2 → a ∈ g ∨ a ∈ g1 ++ g2 := fun a m => by
      rw [List.append_assoc] at m
      rcases List.mem_append.mp m with m | m
      · exact .inr (by simp [m])
      · rcases List.mem_append.mp m with m | m
        · exact .inl m
        · exact .inr (by simp [m])
    obtain ⟨own', R', o1, o2, o3⟩ := R.place (s := .ov (OV.put c' π o)) (fp := g1 ++ g ++ g2) (fp' := g1 ++ g' ++ g2) (I' := I') (H' := H') hσ h3 s sub ⟨_, ho', nd', fun a m => m⟩
      (fun a m => by
        rcases sp a m with m | m
        · rcases hnew a m with y | y
          · exact .inl (by simp [y])
          · exact .inr y
        · exact .inl (by rcases List.mem_append.mp m with m | m <;> simp [m]))
      (fun a m => by
        rcases sp a m with m | m
        · exact himm a m
        · cases e : I' a with
          | none => rfl
          | some u =>
            rcases hIn a (by rw [e]; exact fun y => nomatch y) with y | y | y
            · exact absurd (R.imm a (by rw [h12 a m]; exact fun y => nomatch y)) y
            · exact absurd y (d1 a m)
            · rw [h12 a m] at y; cases y.1)
      (fun a m => ho'.live a m)
      (fun a z => by
        rcases hIn a z with y | y | y
        · exact .inl y
        · exact .inr (.inl (by simp [y]))
        · exact .inr (.inr y))
      (fun a z m => hH a z fun y => m (by simp [y])) hL
    refine ⟨own', R', fun a e m => ?_⟩
    by_cases f : a ∈ g1 ++ g ++ g2
    · rw [h3 a f] at e; cases e
    · rw [o2 a f (fun y => ?_)]
      · exact e
      · rcases sp a y with y | y
        · exact m y
        · rw [h12 a y] at e; cases e
end
def fzsOf : List OV → Option (List D)
  | [] => some []
  | .fz d :: xs => (fzsOf xs).map (d :: ·)
  | _ => none
/-- data, or a list of data -/
def OV.flat : OV → Option D
  | .fz d => some d
  | .lst _ xs => (fzsOf xs).map PyData.list
  | _ => none
theorem fzs_rep {I H : Hp} : ∀ {vs : List V} {xs : List OV} {f : List Addr} {ds : List D}, OvL I H vs xs f → fzsOf xs = some ds → RepL I vs ds
  | _, _, _, _, .nil, e => by cases e; exact .nil
  | _, .fz d :: xs, _, _, .cons h r, e => by
    simp only [fzsOf, Option.map_eq_some_iff] at e
    obtain ⟨ds, e, rfl⟩ := e
    cases h with
    | fz h => exact .cons h (fzs_rep r e)
  | _, .rf _ :: _, _, _, .cons _ _, e => by cases e
  | _, .dct _ _ :: _, _, _, .cons _ _, e => by cases e
  | _, .lst _ _ :: _, _, _, .cons _ _, e => by cases e
  | _, .ins _ _ _ _ :: _, _, _, .cons _ _, e => by cases e
theorem Ov.pinned {I H : Hp} {w : V} {c : OV} {g : List Addr} {p : Addr} (h : Ov I H w c g) (e : c.pinned = some p) : w = .ref p := by
  cases h with
  | fz _ => cases e
  | rf _ => cases e; rfl
  | dct q _ _ => rw [q p e]
  | lst q _ _ => rw [q p e]
  | ins q _ _ _ _ => rw [q p e]
end DL

set_option Elab.async false
set_option linter.all false
set_option maxRecDepth 100000
namespace DL
open PySem PySem.Spec L2
open PyProof.Rows hiding St

def opt {α : Type} (o : Option α) (k : α → Prop) : Prop := match o with
  | some x => k x
  | none => False
theorem opt_some {α : Type} {x : α} {k : α → Prop} (h : k x) : opt (some x) k := h
theorem opt_elim {α : Type} {o : Option α} {k : α → Prop} (h : opt o k) : ∃ x, o = some x ∧ k x := by
  cases o with
  | none => exact h.elim
  | some x => exact ⟨x, rfl, h⟩

def RepH (I H : Hp) (v : V) (d : D) : Prop := Rep I v d ∨ ∃ p vs ds, v = .ref p ∧ d = .list ds ∧ H p = some (.lst vs) ∧ RepL I vs ds
section
variable {I H : Hp} {v : V}
theorem RepH.int {i : Int} (h : RepH I H v (.int i)) : v = .int i := by
  rcases h with h | ⟨_, _, _, _, e, _⟩
  · cases h; rfl
  · cases e
theorem RepH.bl {i : Bool} (h : RepH I H v (.bool i)) : v = .bl i := by
  rcases h with h | ⟨_, _, _, _, e, _⟩
  · cases h; rfl
  · cases e
theorem RepH.str {i : Str} (h : RepH I H v (.str i)) : v = .str i := by
  rcases h with h | ⟨_, _, _, _, e, _⟩
  · cases h; rfl
  · cases e
theorem RepH.non (h : RepH I H v .none) : v = .non := by
  rcases h with h | ⟨_, _, _, _, e, _⟩
  · cases h; rfl
  · cases e
theorem RepH.lst (s : Sub I H) {ds : List D} (h : RepH I H v (.list ds)) : ∃ p vs, v = .ref p ∧ H p = some (.lst vs) ∧ RepL I vs ds := by
  rcases h with h | ⟨p, vs, es, e, e2, h1, h2⟩
  · cases h with
    | lst h r => exact ⟨_, _, rfl, s _ _ h, r⟩
  · cases e2; exact ⟨p, vs, e, h1, h2⟩
theorem RepH.tup {ds : List D} (h : RepH I H v (.tuple ds)) : ∃ p vs, v = .ref p ∧ I p = some (.tup vs) ∧ RepL I vs ds := by
  rcases h with h | ⟨p, vs, es, e, e2, h1, h2⟩
  · cases h with
    | tup h r => exact ⟨_, _, rfl, h, r⟩
  · cases e2
theorem RepH.dp {K : PySem.W.Frag} (s : Sub I H) {d : D} (h : RepH I H v d) : Dp K H v d := by
  rcases h with h | ⟨p, vs, es, rfl, rfl, h1, h2⟩
  · exact h.dp s
  · exact .lst (.of h1) (h2.dp s)
theorem RepH.no_dict {xs : List (PyData × PyData)} (h : RepH I H v (.dict xs)) : False := by
  rcases h with h | ⟨_, _, _, _, e, _⟩
  · cases h
  · cases e
end

/-- a value as it is handed on: data, or the thing of a slot -/
inductive BV where
  | d (x : D)
  | v (i : Nat)
  /-- a place in a slot's tree, the thing at p -/
  | pl (i : Nat) (π : List Nat) (p : Addr)
def DEnv.node (ρ : DEnv) (i : Nat) (π : List Nat) (p : Addr) : Option OV := match ρ.at i with
  | .ov o => match OV.at π o with
    | some c => if c.pinned = some p then some c else none
    | none => none
  | _ => none
def BV.get (ρ : DEnv) : BV → Option D
  | .d x => some x
  | .v i => match ρ.at i with
    | .fz x => some x
    | .lst ds => some (.list ds)
    | .ov o => o.flat
    | _ => none
  | .pl i π p => match ρ.node i π p with
    | some c => c.flat
    | none => none
def BOk (I : Hp) (σ : St) (v : V) : BV → Prop
  | .d x => Rep I v x
  | .v i => σ[i]? = some (some v)
  | .pl _ _ p => v = .ref p
theorem node_elim {ρ : DEnv} {i : Nat} {π : List Nat} {p : Addr} {c : OV} (h : ρ.node i π p = some c) : ∃ o, ρ.at i = .ov o ∧ OV.at π o = some c ∧ c.pinned = some p := by
  unfold DEnv.node at h
  split at h
  · rename_i o e
    split at h
    · rename_i c' e2
      split at h
      · rename_i e3; cases h; exact ⟨o, e, e2, e3⟩
      · cases h
    · cases h
  · cases h
theorem flat_repH {I H : Hp} {v : V} {o : OV} {f : List Addr} {d : D} (h : Ov I H v o f) (e : o.flat = some d) : RepH I H v d := by
  cases h with
  | fz h => cases e; exact .inl h
  | lst _ hp r =>
    simp only [OV.flat, Option.map_eq_some_iff] at e
    obtain ⟨ds, e, rfl⟩ := e
    exact .inr ⟨_, _, ds, rfl, rfl, hp, fzs_rep r e⟩
  | _ => cases e
theorem BOk.mono {I I' : Hp} {σ : St} {v : V} {b : BV} (s : Sub I I') (h : BOk I σ v b) : BOk I' σ v b := by
  cases b with
  | d x => exact Rep.mono s h
  | v i => exact h
  | pl i π p => exact h
theorem BOk.rep {F : Fx} {ρ : DEnv} {I : Hp} {own : Addr → Option Nat} {σ : St} {H : Hp} {v : V} {b : BV} {x : D} (R : Rel F ρ I own σ H) (h : BOk I σ v b) (e : b.get ρ = some x) : RepH I H v x := by
  cases b with
  | d y => cases e; exact .inl h
  | v i =>
    have h : σ[i]? = some (some v) := h
    rcases R.slots i with z | ⟨w, z, q⟩
    · simp only [BV.get, z] at e; cases e
    · rw [h] at z; cases z
      simp only [BV.get] at e
      split at e
      · rename_i d hd; cases e; rw [hd] at q; exact .inl q
      · rename_i ds hd; cases e; rw [hd] at q
        obtain ⟨p, vs, e1, _, h1, h2⟩ := q
        exact .inr ⟨p, vs, ds, e1, rfl, h1, h2⟩
      · rename_i o ho; rw [ho] at q
        obtain ⟨f, q, _⟩ := q
        exact flat_repH q e
      · cases e
  | pl i π p =>
    have h : v = .ref p := h
    subst h
    simp only [BV.get] at e
    split at e
    · rename_i c hc
      obtain ⟨o, h1, h2, h3⟩ := node_elim hc
      rcases R.slots i with z | ⟨w, z, q⟩
      · rw [h1] at z; cases z
      · obtain ⟨u, g, _, n2, _⟩ := R.focus h1 z h2
        rw [← n2.pinned h3]
        exact flat_repH n2 e
    · cases e

def FOk (F : Fx) (L : List Nat) : Prop := (∀ i, F.fix i ≠ none → i ∈ L) ∧ (∀ a i, F.mu a = some i → i ∈ L) ∧ ∀ a, F.mu a ≠ none → F.H0 a ≠ none
abbrev DK := Slot → DEnv → Prop
abbrev DTE := DEnv → DK → Prop
abbrev DTB := DEnv → (BV → DEnv → Prop) → Prop
abbrev DTT := DEnv → (Bool → DEnv → Prop) → Prop
abbrev DTA := DEnv → (List BV → DEnv → Prop) → Prop
def KtE (F : Fx) (I : Hp) (σ : St) (Qd : DK) (Q : VK) : Prop := ∀ s ρ I' own H v, Rel F ρ I' own σ H → Sub I I' → ResOk F I' own H v s → Qd s ρ → Q v H
def KtB (F : Fx) (I : Hp) (σ : St) (Qd : BV → DEnv → Prop) (Q : VK) : Prop := ∀ b ρ I' own H v, Rel F ρ I' own σ H → Sub I I' → BOk I' σ v b → Qd b ρ → Q v H
def KtT (F : Fx) (I : Hp) (σ : St) (Qd : Bool → DEnv → Prop) (Q : Bool → Hp → Prop) : Prop := ∀ b ρ I' own H, Rel F ρ I' own σ H → Sub I I' → Qd b ρ → Q b H
def KtA (F : Fx) (I : Hp) (σ : St) (Qd : List BV → DEnv → Prop) (Q : List V → Hp → Prop) : Prop := ∀ bs ρ I' own H vs, Rel F ρ I' own σ H → Sub I I' → Paired (BOk I' σ) vs bs → Qd bs ρ → Q vs H

def SE (L : List Nat) (u : TE) (t : DTE) : Prop := ∀ F ρ I own σ H Qd Q, FOk F L → Rel F ρ I own σ H → t ρ Qd → KtE F I σ Qd Q → u σ H Q
def SB (L : List Nat) (u : TE) (t : DTB) : Prop := ∀ F ρ I own σ H Qd Q, FOk F L → Rel F ρ I own σ H → t ρ Qd → KtB F I σ Qd Q → u σ H Q
def ST (L : List Nat) (u : TT) (t : DTT) : Prop := ∀ F ρ I own σ H Qd Q, FOk F L → Rel F ρ I own σ H → t ρ Qd → KtT F I σ Qd Q → u σ H Q
def SA (L : List Nat) (u : TA) (t : DTA) : Prop := ∀ F ρ I own σ H Qd Q, FOk F L → Rel F ρ I own σ H → t ρ Qd → KtA F I σ Qd Q → u σ H Q

structure DE (X : Cx) (L : List Nat) (e : Expr) (u : TE) (t : DTE) : Prop where
  pe : PE X e u
  snd : SE L u t
structure DB (X : Cx) (L : List Nat) (e : Expr) (u : TE) (t : DTB) : Prop where
  pe : PE X e u
  snd : SB L u t
structure DT (X : Cx) (L : List Nat) (e : Expr) (u : TT) (t : DTT) : Prop where
  pe : PT X e u
  snd : ST L u t
structure DW (X : Cx) (L : List Nat) (e : Expr) (u : TT) (t : DTT) : Prop where
  pe : PW X e u
  snd : ST L u t
structure DA (X : Cx) (L : List Nat) (es : List Expr) (u : TA) (t : DTA) : Prop where
  pe : PA X es u
  snd : SA L u t

section
variable {X : Cx} {L : List Nat} {a b e : Expr} {ua ub u : TE} {t : DTE} {ta tb : DTB} {pos : Pos}

def tK (d : D) : DTE := fun ρ Q => Q (.fz d) ρ
theorem de_int {i : Int} {j pos} : DE X L (.Constant (.int i) j pos) (tC (.int i)) (tK (.int i)) := ⟨pe_int, fun F ρ I own σ H Qd Q _ R h k => k _ ρ I own H _ R (Sub.refl _) (.fz (.int i)) h⟩
theorem de_bl {b : Bool} {j pos} : DE X L (.Constant (.bool b) j pos) (tC (.bl b)) (tK (.bool b)) := ⟨pe_bl, fun F ρ I own σ H Qd Q _ R h k => k _ ρ I own H _ R (Sub.refl _) (.fz (.bl b)) h⟩
theorem de_non {j pos} : DE X L (.Constant .none j pos) (tC .non) (tK .none) := ⟨pe_non, fun F ρ I own σ H Qd Q _ R h k => k _ ρ I own H _ R (Sub.refl _) (.fz .non) h⟩
theorem de_str {x : Str} {j pos} : DE X L (.Constant (.str x) j pos) (tC (.str x)) (tK (.str x)) := ⟨pe_str, fun F ρ I own σ H Qd Q _ R h k => k _ ρ I own H _ R (Sub.refl _) (.fz (.str x)) h⟩
/-- a global constant of the module, by value -/
theorem de_cst {d : D} {v : V} (h : PE X e (tC v)) (r : ∀ I, Rep I v d) : DE X L e (tC v) (tK d) := ⟨h, fun F ρ I own σ H Qd Q _ R q k => k _ ρ I own H _ R (Sub.refl _) (.fz (r I)) q⟩

/-- a name that is handed on as data: a list of its own is frozen -/
def tName (i : Nat) : DTE := fun ρ Q => match ρ.at i with
  | .fz d => Q (.fz d) ρ
  | .lst ds => Q (.fz (.list ds)) (ρ.set i (.fz (.list ds)))
  | .ov o => opt o.toD fun d => Q (.fz d) (ρ.set i (.fz d))
  | _ => False
theorem se_var {i : Nat} : SE L (tVar i) (tName i) := fun F ρ I own σ H Qd Q _ R h k => by
  simp only [tName] at h
  rcases R.slots i with z | ⟨w, z, q⟩
  · rw [z] at h; exact h.elim
  · split at h
    · rename_i d hd; rw [hd] at q
      exact ⟨w, z, k _ _ _ _ _ _ R (Sub.refl _) (.fz q) h⟩
    · rename_i ds hd; rw [hd] at q
      obtain ⟨I', own', R', s, r⟩ := R.freeze z q
      exact ⟨w, z, k _ _ _ _ _ _ R' s (.fz r) h⟩
    · rename_i o ho; rw [ho] at q
      obtain ⟨d, hd, h⟩ := opt_elim h
      obtain ⟨I', own', R', s, r⟩ := R.freezeOv z q hd
      exact ⟨w, z, k _ _ _ _ _ _ R' s (.fz r) h⟩
    · exact h.elim
theorem de_var (i : Nat) {x : Str} {pos : Pos} (hN : X.N[i]? = some x := by rfl) (hv : Vis X.env.scope x := by first | exact Or.inl rfl | exact Or.inr (Or.inl rfl) | exact Or.inr (Or.inr rfl)) (hd : (x == ("__debug__" : Str)) = false := by decide)
    (hcd : (x == ("__classdict__" : Str)) = false := by decide) : DE X L (.Name x pos) (tVar i) (tName i) := ⟨pe_var hN hv hd hcd, se_var⟩
/-- a name whose thing is handed on for good, the slot is left without it -/
def tMove (i : Nat) : DTE := fun ρ Q => match ρ.at i with
  | .fz d => Q (.fz d) ρ
  | .un => False
  | s => Q s (ρ.set i .un)
theorem se_move {i : Nat} (hi : i ∉ L) : SE L (tVar i) (tMove i) := fun F ρ I own σ H Qd Q fo R h k => by
  rcases R.slots i with z | ⟨w, z, q⟩
  · simp only [tMove, z] at h
  · have mv : ∀ s, ρ.at i = s → ValOk (fun a => own a = some i) I H w s → Qd s (ρ.set i .un) → Q w H := fun s hs hv hq => by
      have ho : ∀ a j, (if own a = some i then none else own a) = some j → own a = some j ∧ j ≠ i := fun a j e => by
        by_cases h' : own a = some i
        · rw [if_pos h'] at e; cases e
        · rw [if_neg h'] at e; exact ⟨e, fun z => h' (z ▸ e)⟩
      have hn : ∀ a, (if own a = some i then none else own a) ≠ none → own a ≠ none := fun a e => by
        by_cases h' : own a = some i
        · rw [h']; exact fun z => nomatch z
        · rw [if_neg h'] at e; exact e
      have hr : Rel F (ρ.set i .un) I (fun a => if own a = some i then none else own a) σ H := by
        refine ⟨R.sub, R.frame, R.there, fun a e => R.imm a (hn a e), fun a j e => R.new a j (ho a j e).1, fun a e => R.live a (hn a e), R.inew, R.i0, R.fix, by rw [List.length_set]; exact R.len, fun j => ?_⟩
        by_cases hij : i = j
        · subst hij
          by_cases hl : i < ρ.length
          · rw [DEnv.at_set_self hl]; exact .inl rfl
          · rw [List.set_eq_of_length_le (Nat.le_of_not_lt hl)]
            exact .inl (by unfold DEnv.at; rw [List.getD_eq_getElem?_getD, List.getElem?_eq_none (Nat.le_of_not_lt hl)]; rfl)
        · rw [DEnv.at_set_ne hij]
          rcases R.slots j with e | ⟨w', e, q'⟩
          · exact .inl e
          · refine .inr ⟨w', e, q'.frame (fun a z => ?_) (Sub.refl _) fun _ _ => rfl⟩
            show (if own a = some i then none else own a) = some j
            rw [if_neg (fun z' => hij (Option.some.inj (z'.symm.trans z)))]; exact z
      refine k s _ I _ H w hr (Sub.refl _) ⟨fun a => own a = some i, fun a e => ⟨R.imm a (by rw [e]; exact fun z => nomatch z), if_pos e, ?_, R.live a (by rw [e]; exact fun z => nomatch z)⟩, hv⟩ hq
      rcases R.new a i e with z | z
      · exact z
      · exact absurd (fo.2.1 a i z) hi
    refine ⟨w, z, ?_⟩
    simp only [tMove] at h
    split at h
    · rename_i d hd; rw [hd] at q
      exact k _ _ _ _ _ _ R (Sub.refl _) (.fz q) h
    · exact h.elim
    · exact mv _ rfl q h
theorem de_move (i : Nat) {x : Str} {pos : Pos} (hi : i ∉ L := by decide) (hN : X.N[i]? = some x := by rfl) (hv : Vis X.env.scope x := by first | exact Or.inl rfl | exact Or.inr (Or.inl rfl) | exact Or.inr (Or.inr rfl)) (hd : (x == ("__debug__" : Str)) = false := by decide)
    (hcd : (x == ("__classdict__" : Str)) = false := by decide) : DE X L (.Name x pos) (tVar i) (tMove i) := ⟨pe_var hN hv hd hcd, se_move hi⟩

/-- a name as it stands -/
def tNmB (i : Nat) : DTB := fun ρ Q => match ρ.at i with
  | .un => False
  | _ => Q (.v i) ρ
theorem sb_var {i : Nat} : SB L (tVar i) (tNmB i) := fun F ρ I own σ H Qd Q _ R h k => by
  simp only [tNmB] at h
  rcases R.slots i with z | ⟨w, z, q⟩
  · rw [z] at h; exact h.elim
  · refine ⟨w, z, ?_⟩
    split at h
    · exact h.elim
    · exact k (.v i) ρ I own H w R (Sub.refl _) z h
theorem db_var (i : Nat) {x : Str} {pos : Pos} (hN : X.N[i]? = some x := by rfl) (hv : Vis X.env.scope x := by first | exact Or.inl rfl | exact Or.inr (Or.inl rfl) | exact Or.inr (Or.inr rfl)) (hd : (x == ("__debug__" : Str)) = false := by decide)
    (hcd : (x == ("__classdict__" : Str)) = false := by decide) : DB X L (.Name x pos) (tVar i) (tNmB i) := ⟨pe_var hN hv hd hcd, sb_var⟩

def frzS : Slot → Option D
  | .fz d => some d
  | .lst ds => some (.list ds)
  | .ov o => o.toD
  | _ => none
/-- more of what nobody has is data -/
theorem Rel.grow {F : Fx} {ρ : DEnv} {I I' : Hp} {own : Addr → Option Nat} {σ : St} {H : Hp} (R : Rel F ρ I own σ H) (s : Sub I I') (sub : Sub I' H) (hn : ∀ a, I' a ≠ none → I a ≠ none ∨ (own a = none ∧ F.H0 a = none)) : Rel F ρ I' own σ H :=
  ⟨sub, R.frame, R.there, fun a z => by
    cases e : I' a with
    | none => rfl
    | some u =>
      rcases hn a (by rw [e]; exact fun y => nomatch y) with y | y
      · exact absurd (R.imm a z) y
      · exact absurd y.1 z, R.new, R.live, fun a z => by
    rcases hn a z with y | y
    · exact R.inew a y
    · exact .inl y.2, R.i0.trans s, R.fix, R.len, fun j => by
    rcases R.slots j with e | ⟨w, e, q⟩
    · exact .inl e
    · exact .inr ⟨w, e, q.frame (fun _ z => z) s fun _ _ => rfl⟩⟩
/-- a new thing that has come is frozen -/
theorem ResOk.freeze {F : Fx} {ρ : DEnv} {I : Hp} {own : Addr → Option Nat} {σ : St} {H : Hp} {v : V} {s : Slot} {d : D} (R : Rel F ρ I own σ H) (h : ResOk F I own H v s) (e : frzS s = some d) :
    ∃ I', Rel F ρ I' own σ H ∧ Sub I I' ∧ Rep I' v d := by
  cases s with
  | un => cases e
  | ov o =>
    classical
    obtain ⟨S, hS, f, h1, h2, h3⟩ := h
    have hd : o.toD = some d := e
    have hn : ∀ a ∈ f, I a = none := fun a m => (hS a (h3 a m)).1
    have s1 : Sub I fun a => if a ∈ f then H a else I a := fun a u e => by
      by_cases m : a ∈ f
      · rw [hn a m] at e; cases e
      · exact (if_neg m).trans e
    refine ⟨_, R.grow s1 (fun a u e => ?_) fun a z => ?_, s1, h1.rep s1 (fun a m => if_pos m) hd⟩
    · by_cases m : a ∈ f
      · exact (if_pos m).symm.trans e
      · exact R.sub a u ((if_neg m).symm.trans e)
    · by_cases m : a ∈ f
      · exact .inr ⟨(hS a (h3 a m)).2.1, (hS a (h3 a m)).2.2.1⟩
      · exact .inl fun e => z ((if_neg m).trans e)
  | ob _ => cases e
  | fz x => cases e; exact ⟨I, R, Sub.refl _, h.rep⟩
  | lst ds =>
    cases e
    obtain ⟨S, hS, p, vs, rfl, hp, h1, h2⟩ := h
    obtain ⟨n1, n2, n3, n4⟩ := hS p hp
    have s1 : Sub I (upd I p (.lst vs)) := Sub.new n1
    have hI : ∀ a, upd I p (.lst vs) a ≠ none → a = p ∨ I a ≠ none := fun a z => by
      by_cases e : a = p
      · exact .inl e
      · rw [upd_ne e] at z; exact .inr z
    refine ⟨upd I p (.lst vs), ⟨fun a o e => ?_, R.frame, R.there, fun a z => ?_, R.new, R.live, fun a z => ?_, R.i0.trans s1, R.fix, R.len, fun j => ?_⟩, s1, .lst upd_same (h2.mono s1)⟩
    · by_cases h : a = p
      · subst h; rw [upd_same] at e; cases e; exact h1
      · rw [upd_ne h] at e; exact R.sub a o e
    · rw [upd_ne (fun e => z (by rw [e]; exact n2))]; exact R.imm a z
    · rcases hI a z with rfl | z
      · exact .inl n3
      · exact R.inew a z
    · rcases R.slots j with e | ⟨w, e, q⟩
      · exact .inl e
      · exact .inr ⟨w, e, q.frame (fun _ z => z) s1 fun _ _ => rfl⟩
def tOf (t : DTE) : DTB := fun ρ Q => t ρ fun s ρ' => opt (frzS s) fun d => Q (.d d) ρ'
theorem sb_of (h : SE L u t) : SB L u (tOf t) := fun F ρ I own σ H Qd Q fo R q k =>
  h F ρ I own σ H _ Q fo R q fun s ρ' I' own' H' v R' s' r z => by
    obtain ⟨d, e, z⟩ := opt_elim z
    obtain ⟨I2, R2, s2, r2⟩ := r.freeze R' e
    exact k (.d d) ρ' I2 own' H' v R2 (s'.trans s2) r2 z
theorem db_of (h : DE X L e u t) : DB X L e u (tOf t) := ⟨h.pe, sb_of h.snd⟩

def SndR (r : R2) (rd : D → D → (Slot → Prop) → Prop) : Prop := ∀ F ρ I own σ H v w x y Qs Q, Rel F ρ I own σ H → RepH I H v x → RepH I H w y → rd x y Qs →
  (∀ s I' H' z, Rel F ρ I' own σ H' → Sub I I' → ResOk F I' own H' z s → Qs s → Q z H') → r v w H Q
def tBin (rd : D → D → (Slot → Prop) → Prop) (ta tb : DTB) : DTE := fun ρ Q => ta ρ fun a ρ1 => tb ρ1 fun b ρ2 => opt (a.get ρ2) fun x => opt (b.get ρ2) fun y => rd x y fun s => Q s ρ2
theorem se_op {r : R2} {rd : D → D → (Slot → Prop) → Prop} (hr : SndR r rd) (ha : SB L ua ta) (hb : SB L ub tb) : SE L (tOp r ua ub) (tBin rd ta tb) := fun F ρ I own σ H Qd Q fo R h k =>
  ha F ρ I own σ H _ _ fo R h fun a ρ1 I1 own1 H1 v R1 s1 ra h1 => hb F ρ1 I1 own1 σ H1 _ _ fo R1 h1 fun b ρ2 I2 own2 H2 w R2 s2 rb h2 => by
    obtain ⟨x, ex, h2⟩ := opt_elim h2
    obtain ⟨y, ey, h2⟩ := opt_elim h2
    exact hr F ρ2 I2 own2 σ H2 v w x y _ Q R2 ((ra.mono s2).rep R2 ex) (rb.rep R2 ey) h2 fun s I' H' z R' s' r' q => k s ρ2 I' own2 H' z R' ((s1.trans s2).trans s') r' q
theorem de_op {op : Operator} {r : R2} {rd : D → D → (Slot → Prop) → Prop} (ho : OpR X (binaryOp op) r) (hr : SndR r rd) (ha : DB X L a ua ta) (hb : DB X L b ub tb) : DE X L (.BinOp a op b pos) (tOp r ua ub) (tBin rd ta tb) :=
  ⟨pe_op ho ha.pe hb.pe, se_op hr ha.snd hb.snd⟩
theorem de_cmp {op : CmpOp} {r : R2} {rd : D → D → (Slot → Prop) → Prop} (ho : OpR X (compareOp op) r) (hr : SndR r rd) (ha : DB X L a ua ta) (hb : DB X L b ub tb) (hm : behindInMarks op b = false) : DE X L (.Compare a [op] [b] pos) (tOp r ua ub) (tBin rd ta tb) :=
  ⟨pe_cmpR ho ha.pe hb.pe hm, se_op hr ha.snd hb.snd⟩
/-- the answer as a truth -/
def blS : Slot → Option Bool
  | .fz (.bool b) => some b
  | _ => none
def tBl (t : DTE) : DTT := fun ρ Q => t ρ fun s ρ' => opt (blS s) fun b => Q b ρ'
theorem blS_of {F : Fx} {I : Hp} {own : Addr → Option Nat} {H : Hp} {v : V} {s : Slot} {b : Bool} (r : ResOk F I own H v s) (e : blS s = some b) : v = .bl b := by
  unfold blS at e
  split at e
  · rename_i k; cases e; have := r.rep; cases this; rfl
  · cases e
theorem st_bl (h : SE L u t) : ST L (tTest u) (tBl t) := fun F ρ I own σ H Qd Q fo R q k =>
  h F ρ I own σ H _ _ fo R q fun s ρ' I' own' H' v R' s' r z => by
    obtain ⟨b, e, z⟩ := opt_elim z
    exact ⟨b, blS_of r e, k b ρ' I' own' H' R' s' z⟩
theorem dt_cmp {op : CmpOp} {r : R2} {rd : D → D → (Slot → Prop) → Prop} (ho : OpR X (compareOp op) r) (hr : SndR r rd) (ha : DB X L a ua ta) (hb : DB X L b ub tb) (hm : behindInMarks op b = false) : DT X L (.Compare a [op] [b] pos) (tTest (tOp r ua ub)) (tBl (tBin rd ta tb)) :=
  ⟨pt_cmpR ho ha.pe hb.pe hm, st_bl (se_op hr ha.snd hb.snd)⟩
/-- an expression that hands back a truth, as a test -/
theorem dt_val (h : DE X L e u t) (he : ∀ whole, isTrue e X.env whole = (do let v ← whole; standAt e.pos; holding [v] (truthy v)) := by intro _; rfl) : DT X L e (tB u) (tBl t) := ⟨pt_val h.pe he, st_bl h.snd⟩
/-- a < b < c -/
def tChn (rd rd' : D → D → (Slot → Prop) → Prop) (ta tb tc : DTB) : DTE := fun ρ Q => ta ρ fun a ρ1 => tb ρ1 fun b ρ2 => opt (a.get ρ2) fun x => opt (b.get ρ2) fun y => rd x y fun s => opt (blS s) fun k =>
  if k = true then tc ρ2 fun c ρ3 => opt (b.get ρ3) fun y => opt (c.get ρ3) fun z => rd' y z fun s' => Q s' ρ3 else Q (.fz (.bool false)) ρ2
variable {c : Expr} {uc : TE} {tc : DTB}
theorem se_chain {r r' : R2} {rd rd' : D → D → (Slot → Prop) → Prop} (hr : SndR r rd) (hr' : SndR r' rd') (ha : SB L ua ta) (hb : SB L ub tb) (hc : SB L uc tc) :
    SE L (tChain r r' ua ub uc) (tChn rd rd' ta tb tc) := fun F ρ I own σ H Qd Q fo R h k =>
  ha F ρ I own σ H _ _ fo R h fun a ρ1 I1 own1 H1 v R1 s1 ra h1 => hb F ρ1 I1 own1 σ H1 _ _ fo R1 h1 fun b ρ2 I2 own2 H2 w R2 s2 rb h2 => by
    obtain ⟨x, ex, h2⟩ := opt_elim h2
    obtain ⟨y, ey, h2⟩ := opt_elim h2
    refine hr F ρ2 I2 own2 σ H2 v w x y _ _ R2 ((ra.mono s2).rep R2 ex) (rb.rep R2 ey) h2 fun s I' H' z R' s' r' q => ?_
    obtain ⟨kk, ek, q⟩ := opt_elim q
    refine ⟨kk, blS_of r' ek, ?_⟩
    cases kk with
    | true =>
      rw [if_pos rfl] at q ⊢
      refine hc F ρ2 I' own2 σ H' _ _ fo R' q fun cc ρ3 I3 own3 H3 w3 R3 s3 rc h3 => ?_
      obtain ⟨y', ey', h3⟩ := opt_elim h3
      obtain ⟨z', ez', h3⟩ := opt_elim h3
      exact hr' F ρ3 I3 own3 σ H3 w w3 y' z' _ Q R3 ((rb.mono (s'.trans s3)).rep R3 ey') (rc.rep R3 ez') h3 fun s4 I4 H4 z4 R4 s4' r4 q4 => k s4 ρ3 I4 own3 H4 z4 R4 ((((s1.trans s2).trans s').trans s3).trans s4') r4 q4
    | false =>
      rw [if_neg Bool.false_ne_true] at q ⊢
      exact k _ ρ2 I' own2 H' _ R' ((s1.trans s2).trans s') (.fz (.bl false)) q
theorem de_chain {op op' : CmpOp} {r r' : R2} {rd rd' : D → D → (Slot → Prop) → Prop} (ho : OpR X (compareOp op) r) (ho' : OpR X (compareOp op') r') (hr : SndR r rd) (hr' : SndR r' rd') (ha : DB X L a ua ta) (hb : DB X L b ub tb) (hc : DB X L c uc tc)
    (hm : lastMarks [op, op'] [b, c] = false := by with_unfolding_all rfl) : DE X L (.Compare a [op, op'] [b, c] pos) (tChain r r' ua ub uc) (tChn rd rd' ta tb tc) :=
  ⟨pe_chain ho ho' ha.pe hb.pe hc.pe hm, se_chain hr hr' ha.snd hb.snd hc.snd⟩
theorem dt_chain {op op' : CmpOp} {r r' : R2} {rd rd' : D → D → (Slot → Prop) → Prop} (ho : OpR X (compareOp op) r) (ho' : OpR X (compareOp op') r') (hr : SndR r rd) (hr' : SndR r' rd') (ha : DB X L a ua ta) (hb : DB X L b ub tb) (hc : DB X L c uc tc)
    (hm : lastMarks [op, op'] [b, c] = false := by with_unfolding_all rfl) : DT X L (.Compare a [op, op'] [b, c] pos) (tTest (tChain r r' ua ub uc)) (tBl (tChn rd rd' ta tb tc)) :=
  ⟨pt_chain ho ho' ha.pe hb.pe hc.pe hm, st_bl (se_chain hr hr' ha.snd hb.snd hc.snd)⟩
end

section
variable {X : Cx} {L : List Nat} {a b e : Expr} {rest : List Expr} {u1 u2 : TT} {t1 t2 : DTT} {ua ub : TE} {ta tb : DTE} {pos : Pos}
def dAnd (t u : DTT) : DTT := fun ρ Q => t ρ fun c ρ1 => if c = true then u ρ1 Q else Q false ρ1
def dOr (t u : DTT) : DTT := fun ρ Q => t ρ fun c ρ1 => if c = true then Q true ρ1 else u ρ1 Q
def dNot (t : DTT) : DTT := fun ρ Q => t ρ fun c ρ1 => Q (!c) ρ1
theorem dw_pt {u : TT} {t : DTT} (h : DW X L e u t) : DT X L e u t := ⟨h.pe.pt, h.snd⟩
theorem dw_and1 (h : DT X L a u1 t1) : DW X L (.BoolOp .And [a] pos) u1 t1 := ⟨pw_and1 h.pe, h.snd⟩
theorem dw_or1 (h : DT X L a u1 t1) : DW X L (.BoolOp .Or [a] pos) u1 t1 := ⟨pw_or1 h.pe, h.snd⟩
theorem st_and (ha : ST L u1 t1) (hb : ST L u2 t2) : ST L (tAnd u1 u2) (dAnd t1 t2) := fun F ρ I own σ H Qd Q fo R h k =>
  ha F ρ I own σ H _ _ fo R h fun c ρ1 I1 own1 H1 R1 s1 h1 => by
    cases c with
    | true => exact hb F ρ1 I1 own1 σ H1 Qd Q fo R1 h1 fun c2 ρ2 I2 own2 H2 R2 s2 h2 => k c2 ρ2 I2 own2 H2 R2 (s1.trans s2) h2
    | false => exact k false ρ1 I1 own1 H1 R1 s1 h1
theorem st_or (ha : ST L u1 t1) (hb : ST L u2 t2) : ST L (tOr u1 u2) (dOr t1 t2) := fun F ρ I own σ H Qd Q fo R h k =>
  ha F ρ I own σ H _ _ fo R h fun c ρ1 I1 own1 H1 R1 s1 h1 => by
    cases c with
    | false => exact hb F ρ1 I1 own1 σ H1 Qd Q fo R1 h1 fun c2 ρ2 I2 own2 H2 R2 s2 h2 => k c2 ρ2 I2 own2 H2 R2 (s1.trans s2) h2
    | true => exact k true ρ1 I1 own1 H1 R1 s1 h1
theorem dw_and (ha : DT X L a u1 t1) (hb : DW X L (.BoolOp .And (b :: rest) pos) u2 t2) : DW X L (.BoolOp .And (a :: b :: rest) pos) (tAnd u1 u2) (dAnd t1 t2) := ⟨pw_and ha.pe hb.pe, st_and ha.snd hb.snd⟩
theorem dw_or (ha : DT X L a u1 t1) (hb : DW X L (.BoolOp .Or (b :: rest) pos) u2 t2) : DW X L (.BoolOp .Or (a :: b :: rest) pos) (tOr u1 u2) (dOr t1 t2) := ⟨pw_or ha.pe hb.pe, st_or ha.snd hb.snd⟩
theorem dt_not (h : DT X L a u1 t1) : DT X L (.UnaryOp .Not a pos) (tNot u1) (dNot t1) := ⟨pt_not h.pe, fun F ρ I own σ H Qd Q fo R q k =>
  h.snd F ρ I own σ H _ _ fo R q fun c ρ1 I1 own1 H1 R1 s1 h1 => k (!c) ρ1 I1 own1 H1 R1 s1 h1⟩
/-- .. as values -/
def dAndV (t u : DTE) : DTE := fun ρ Q => t ρ fun s ρ1 => opt (blS s) fun c => if c = true then u ρ1 Q else Q (.fz (.bool false)) ρ1
def dOrV (t u : DTE) : DTE := fun ρ Q => t ρ fun s ρ1 => opt (blS s) fun c => if c = true then Q (.fz (.bool true)) ρ1 else u ρ1 Q
def dNotV (t : DTE) : DTE := fun ρ Q => t ρ fun s ρ1 => opt (blS s) fun c => Q (.fz (.bool (!c))) ρ1
theorem de_one {op} (h : DE X L a ua ta) : DE X L (.BoolOp op [a] pos) ua ta := ⟨pe_one h.pe, h.snd⟩
theorem de_and (ha : DE X L a ua ta) (hb : DE X L (.BoolOp .And (b :: rest) pos) ub tb) : DE X L (.BoolOp .And (a :: b :: rest) pos) (tAndV ua ub) (dAndV ta tb) :=
  ⟨pe_and ha.pe hb.pe, fun F ρ I own σ H Qd Q fo R h k => ha.snd F ρ I own σ H _ _ fo R h fun s ρ1 I1 own1 H1 v R1 s1 r1 h1 => by
    obtain ⟨c, e, h1⟩ := opt_elim h1
    refine ⟨c, blS_of r1 e, ?_⟩
    cases c with
    | true => exact hb.snd F ρ1 I1 own1 σ H1 Qd Q fo R1 h1 fun s2 ρ2 I2 own2 H2 v2 R2 s2' r2 h2 => k s2 ρ2 I2 own2 H2 v2 R2 (s1.trans s2') r2 h2
    | false => exact k _ ρ1 I1 own1 H1 _ R1 s1 (.fz (.bl false)) h1⟩
theorem de_or (ha : DE X L a ua ta) (hb : DE X L (.BoolOp .Or (b :: rest) pos) ub tb) : DE X L (.BoolOp .Or (a :: b :: rest) pos) (tOrV ua ub) (dOrV ta tb) :=
  ⟨pe_or ha.pe hb.pe, fun F ρ I own σ H Qd Q fo R h k => ha.snd F ρ I own σ H _ _ fo R h fun s ρ1 I1 own1 H1 v R1 s1 r1 h1 => by
    obtain ⟨c, e, h1⟩ := opt_elim h1
    refine ⟨c, blS_of r1 e, ?_⟩
    cases c with
    | false => exact hb.snd F ρ1 I1 own1 σ H1 Qd Q fo R1 h1 fun s2 ρ2 I2 own2 H2 v2 R2 s2' r2 h2 => k s2 ρ2 I2 own2 H2 v2 R2 (s1.trans s2') r2 h2
    | true => exact k _ ρ1 I1 own1 H1 _ R1 s1 (.fz (.bl true)) h1⟩
theorem de_not (ha : DE X L a ua ta) : DE X L (.UnaryOp .Not a pos) (tNotV ua) (dNotV ta) :=
  ⟨pe_not ha.pe, fun F ρ I own σ H Qd Q fo R h k => ha.snd F ρ I own σ H _ _ fo R h fun s ρ1 I1 own1 H1 v R1 s1 r1 h1 => by
    obtain ⟨c, e, h1⟩ := opt_elim h1
    exact ⟨c, blS_of r1 e, k _ ρ1 I1 own1 H1 _ R1 s1 (.fz (.bl _)) h1⟩⟩
def dIf (t : DTT) (ta tb : DTE) : DTE := fun ρ Q => t ρ fun c ρ1 => if c = true then ta ρ1 Q else tb ρ1 Q
theorem de_if {c : Expr} (hc : DT X L c u1 t1) (ha : DE X L a ua ta) (hb : DE X L b ub tb) : DE X L (.IfExp c a b pos) (tIf u1 ua ub) (dIf t1 ta tb) :=
  ⟨pe_ifExp hc.pe ha.pe hb.pe, fun F ρ I own σ H Qd Q fo R h k => hc.snd F ρ I own σ H _ _ fo R h fun c ρ1 I1 own1 H1 R1 s1 h1 => by
    cases c with
    | true => exact ha.snd F ρ1 I1 own1 σ H1 Qd Q fo R1 h1 fun s2 ρ2 I2 own2 H2 v2 R2 s2' r2 h2 => k s2 ρ2 I2 own2 H2 v2 R2 (s1.trans s2') r2 h2
    | false => exact hb.snd F ρ1 I1 own1 σ H1 Qd Q fo R1 h1 fun s2 ρ2 I2 own2 H2 v2 R2 s2' r2 h2 => k s2 ρ2 I2 own2 H2 v2 R2 (s1.trans s2') r2 h2⟩

variable {es : List Expr} {us ur : TA} {ts tr : DTA} {ux : TE} {tx : DTB}
def dNil : DTA := fun ρ Q => Q [] ρ
def dCons (t : DTB) (r : DTA) : DTA := fun ρ Q => t ρ fun b ρ1 => r ρ1 fun bs ρ2 => Q (b :: bs) ρ2
theorem sa_nil : SA L tNil dNil := fun F ρ I own σ H Qd Q _ R h k => k [] ρ I own H [] R (Sub.refl _) .nil h
theorem paired_bok {I I' : Hp} {σ : St} (s : Sub I I') : ∀ {vs : List V} {bs : List BV}, Paired (BOk I σ) vs bs → Paired (BOk I' σ) vs bs
  | _, _, .nil => .nil
  | _, _, .cons h r => .cons (h.mono s) (paired_bok s r)
theorem sa_cons (hb : SB L ux tx) (hr : SA L ur tr) : SA L (tCons ux ur) (dCons tx tr) := fun F ρ I own σ H Qd Q fo R h k =>
  hb F ρ I own σ H _ _ fo R h fun b ρ1 I1 own1 H1 v R1 s1 r1 h1 => hr F ρ1 I1 own1 σ H1 _ _ fo R1 h1 fun bs ρ2 I2 own2 H2 vs R2 s2 r2 h2 =>
    k (b :: bs) ρ2 I2 own2 H2 (v :: vs) R2 (s1.trans s2) (.cons (r1.mono s2) r2) h2
theorem da_nil : DA X L [] tNil dNil := ⟨pa_nil, sa_nil⟩
theorem da_cons (hb : DB X L e ux tx) (hr : DA X L es ur tr) (hs : starEach (e :: es) X.env = (false, eval e X.env) :: starEach es X.env := by rfl) : DA X L (e :: es) (tCons ux ur) (dCons tx tr) :=
  ⟨pa_cons hb.pe hr.pe hs, sa_cons hb.snd hr.snd⟩
/-- all of them data -/
def allD : List BV → Option (List D)
  | [] => some []
  | .d x :: bs => (allD bs).map (x :: ·)
  | _ :: _ => none
theorem allD_rep {I : Hp} {σ : St} : ∀ {vs : List V} {bs : List BV} {ds : List D}, Paired (BOk I σ) vs bs → allD bs = some ds → RepL I vs ds
  | _, _, _, .nil, e => by cases e; exact .nil
  | _, .d x :: bs, _, .cons h r, e => by
    simp only [allD, Option.map_eq_some_iff] at e
    obtain ⟨ds, e1, rfl⟩ := e
    exact .cons h (allD_rep r e1)
  | _, .v _ :: _, _, .cons _ _, e => by cases e
  | _, .pl _ _ _ :: _, _, .cons _ _, e => by cases e
/-- .. read on the spot -/
def getD' (ρ : DEnv) : List BV → Option (List D)
  | [] => some []
  | b :: bs => match b.get ρ, getD' ρ bs with
    | some x, some xs => some (x :: xs)
    | _, _ => none
theorem getD'_rep {F : Fx} {ρ : DEnv} {I : Hp} {own : Addr → Option Nat} {σ : St} {H : Hp} (R : Rel F ρ I own σ H) : ∀ {vs : List V} {bs : List BV} {ds : List D}, Paired (BOk I σ) vs bs → getD' ρ bs = some ds → Paired (RepH I H) vs ds
  | _, _, _, .nil, e => by cases e; exact .nil
  | _, b :: bs, _, .cons h r, e => by
    simp only [getD'] at e
    split at e
    · rename_i x xs e1 e2; cases e
      exact .cons (h.rep R e1) (getD'_rep R r e2)
    · cases e
def dTup (t : DTA) : DTE := fun ρ Q => t ρ fun bs ρ1 => opt (allD bs) fun ds => ds.length ≤ sizeLine ∧ Q (.fz (.tuple ds)) ρ1
def dLst (t : DTA) : DTE := fun ρ Q => t ρ fun bs ρ1 => opt (allD bs) fun ds => ds.length ≤ sizeLine ∧ Q (.lst ds) ρ1
/-- a new object at p has come, data from now on -/
theorem Rel.born {F : Fx} {ρ : DEnv} {I : Hp} {own : Addr → Option Nat} {σ : St} {H : Hp} (R : Rel F ρ I own σ H) {p : Addr} {o : HO} (hp : H p = none) : Rel F ρ (upd I p o) own σ (upd H p o) ∧ Sub I (upd I p o) := by
  obtain ⟨n1, n2, n3⟩ := R.fresh hp
  have R1 := R.laid (o := o) hp
  have s1 : Sub I (upd I p o) := Sub.new n1
  refine ⟨⟨fun a u e => ?_, R1.frame, R1.there, fun a z => ?_, R1.new, R1.live, fun a z => ?_, R1.i0.trans s1, R1.fix, R1.len, fun j => ?_⟩, s1⟩
  · by_cases h : a = p
    · subst h; rw [upd_same] at e ⊢; exact e
    · rw [upd_ne h] at e ⊢; exact R.sub a u e
  · rw [upd_ne (fun e => z (by rw [e]; exact n2))]; exact R.imm a z
  · by_cases h : a = p
    · subst h; exact .inl n3
    · rw [upd_ne h] at z; exact R.inew a z
  · rcases R1.slots j with e | ⟨w, e, q⟩
    · exact .inl e
    · exact .inr ⟨w, e, q.frame (fun _ z => z) s1 fun _ _ => rfl⟩
theorem ResOk.new {F : Fx} {ρ : DEnv} {I : Hp} {own : Addr → Option Nat} {σ : St} {H : Hp} (R : Rel F ρ I own σ H) {p : Addr} {vs : List V} {ds : List D} (hp : H p = none) (h : RepL I vs ds) : ResOk F I own (upd H p (.lst vs)) (.ref p) (.lst ds) := by
  obtain ⟨n1, n2, n3⟩ := R.fresh hp
  refine ⟨fun a => a = p, fun a e => ?_, p, vs, rfl, rfl, upd_same, h⟩
  subst e
  exact ⟨n1, n2, n3, by rw [upd_same]; exact fun z => nomatch z⟩
theorem de_tup {x1} (h : DA X L es us ts) : DE X L (.Tuple es x1 pos) (tTup us) (dTup ts) := ⟨pe_tup h.pe, fun F ρ I own σ H Qd Q fo R q k =>
  h.snd F ρ I own σ H _ _ fo R q fun bs ρ1 I1 own1 H1 vs R1 s1 r1 h1 => by
    obtain ⟨ds, e, hl, h1⟩ := opt_elim h1
    have r := allD_rep r1 e
    refine ⟨by rw [r.length]; exact hl, fun p hp => ?_⟩
    obtain ⟨R2, s2⟩ := R1.born (o := .tup vs) hp
    exact k _ ρ1 _ own1 _ _ R2 (s1.trans s2) (.fz (.tup upd_same (r.mono s2))) h1⟩
theorem de_lst (h : DA X L es us ts) : DE X L (.List es pos) (tLst us) (dLst ts) := ⟨pe_lst h.pe, fun F ρ I own σ H Qd Q fo R q k =>
  h.snd F ρ I own σ H _ _ fo R q fun bs ρ1 I1 own1 H1 vs R1 s1 r1 h1 => by
    obtain ⟨ds, e, hl, h1⟩ := opt_elim h1
    have r := allD_rep r1 e
    exact ⟨by rw [r.length]; exact hl, fun p hp => k _ ρ1 _ own1 _ _ (R1.laid hp) s1 (ResOk.new R1 hp r) h1⟩⟩
end
end DL

set_option Elab.async false
set_option linter.all false
set_option maxRecDepth 100000
namespace DL
open PySem PySem.Spec L2
open PyProof.Rows hiding St

section
variable {X : Cx} {K : PySem.W.Frag}
abbrev RD := D → D → (Slot → Prop) → Prop

def rAddI : R2 := rI0 fun i j => .int (i + j)
def rAddS : R2 := fun x y H Q => ∃ i j, x = .str i ∧ y = .str j ∧ i.length + j.length ≤ sizeLine ∧ Q (.str (i ++ j)) H
def rAddU (K : PySem.W.Frag) : R2 := fun x y H Q => rAddI x y H Q ∨ (rAddS x y H Q ∨ (rCat x y H Q ∨ rCatA K x y H Q))
theorem op_addU : OpR X (binaryOp .Add) (rAddU X.K) := OpR.or op_add (OpR.or op_add_str (OpR.or op_cat op_catA))
def dAdd : RD := fun x y Q => match x, y with
  | .int i, .int j => Q (.fz (.int (i + j)))
  | .str s, .str t => s.length + t.length ≤ sizeLine ∧ Q (.fz (.str (s ++ t)))
  | .list a, .list b => a.length + b.length ≤ sizeLine ∧ Q (.lst (a ++ b))
  | .tuple a, .tuple b => a.length + b.length ≤ sizeLine ∧ Q (.fz (.tuple (a ++ b)))
  | _, _ => False
theorem sr_add : SndR (rAddU K) dAdd := fun F ρ I own σ H v w x y Qs Q R rx ry h k => by
  unfold dAdd at h
  split at h
  · rename_i i j
    rw [rx.int, ry.int]
    exact .inl ⟨i, j, rfl, rfl, k _ I H _ R (Sub.refl _) (.fz (.int _)) h⟩
  · rename_i s t
    rw [rx.str, ry.str]
    exact .inr (.inl ⟨s, t, rfl, rfl, h.1, k _ I H _ R (Sub.refl _) (.fz (.str _)) h.2⟩)
  · rename_i a b
    obtain ⟨p, vs, rfl, h1, r1⟩ := rx.lst R.sub
    obtain ⟨q, ws, rfl, h2, r2⟩ := ry.lst R.sub
    exact .inr (.inr (.inl ⟨p, q, vs, ws, rfl, rfl, h1, h2, by rw [r1.length, r2.length]; exact h.1, fun l hl => k _ I _ _ (R.laid hl) (Sub.refl _) (ResOk.new R hl (r1.append r2)) h.2⟩))
  · rename_i a b
    obtain ⟨p, vs, rfl, h1, r1⟩ := rx.tup
    obtain ⟨q, ws, rfl, h2, r2⟩ := ry.tup
    refine .inr (.inr (.inr ⟨p, q, vs, ws, rfl, rfl, .of (R.sub _ _ h1), .of (R.sub _ _ h2), by rw [r1.length, r2.length]; exact h.1, fun e => ?_, fun _ e => ?_, fun _ _ l hl => ?_⟩))
    · subst e; cases r1; exact k _ I H _ R (Sub.refl _) (.fz (.tup h2 r2)) h.2
    · subst e; cases r2
      have h2' := h.2
      rw [List.append_nil] at h2'
      exact k _ I H _ R (Sub.refl _) (.fz (.tup h1 r1)) h2'
    · obtain ⟨R2, s2⟩ := R.born (o := .tup (vs ++ ws)) hl
      exact k _ _ _ _ R2 s2 (.fz (.tup upd_same ((r1.append r2).mono s2))) h.2
  · exact h.elim

def intD (g : Int → Int → Int) (c : Int → Int → Prop) : RD := fun x y Q => match x, y with
  | .int i, .int j => c i j ∧ Q (.fz (.int (g i j)))
  | _, _ => False
theorem sr_int {C c : Int → Int → Prop} {g : Int → Int → Int} (hc : ∀ i j, c i j → C i j) : SndR (rI C fun i j => .int (g i j)) (intD g c) := fun F ρ I own σ H v w x y Qs Q R rx ry h k => by
  unfold intD at h
  split at h
  · rename_i i j
    rw [rx.int, ry.int]
    exact ⟨i, j, rfl, rfl, hc _ _ h.1, k _ I H _ R (Sub.refl _) (.fz (.int _)) h.2⟩
  · exact h.elim
def int0D (g : Int → Int → Int) : RD := fun x y Q => match x, y with
  | .int i, .int j => Q (.fz (.int (g i j)))
  | _, _ => False
theorem sr_int0 {g : Int → Int → Int} : SndR (rI0 fun i j => .int (g i j)) (int0D g) := fun F ρ I own σ H v w x y Qs Q R rx ry h k => by
  unfold int0D at h
  split at h
  · rename_i i j
    rw [rx.int, ry.int]
    exact ⟨i, j, rfl, rfl, k _ I H _ R (Sub.refl _) (.fz (.int _)) h⟩
  · exact h.elim
def dSub : RD := int0D fun i j => i - j
theorem sr_sub : SndR (rI0 fun i j => .int (i - j)) dSub := sr_int0
def rMulU : R2 := fun x y H Q => rI CMul (fun i j => .int (i * j)) x y H Q ∨ rRep x y H Q
theorem op_mulU : OpR X (binaryOp .Mult) rMulU := OpR.or op_mul op_rep
def dMul : RD := fun x y Q => match x, y with
  | .int i, .int j => ((-(2 ^ 64) < i ∧ i < 2 ^ 64) ∨ (-(2 ^ 64) < j ∧ j < 2 ^ 64)) ∧ Q (.fz (.int (i * j)))
  | .list a, .int j => (-(2 ^ 63) ≤ j ∧ j < 2 ^ 63 ∧ a.length * j.toNat ≤ sizeLine) ∧ Q (.lst (List.replicate j.toNat a).flatten)
  | _, _ => False
theorem sr_mul : SndR rMulU dMul := fun F ρ I own σ H v w x y Qs Q R rx ry h k => by
  unfold dMul at h
  split at h
  · rename_i i j
    rw [rx.int, ry.int]
    exact .inl ⟨i, j, rfl, rfl, h.1, k _ I H _ R (Sub.refl _) (.fz (.int _)) h.2⟩
  · rename_i a j
    obtain ⟨p, vs, rfl, h1, r1⟩ := rx.lst R.sub
    rw [ry.int]
    exact .inr ⟨p, j, vs, rfl, rfl, h1, h.1.1, h.1.2.1, by rw [r1.length]; exact h.1.2.2, fun l hl => k _ I _ _ (R.laid hl) (Sub.refl _) (ResOk.new R hl (r1.rep j.toNat)) h.2⟩
  · exact h.elim
theorem divW {i j : Int} (h : 0 < j ∧ j < 2 ^ 100) : CDivW i j := wide_div h.1 (b := 100) (by have := h.2; omega) (by decide) (by decide)
def dDiv : RD := intD (fun i j => i / j) fun _ j => 0 < j ∧ j < 2 ^ 100
theorem sr_div : SndR (rI CDivW fun i j => .int (i / j)) dDiv := sr_int fun _ _ h => divW h
def dMod : RD := intD (fun i j => i % j) fun _ j => 0 < j
theorem sr_mod : SndR (rI (fun _ j => 0 < j) fun i j => .int (i % j)) dMod := sr_int fun _ _ h => h
def dPow : RD := intD (fun i j => i ^ j.toNat) fun i j => 0 ≤ j ∧ j ≤ 1000 ∧ i.natAbs < 2 ^ 64
theorem sr_pow : SndR (rI CPow fun i j => .int (i ^ j.toNat)) dPow := sr_int fun _ _ h => ⟨h.1, by have := h.2.1; omega, h.2.2⟩
def dShl : RD := intD (fun i j => i * 2 ^ j.toNat) fun i j => 0 ≤ j ∧ j ≤ 1000 ∧ i.natAbs < 2 ^ 64
theorem sr_shl : SndR (rI CPow fun i j => .int (i * 2 ^ j.toNat)) dShl := sr_int fun _ _ h => ⟨h.1, by have := h.2.1; omega, h.2.2⟩

def cmpD (g : Int → Int → Bool) : RD := fun x y Q => match x, y with
  | .int i, .int j => Q (.fz (.bool (g i j)))
  | _, _ => False
theorem sr_cmp {g : Int → Int → Bool} : SndR (rI0 fun i j => .bl (g i j)) (cmpD g) := fun F ρ I own σ H v w x y Qs Q R rx ry h k => by
  unfold cmpD at h
  split at h
  · rename_i i j
    rw [rx.int, ry.int]
    exact ⟨i, j, rfl, rfl, k _ I H _ R (Sub.refl _) (.fz (.bl _)) h⟩
  · exact h.elim
def dLt : RD := cmpD fun i j => decide (i < j)
def dLe : RD := cmpD fun i j => decide (i ≤ j)
def dGt : RD := cmpD fun i j => decide (j < i)
def dGe : RD := cmpD fun i j => decide (j ≤ i)

/-- fit for ==: no dict, not too deep -/
def gd (k : Nat) (d : D) : Bool := d.canLay0 && decide (d.depth ≤ k)
theorem gd_shaped {k : Nat} {d : D} (hk : k ≤ 64) (h : gd k d = true) : SeqAt.shaped d = true := by
  unfold gd at h
  unfold SeqAt.shaped
  rw [Bool.and_eq_true] at h ⊢
  exact ⟨h.1, decide_eq_true (Nat.le_trans (of_decide_eq_true h.2) hk)⟩
def rEqU (K : PySem.W.Frag) : R2 := fun x y H Q => rEq x y H Q ∨ rEqD K x y H Q
def rNeU (K : PySem.W.Frag) : R2 := fun x y H Q => rNe x y H Q ∨ rNeD K x y H Q
theorem op_eqU (hu : X.A.units + 64 < cLine) : OpR X (compareOp .Eq) (rEqU X.K) := OpR.or op_eq (op_eqD hu)
theorem op_neU (hu : X.A.units + 64 < cLine) : OpR X (compareOp .NotEq) (rNeU X.K) := OpR.or op_ne (op_neD hu)
def dEqB (f : Bool → Bool) : RD := fun x y Q => match x, y with
  | .int i, .int j => Q (.fz (.bool (f (decide (i = j)))))
  | .str i, .str j => Q (.fz (.bool (f (decide (i = j)))))
  | .bool i, .bool j => Q (.fz (.bool (f (decide (i = j)))))
  | _, _ => (gd 60 x = true ∧ gd 60 y = true) ∧ Q (.fz (.bool (f (PyData.eqv x y))))
def dEq : RD := dEqB fun b => b
def dNe : RD := dEqB fun b => !b
theorem dec_i {i j : Int} : decide (V.int i = V.int j) = decide (i = j) := by rw [dec_int]; exact Bool.beq_eq_decide_eq i j
theorem dec_s {i j : Str} : decide (V.str i = V.str j) = decide (i = j) := by
  by_cases h : i = j
  · subst h; simp
  · rw [decide_eq_false h, decide_eq_false (fun e => h (V.str.inj e))]
theorem dec_b {i j : Bool} : decide (V.bl i = V.bl j) = decide (i = j) := by cases i <;> cases j <;> rfl
theorem sr_eq : SndR (rEqU K) dEq := fun F ρ I own σ H v w x y Qs Q R rx ry h k => by
  unfold dEq dEqB at h
  split at h
  · rw [rx.int, ry.int]; exact .inl ⟨rfl, by rw [dec_i]; exact k _ I H _ R (Sub.refl _) (.fz (.bl _)) h⟩
  · rw [rx.str, ry.str]; exact .inl ⟨rfl, by rw [dec_s]; exact k _ I H _ R (Sub.refl _) (.fz (.bl _)) h⟩
  · rw [rx.bl, ry.bl]; exact .inl ⟨rfl, by rw [dec_b]; exact k _ I H _ R (Sub.refl _) (.fz (.bl _)) h⟩
  · exact .inr ⟨x, y, rx.dp R.sub, ry.dp R.sub, gd_shaped (by decide) h.1.1, gd_shaped (by decide) h.1.2, k _ I H _ R (Sub.refl _) (.fz (.bl _)) h.2⟩
theorem sr_ne : SndR (rNeU K) dNe := fun F ρ I own σ H v w x y Qs Q R rx ry h k => by
  unfold dNe dEqB at h
  split at h
  · rw [rx.int, ry.int]; exact .inl ⟨rfl, by rw [dec_i]; exact k _ I H _ R (Sub.refl _) (.fz (.bl _)) h⟩
  · rw [rx.str, ry.str]; exact .inl ⟨rfl, by rw [dec_s]; exact k _ I H _ R (Sub.refl _) (.fz (.bl _)) h⟩
  · rw [rx.bl, ry.bl]; exact .inl ⟨rfl, by rw [dec_b]; exact k _ I H _ R (Sub.refl _) (.fz (.bl _)) h⟩
  · exact .inr ⟨x, y, rx.dp R.sub, ry.dp R.sub, gd_shaped (by decide) h.1.1, gd_shaped (by decide) h.1.2, k _ I H _ R (Sub.refl _) (.fz (.bl _)) h.2⟩

def rIsNo : R2 := fun x y H Q => y = .non ∧ Q (.bl (decide (x = .non))) H
def rIsU : R2 := fun x y H Q => rIsNo x y H Q ∨ rIsB x y H Q
def rNotNo : R2 := fun x y H Q => y = .non ∧ Q (.bl (!decide (x = .non))) H
def rNotU : R2 := fun x y H Q => rNotNo x y H Q ∨ rNotB x y H Q
theorem op_isU : OpR X (compareOp .Is) rIsU := OpR.or op_isN op_isBl
theorem op_notU : OpR X (compareOp .IsNot) rNotU := OpR.or op_notN op_notBl
def isN : D → Bool
  | .none => true
  | _ => false
theorem RepH.isN {I H : Hp} {v : V} {d : D} (h : RepH I H v d) : decide (v = .non) = isN d := by
  rcases h with h | ⟨p, vs, ds, rfl, rfl, _⟩
  · cases h <;> rfl
  · rfl
def dIsB (f : Bool → Bool) : RD := fun x y Q => match x, y with
  | .bool a, .bool b => Q (.fz (.bool (f (decide (a = b)))))
  | x, .none => Q (.fz (.bool (f (isN x))))
  | _, _ => False
def dIs : RD := dIsB fun b => b
def dIsNot : RD := dIsB fun b => !b
theorem sr_is : SndR rIsU dIs := fun F ρ I own σ H v w x y Qs Q R rx ry h k => by
  unfold dIs dIsB at h
  split at h
  · rw [rx.bl, ry.bl]; exact .inr ⟨_, _, rfl, rfl, k _ I H _ R (Sub.refl _) (.fz (.bl _)) h⟩
  · exact .inl ⟨ry.non, by rw [rx.isN]; exact k _ I H _ R (Sub.refl _) (.fz (.bl _)) h⟩
  · exact h.elim
theorem sr_isnot : SndR rNotU dIsNot := fun F ρ I own σ H v w x y Qs Q R rx ry h k => by
  unfold dIsNot dIsB at h
  split at h
  · rw [rx.bl, ry.bl]; exact .inr ⟨_, _, rfl, rfl, k _ I H _ R (Sub.refl _) (.fz (.bl _)) h⟩
  · exact .inl ⟨ry.non, by rw [rx.isN]; exact k _ I H _ R (Sub.refl _) (.fz (.bl _)) h⟩
  · exact h.elim

def flatD : D → Bool
  | .none | .bool _ | .int _ | .str _ => true
  | _ => false
theorem Rep.flat {I : Hp} {v : V} {d : D} (h : Rep I v d) (f : flatD d = true) : flatV v = true := by
  cases h <;> first | rfl | cases f
theorem Rep.eqv {I : Hp} {v w : V} {d e : D} (h : Rep I v d) (h' : Rep I w e) (f : flatD d = true) (f' : flatD e = true) : eqV v w = PyData.eqv d e := by
  cases h <;> first | (cases f; done) | (cases h' <;> first | (cases f'; done) | (simp only [eqV, PyData.eqv]))
theorem RepL.flat {I : Hp} : ∀ {vs : List V} {ds : List D}, RepL I vs ds → ds.all flatD = true → vs.all flatV = true
  | _, _, .nil, _ => rfl
  | _, _, .cons h r, f => by
    rw [List.all_cons, Bool.and_eq_true] at f
    rw [List.all_cons, h.flat f.1, RepL.flat r f.2]; rfl
def inD (x : D) (ds : List D) : Bool := ds.any fun y => PyData.eqv y x
theorem RepL.inV {I : Hp} {v : V} {x : D} (hx : Rep I v x) (fx : flatD x = true) : ∀ {vs : List V} {ds : List D}, RepL I vs ds → ds.all flatD = true → inV v vs = inD x ds
  | _, _, .nil, _ => rfl
  | _, _, .cons (v := w) (d := d) h r, f => by
    rw [List.all_cons, Bool.and_eq_true] at f
    have ih := RepL.inV hx fx r f.2
    unfold L2.inV inD at ih ⊢
    rw [List.any_cons, List.any_cons, ih, h.eqv hx f.1 fx]
def rInU (K : PySem.W.Frag) (neg : Bool) : R2 := rIn K neg
def dInB (f : Bool → Bool) : RD := fun x y Q => match y with
  | .list ds => (flatD x = true ∧ ds.all flatD = true) ∧ Q (.fz (.bool (f (inD x ds))))
  | .tuple ds => (flatD x = true ∧ ds.all flatD = true) ∧ Q (.fz (.bool (f (inD x ds))))
  | _ => False
def dIn : RD := dInB fun b => b
def dNotIn : RD := dInB fun b => !b
theorem RepH.rep {I H : Hp} {v : V} {d : D} (h : RepH I H v d) (f : flatD d = true) : Rep I v d := by
  rcases h with h | ⟨_, _, _, _, rfl, _⟩
  · exact h
  · cases f
theorem sr_in : SndR (rIn K false) dIn := fun F ρ I own σ H v w x y Qs Q R rx ry h k => by
  unfold dIn dInB at h
  split at h
  · obtain ⟨p, vs, rfl, h1, r1⟩ := ry.lst R.sub
    have rx' := rx.rep h.1.1
    refine ⟨p, vs, rfl, .inl (.of h1), rx'.flat h.1.1, r1.flat h.1.2, ?_⟩
    rw [if_neg Bool.false_ne_true, RepL.inV rx' h.1.1 r1 h.1.2]
    exact k _ I H _ R (Sub.refl _) (.fz (.bl _)) h.2
  · obtain ⟨p, vs, rfl, h1, r1⟩ := ry.tup
    have rx' := rx.rep h.1.1
    refine ⟨p, vs, rfl, .inr (.of (R.sub _ _ h1)), rx'.flat h.1.1, r1.flat h.1.2, ?_⟩
    rw [if_neg Bool.false_ne_true, RepL.inV rx' h.1.1 r1 h.1.2]
    exact k _ I H _ R (Sub.refl _) (.fz (.bl _)) h.2
  · exact h.elim
theorem sr_notin : SndR (rIn K true) dNotIn := fun F ρ I own σ H v w x y Qs Q R rx ry h k => by
  unfold dNotIn dInB at h
  split at h
  · obtain ⟨p, vs, rfl, h1, r1⟩ := ry.lst R.sub
    have rx' := rx.rep h.1.1
    refine ⟨p, vs, rfl, .inl (.of h1), rx'.flat h.1.1, r1.flat h.1.2, ?_⟩
    rw [if_pos rfl, RepL.inV rx' h.1.1 r1 h.1.2]
    exact k _ I H _ R (Sub.refl _) (.fz (.bl _)) h.2
  · obtain ⟨p, vs, rfl, h1, r1⟩ := ry.tup
    have rx' := rx.rep h.1.1
    refine ⟨p, vs, rfl, .inr (.of (R.sub _ _ h1)), rx'.flat h.1.1, r1.flat h.1.2, ?_⟩
    rw [if_pos rfl, RepL.inV rx' h.1.1 r1 h.1.2]
    exact k _ I H _ R (Sub.refl _) (.fz (.bl _)) h.2
  · exact h.elim

def dIx : RD := fun x y Q => match x, y with
  | .list ds, .int i => opt (atI ds i) fun d => Q (.fz d)
  | .tuple ds, .int i => opt (atI ds i) fun d => Q (.fz d)
  | .str z, .int i => z.length ≤ sizeLine ∧ opt (atI z.cps.toList i) fun c => Q (.fz (.str ⟨#[c]⟩))
  | _, _ => False
theorem RepL.atI {I : Hp} {vs : List V} {ds : List D} {i : Int} {d : D} (r : RepL I vs ds) (e : atI ds i = some d) : ∃ v, L2.atI vs i = some v ∧ Rep I v d := by
  unfold L2.atI at e ⊢
  rw [r.length]
  cases h : ixN ds.length i with
  | none => rw [h] at e; cases e
  | some j =>
    rw [h] at e
    exact r.get (by simpa using e)
theorem sr_ix : SndR (rIx K) dIx := fun F ρ I own σ H v w x y Qs Q R rx ry h k => by
  unfold dIx at h
  split at h
  · obtain ⟨p, vs, rfl, h1, r1⟩ := rx.lst R.sub
    obtain ⟨d, e, h⟩ := opt_elim h
    obtain ⟨u, e', ru⟩ := r1.atI e
    rw [ry.int]
    exact .inl ⟨p, vs, _, u, rfl, rfl, .of h1, e', k _ I H _ R (Sub.refl _) (.fz ru) h⟩
  · obtain ⟨p, vs, rfl, h1, r1⟩ := rx.tup
    obtain ⟨d, e, h⟩ := opt_elim h
    obtain ⟨u, e', ru⟩ := r1.atI e
    rw [ry.int]
    exact .inr (.inl ⟨p, vs, _, u, rfl, rfl, .of (R.sub _ _ h1), e', k _ I H _ R (Sub.refl _) (.fz ru) h⟩)
  · obtain ⟨hz, h⟩ := h
    obtain ⟨d, e, h⟩ := opt_elim h
    rw [rx.str, ry.int]
    exact .inr (.inr ⟨_, _, d, rfl, rfl, hz, e, k _ I H _ R (Sub.refl _) (.fz (.str _)) h⟩)
  · exact h.elim
end

section
variable {X : Cx} {L : List Nat} {a b : Expr} {ua ub : TE} {ta tb : DTB} {pos : Pos}
theorem de_ix (ha : DB X L a ua ta) (hb : DB X L b ub tb) (hs : PlainIx b := by exact fun _ _ => rfl) : DE X L (.Subscript a b pos) (tOp (rIx X.K) ua ub) (tBin dIx ta tb) :=
  ⟨pe_ix ix_seq ha.pe hb.pe hs, se_op sr_ix ha.snd hb.snd⟩

def dNeg (t : DTB) : DTE := fun ρ Q => t ρ fun b ρ1 => opt (b.get ρ1) fun x => match x with
  | .int i => Q (.fz (.int (-i))) ρ1
  | _ => False
theorem de_neg (ha : DB X L a ua ta) : DE X L (.UnaryOp .USub a pos) (tUn (rU fun i => .int (-i)) ua) (dNeg ta) :=
  ⟨pe_un un_neg ha.pe, fun F ρ I own σ H Qd Q fo R h k => ha.snd F ρ I own σ H _ _ fo R h fun b ρ1 I1 own1 H1 v R1 s1 r1 h1 => by
    obtain ⟨x, e, h1⟩ := opt_elim h1
    have rx := r1.rep R1 e
    split at h1
    · rw [rx.int]; exact ⟨_, rfl, k _ ρ1 I1 own1 H1 _ R1 s1 (.fz (.int _)) h1⟩
    · exact h1.elim⟩

def dNoPart : DEnv → (Option Int → DEnv → Prop) → Prop := fun ρ Q => Q none ρ
def dPart (t : DTB) : DEnv → (Option Int → DEnv → Prop) → Prop := fun ρ Q => t ρ fun b ρ1 => opt (b.get ρ1) fun x => match x with
  | .int i => Q (some i) ρ1
  | _ => False
structure DO (X : Cx) (L : List Nat) (e : Option Expr) (u : TO) (t : DEnv → (Option Int → DEnv → Prop) → Prop) : Prop where
  pe : PO X e u
  snd : ∀ F ρ I own σ H Qd Q, FOk F L → Rel F ρ I own σ H → t ρ Qd → (∀ o ρ1 I1 own1 H1, Rel F ρ1 I1 own1 σ H1 → Sub I I1 → Qd o ρ1 → Q o H1) → u σ H Q
theorem do_none : DO X L none tNoPart dNoPart := ⟨po_none, fun F ρ I own σ H Qd Q _ R h k => k none ρ I own H R (Sub.refl _) h⟩
theorem do_some (ha : DB X L a ua ta) : DO X L (some a) (tPart ua) (dPart ta) := ⟨po_some ha.pe, fun F ρ I own σ H Qd Q fo R h k =>
  ha.snd F ρ I own σ H _ _ fo R h fun b ρ1 I1 own1 H1 v R1 s1 r1 h1 => by
    obtain ⟨x, e, h1⟩ := opt_elim h1
    have rx := r1.rep R1 e
    split at h1
    · rw [rx.int]; exact ⟨_, rfl, k _ ρ1 I1 own1 H1 R1 s1 h1⟩
    · exact h1.elim⟩
/-- the part from lo on, ahead of hi -/
def cutD {α : Type} (xs : List α) (lo hi : Option Int) : List α := (xs.drop (HT.sIx xs.length 0 lo)).take (HT.sIx xs.length xs.length hi - HT.sIx xs.length 0 lo)
def dSl (t : DTB) (tl th : DEnv → (Option Int → DEnv → Prop) → Prop) : DTE := fun ρ Q => t ρ fun b ρ1 => tl ρ1 fun l ρ2 => th ρ2 fun h ρ3 => opt (b.get ρ3) fun x => match x with
  | .list ds => Q (.lst (cutD ds l h)) ρ3
  | .tuple ds => Q (.fz (.tuple (cutD ds l h))) ρ3
  | .str z => z.length ≤ sizeLine ∧ Q (.fz (.str (cutS z l h))) ρ3
  | _ => False
def rSlU (K : PySem.W.Frag) : V → Option Int → Option Int → Hp → VK → Prop := fun x lo hi H Q => rSlL K x lo hi H Q ∨ (rSlA K x lo hi H Q ∨ rSlS x lo hi H Q)
theorem sl_U : SlR X (rSlU X.K) := SlR.or sl_list (SlR.or sl_tupA sl_str)
theorem RepL.cut {I : Hp} {vs : List V} {ds : List D} (r : RepL I vs ds) (lo hi : Option Int) : RepL I (cutV vs lo hi) (cutD ds lo hi) := by
  unfold cutV cutD
  rw [r.length]
  exact (r.drop _).take _
theorem de_slice {lo hi : Option Expr} {ul uh : TO} {tl th : DEnv → (Option Int → DEnv → Prop) → Prop} {p2 : Pos} (ha : DB X L a ua ta) (hl : DO X L lo ul tl) (hh : DO X L hi uh th) :
    DE X L (.Subscript a (.Slice lo hi none p2) pos) (tSl (rSlU X.K) ua ul uh) (dSl ta tl th) :=
  ⟨pe_slice sl_U ha.pe hl.pe hh.pe, fun F ρ I own σ H Qd Q fo R h k => ha.snd F ρ I own σ H _ _ fo R h fun b ρ1 I1 own1 H1 v R1 s1 r1 h1 =>
    hl.snd F ρ1 I1 own1 σ H1 _ _ fo R1 h1 fun l ρ2 I2 own2 H2 R2 s2 h2 => hh.snd F ρ2 I2 own2 σ H2 _ _ fo R2 h2 fun g ρ3 I3 own3 H3 R3 s3 h3 => by
      obtain ⟨x, e, h3⟩ := opt_elim h3
      have rx := (r1.mono (s2.trans s3)).rep R3 e
      have s := (s1.trans s2).trans s3
      split at h3
      · obtain ⟨p, vs, rfl, h1', r1'⟩ := rx.lst R3.sub
        exact .inl ⟨p, vs, rfl, .of h1', fun q hq => k _ ρ3 I3 own3 _ _ (R3.laid hq) s (ResOk.new R3 hq (r1'.cut l g)) h3⟩
      · obtain ⟨p, vs, rfl, h1', r1'⟩ := rx.tup
        refine .inr (.inl ⟨p, vs, rfl, .of (R3.sub _ _ h1'), fun z => ?_, fun z q hq => ?_⟩)
        · rename_i ds
          have e2 : cutD ds l g = ds := by
            unfold cutD
            rw [r1'.length] at z
            rw [z.1, z.2, List.drop_zero, Nat.sub_zero, List.take_length]
          rw [e2] at h3
          exact k _ ρ3 I3 own3 H3 _ R3 s (.fz (.tup h1' r1')) h3
        · obtain ⟨R4, s4⟩ := R3.born (o := .tup (cutV vs l g)) hq
          exact k _ ρ3 _ own3 _ _ R4 (s.trans s4) (.fz (.tup upd_same ((r1'.cut l g).mono s4))) h3
      · rw [rx.str]
        exact .inr (.inr ⟨_, rfl, h3.1, k _ ρ3 I3 own3 H3 _ R3 s (.fz (.str _)) h3.2⟩)
      · exact h3.elim⟩
/-- x[::-1] of a list -/
def dRev (t : DTB) : DTE := fun ρ Q => t ρ fun b ρ1 => opt (b.get ρ1) fun x => match x with
  | .list ds => Q (.lst ds.reverse) ρ1
  | _ => False
theorem de_rev {k : Nat} {p1 p2 p3 : Pos} (ha : DB X L a ua ta) : DE X L (.Subscript a (.Slice none none (some (.UnaryOp .USub (.Constant (.int 1) k p1) p2)) p3) pos) (tRevL X.K ua) (dRev ta) :=
  ⟨pe_revL ha.pe, fun F ρ I own σ H Qd Q fo R h k => ha.snd F ρ I own σ H _ _ fo R h fun b ρ1 I1 own1 H1 v R1 s1 r1 h1 => by
    obtain ⟨x, e, h1⟩ := opt_elim h1
    have rx := r1.rep R1 e
    split at h1
    · obtain ⟨p, vs, rfl, h1', r1'⟩ := rx.lst R1.sub
      exact ⟨p, vs, rfl, .of h1', fun q hq => k _ ρ1 I1 own1 _ _ (R1.laid hq) s1 (ResOk.new R1 hq r1'.reverse) h1⟩
    · exact h1.elim⟩

variable {es : List Expr} {us : TA} {ts : DTA}
def SndC (r : List V → Hp → VK → Prop) (rd : List D → (Slot → Prop) → Prop) : Prop := ∀ F ρ I own σ H vs ds Qs Q, Rel F ρ I own σ H → Paired (RepH I H) vs ds → rd ds Qs →
  (∀ s I' H' z, Rel F ρ I' own σ H' → Sub I I' → ResOk F I' own H' z s → Qs s → Q z H') → r vs H Q
def dCall (rd : List D → (Slot → Prop) → Prop) (ta : DTA) : DTE := fun ρ Q => ta ρ fun bs ρ1 => opt (getD' ρ1 bs) fun ds => rd ds fun s => Q s ρ1
theorem se_cb {r : List V → Hp → VK → Prop} {rd : List D → (Slot → Prop) → Prop} (hr : SndC r rd) (ha : SA L us ts) : SE L (tCB r us) (dCall rd ts) := fun F ρ I own σ H Qd Q fo R h k =>
  ha F ρ I own σ H _ _ fo R h fun bs ρ1 I1 own1 H1 vs R1 s1 r1 h1 => by
    obtain ⟨ds, e, h1⟩ := opt_elim h1
    exact hr F ρ1 I1 own1 σ H1 vs ds _ Q R1 (getD'_rep R1 r1 e) h1 fun s I' H' z R' s' r' q => k s ρ1 I' own1 H' z R' (s1.trans s') r' q
theorem de_callB {id : String} {x : Str} {p : Pos} {r : List V → Hp → VK → Prop} {rd : List D → (Slot → Prop) → Prop} (hc : CallR X (.builtin id) r) (hr : SndC r rd) (hg : Gl X x) (hm : X.mg x = none) (hv : bootBuiltins x = some (.builtin id)) (ha : DA X L (a :: es) us ts) (hn : x ≠ "__name__" := by decide) (hdb : (x == ("__debug__" : Str)) = false := by decide)
    (he : starEach (a :: es) X.env = (false, eval a X.env) :: starEach es X.env := by rfl) (hpl : (backTo pos (starEach es X.env)).any (·.1) = false := by rfl) : DE X L (.Call (.Name x p) (a :: es) [] pos) (tCB r us) (dCall rd ts) := ⟨pe_callB hc hg hm hv ha.pe hn hdb he hpl, se_cb hr ha.snd⟩
theorem de_callTy {T : String} {x : Str} {p : Pos} {r : List V → Hp → VK → Prop} {rd : List D → (Slot → Prop) → Prop} (hc : CallR X (.type T) r) (hr : SndC r rd) (hg : Gl X x) (hm : X.mg x = none) (hv : bootBuiltins x = some (.type T)) (ha : DA X L (a :: es) us ts) (hn : x ≠ "__name__" := by decide) (hdb : (x == ("__debug__" : Str)) = false := by decide)
    (he : starEach (a :: es) X.env = (false, eval a X.env) :: starEach es X.env := by rfl) (hpl : (backTo pos (starEach es X.env)).any (·.1) = false := by rfl) : DE X L (.Call (.Name x p) (a :: es) [] pos) (tCB r us) (dCall rd ts) := ⟨pe_callTy hc hg hm hv ha.pe hn hdb he hpl, se_cb hr ha.snd⟩
end
end DL

set_option Elab.async false
set_option linter.all false
set_option maxRecDepth 100000
namespace DL
open PySem PySem.Spec L2
open PyProof.Rows hiding St

section
variable {X : Cx} {K : PySem.W.Frag}
abbrev RC := List D → (Slot → Prop) → Prop
theorem one_of {I H : Hp} {vs : List V} {d : D} (h : Paired (RepH I H) vs [d]) : ∃ v, vs = [v] ∧ RepH I H v d := by
  cases h with
  | cons h r => cases r; exact ⟨_, rfl, h⟩
theorem two_of {I H : Hp} {vs : List V} {d e : D} (h : Paired (RepH I H) vs [d, e]) : ∃ v w, vs = [v, w] ∧ RepH I H v d ∧ RepH I H w e := by
  cases h with
  | cons h r =>
    obtain ⟨w, rfl, h2⟩ := one_of r
    exact ⟨_, _, rfl, h, h2⟩

/-- a list whose items are all ints; all truths -/
def intsOf : List D → Option (List Int)
  | [] => some []
  | .int i :: ds => (intsOf ds).map (i :: ·)
  | _ => none
theorem intsOf_map : ∀ ns : List Int, intsOf (ns.map PyData.int) = some ns
  | [] => rfl
  | n :: ns => by simp only [List.map_cons, intsOf, intsOf_map ns, Option.map_some]
theorem intsOf_some : ∀ {ds : List D} {ns : List Int}, intsOf ds = some ns → ds = ns.map PyData.int
  | [], ns, h => by cases h; rfl
  | d :: ds, ns, h => by
    cases d with
    | int i =>
      simp only [intsOf, Option.map_eq_some_iff] at h
      obtain ⟨ms, h1, rfl⟩ := h
      rw [intsOf_some h1]; rfl
    | _ => cases h
def boolsOf : List D → Option (List Bool)
  | [] => some []
  | .bool i :: ds => (boolsOf ds).map (i :: ·)
  | _ => none
theorem boolsOf_map : ∀ ns : List Bool, boolsOf (ns.map PyData.bool) = some ns
  | [] => rfl
  | n :: ns => by simp only [List.map_cons, boolsOf, boolsOf_map ns, Option.map_some]
theorem boolsOf_some : ∀ {ds : List D} {ns : List Bool}, boolsOf ds = some ns → ds = ns.map PyData.bool
  | [], ns, h => by cases h; rfl
  | d :: ds, ns, h => by
    cases d with
    | bool i =>
      simp only [boolsOf, Option.map_eq_some_iff] at h
      obtain ⟨ms, h1, rfl⟩ := h
      rw [boolsOf_some h1]; rfl
    | _ => cases h

/-- len -/
def cLen : RC := fun ds Q => match ds with
  | [.list xs] => Q (.fz (.int xs.length))
  | [.tuple xs] => Q (.fz (.int xs.length))
  | [.str z] => z.length ≤ sizeLine ∧ Q (.fz (.int z.length))
  | _ => False
theorem sc_len : SndC (fun xs H Q => ∃ x n, xs = [x] ∧ LenV K x H n ∧ Q (.int n) H) cLen := fun F ρ I own σ H vs ds Qs Q R rx h k => by
  unfold cLen at h
  split at h
  · obtain ⟨v, rfl, rv⟩ := one_of rx
    obtain ⟨p, ws, rfl, h1, r1⟩ := rv.lst R.sub
    refine ⟨_, _, rfl, .inl ⟨ws, .of h1, rfl⟩, ?_⟩
    rw [r1.length]
    exact k _ I H _ R (Sub.refl _) (.fz (.int _)) h
  · obtain ⟨v, rfl, rv⟩ := one_of rx
    obtain ⟨p, ws, rfl, h1, r1⟩ := rv.tup
    refine ⟨_, _, rfl, .inr ⟨ws, .of (R.sub _ _ h1), rfl⟩, ?_⟩
    rw [r1.length]
    exact k _ I H _ R (Sub.refl _) (.fz (.int _)) h
  · obtain ⟨v, rfl, rv⟩ := one_of rx
    rw [rv.str]
    exact ⟨_, _, rfl, ⟨h.1, rfl⟩, k _ I H _ R (Sub.refl _) (.fz (.int _)) h.2⟩
  · exact h.elim
/-- sum, max, min of a list of ints -/
def cSum : RC := fun ds Q => match ds with
  | [.list xs] => opt (intsOf xs) fun ns => Q (.fz (.int ns.sum))
  | _ => False
theorem sc_sum : SndC (rSum K) cSum := fun F ρ I own σ H vs ds Qs Q R rx h k => by
  unfold cSum at h
  split at h
  · obtain ⟨v, rfl, rv⟩ := one_of rx
    obtain ⟨p, ws, rfl, h1, r1⟩ := rv.lst R.sub
    obtain ⟨ns, e, h⟩ := opt_elim h
    rw [intsOf_some e] at r1
    rw [r1.ints] at h1
    exact ⟨p, ns, rfl, .of h1, k _ I H _ R (Sub.refl _) (.fz (.int _)) h⟩
  · exact h.elim
def cMax : RC := fun ds Q => match ds with
  | [.list xs] => opt (intsOf xs) fun ns => 0 < ns.length ∧ ∀ m, m ∈ ns → (∀ y ∈ ns, y ≤ m) → Q (.fz (.int m))
  | [.int i, .int j] => Q (.fz (.int (if j > i then j else i)))
  | _ => False
def rMaxU (K : PySem.W.Frag) : List V → Hp → VK → Prop := fun vs H Q => rMax K vs H Q ∨ ∃ i j, vs = [V.int i, V.int j] ∧ Q (.int (if j > i then j else i)) H
theorem cr_maxU (hc : X.calm = true) : CallR X (.builtin "max") (rMaxU X.K) := CallR.or (cr_max hc) (call_max2 hc)
theorem sc_max : SndC (rMaxU K) cMax := fun F ρ I own σ H vs ds Qs Q R rx h k => by
  unfold cMax at h
  split at h
  · obtain ⟨v, rfl, rv⟩ := one_of rx
    obtain ⟨p, ws, rfl, h1, r1⟩ := rv.lst R.sub
    obtain ⟨ns, e, h⟩ := opt_elim h
    rw [intsOf_some e] at r1
    rw [r1.ints] at h1
    exact .inl ⟨p, ns, rfl, .of h1, h.1, fun m hm hy => k _ I H _ R (Sub.refl _) (.fz (.int _)) (h.2 m hm hy)⟩
  · obtain ⟨v, w, rfl, rv, rw'⟩ := two_of rx
    rw [rv.int, rw'.int]
    exact .inr ⟨_, _, rfl, k _ I H _ R (Sub.refl _) (.fz (.int _)) h⟩
  · exact h.elim
def cMin : RC := fun ds Q => match ds with
  | [.list xs] => opt (intsOf xs) fun ns => 0 < ns.length ∧ ∀ m, m ∈ ns → (∀ y ∈ ns, m ≤ y) → Q (.fz (.int m))
  | [.int i, .int j] => Q (.fz (.int (if j < i then j else i)))
  | _ => False
def rMinU (K : PySem.W.Frag) : List V → Hp → VK → Prop := fun vs H Q => rMin K vs H Q ∨ ∃ i j, vs = [V.int i, V.int j] ∧ Q (.int (if j < i then j else i)) H
theorem cr_minU (hc : X.calm = true) : CallR X (.builtin "min") (rMinU X.K) := CallR.or (cr_min hc) (call_min2 hc)
theorem sc_min : SndC (rMinU K) cMin := fun F ρ I own σ H vs ds Qs Q R rx h k => by
  unfold cMin at h
  split at h
  · obtain ⟨v, rfl, rv⟩ := one_of rx
    obtain ⟨p, ws, rfl, h1, r1⟩ := rv.lst R.sub
    obtain ⟨ns, e, h⟩ := opt_elim h
    rw [intsOf_some e] at r1
    rw [r1.ints] at h1
    exact .inl ⟨p, ns, rfl, .of h1, h.1, fun m hm hy => k _ I H _ R (Sub.refl _) (.fz (.int _)) (h.2 m hm hy)⟩
  · obtain ⟨v, w, rfl, rv, rw'⟩ := two_of rx
    rw [rv.int, rw'.int]
    exact .inr ⟨_, _, rfl, k _ I H _ R (Sub.refl _) (.fz (.int _)) h⟩
  · exact h.elim
/-- abs, int, bool, str of an int -/
def cAbs : RC := fun ds Q => match ds with
  | [.int i] => Q (.fz (.int (if i < 0 then -i else i)))
  | _ => False
theorem sc_abs : SndC (fun xs H Q => ∃ i, xs = [.int i] ∧ Q (.int (if i < 0 then -i else i)) H) cAbs := fun F ρ I own σ H vs ds Qs Q R rx h k => by
  unfold cAbs at h
  split at h
  · obtain ⟨v, rfl, rv⟩ := one_of rx
    rw [rv.int]
    exact ⟨_, rfl, k _ I H _ R (Sub.refl _) (.fz (.int _)) h⟩
  · exact h.elim
def cInt : RC := fun ds Q => match ds with
  | [.int i] => Q (.fz (.int i))
  | [.bool b] => Q (.fz (.int (if b then 1 else 0)))
  | _ => False
theorem sc_int : SndC (fun xs H Q => (∃ i, xs = [.int i] ∧ Q (.int i) H) ∨ ∃ k, xs = [.bl k] ∧ Q (.int (if k then 1 else 0)) H) cInt := fun F ρ I own σ H vs ds Qs Q R rx h k => by
  unfold cInt at h
  split at h
  · obtain ⟨v, rfl, rv⟩ := one_of rx
    rw [rv.int]
    exact .inl ⟨_, rfl, k _ I H _ R (Sub.refl _) (.fz (.int _)) h⟩
  · obtain ⟨v, rfl, rv⟩ := one_of rx
    rw [rv.bl]
    exact .inr ⟨_, rfl, k _ I H _ R (Sub.refl _) (.fz (.int _)) h⟩
  · exact h.elim
def cStr : RC := fun ds Q => match ds with
  | [.int i] => i.natAbs.log2 < 1920 ∧ Q (.fz (.str (toString i)))
  | _ => False
theorem sc_str : SndC (fun xs H Q => ∃ i, xs = [.int i] ∧ i.natAbs.log2 < 1920 ∧ Q (.str (toString i)) H) cStr := fun F ρ I own σ H vs ds Qs Q R rx h k => by
  unfold cStr at h
  split at h
  · obtain ⟨v, rfl, rv⟩ := one_of rx
    rw [rv.int]
    exact ⟨_, rfl, h.1, k _ I H _ R (Sub.refl _) (.fz (.str _)) h.2⟩
  · exact h.elim
/-- list(x) -/
def cList : RC := fun ds Q => match ds with
  | [.list xs] => Q (.lst xs)
  | [.tuple xs] => Q (.lst xs)
  | _ => False
theorem sc_list : SndC (fun xs H Q => ∃ p ys, xs = [.ref p] ∧ (SqL K H p ys ∨ SqT K H p ys) ∧ ∀ l, H l = none → Q (.ref l) (upd H l (.lst ys))) cList := fun F ρ I own σ H vs ds Qs Q R rx h k => by
  unfold cList at h
  split at h
  · obtain ⟨v, rfl, rv⟩ := one_of rx
    obtain ⟨p, ws, rfl, h1, r1⟩ := rv.lst R.sub
    exact ⟨p, ws, rfl, .inl (.of h1), fun l hl => k _ I _ _ (R.laid hl) (Sub.refl _) (ResOk.new R hl r1) h⟩
  · obtain ⟨v, rfl, rv⟩ := one_of rx
    obtain ⟨p, ws, rfl, h1, r1⟩ := rv.tup
    exact ⟨p, ws, rfl, .inr (.of (R.sub _ _ h1)), fun l hl => k _ I _ _ (R.laid hl) (Sub.refl _) (ResOk.new R hl r1) h⟩
  · exact h.elim
/-- all, any of a list of truths -/
def cAll : RC := fun ds Q => match ds with
  | [.list xs] => opt (boolsOf xs) fun ns => Q (.fz (.bool (ns.all id)))
  | _ => False
theorem sc_all : SndC (rAll K) cAll := fun F ρ I own σ H vs ds Qs Q R rx h k => by
  unfold cAll at h
  split at h
  · obtain ⟨v, rfl, rv⟩ := one_of rx
    obtain ⟨p, ws, rfl, h1, r1⟩ := rv.lst R.sub
    obtain ⟨ns, e, h⟩ := opt_elim h
    rw [boolsOf_some e] at r1
    rw [r1.bools] at h1
    exact ⟨p, ns, rfl, .of h1, k _ I H _ R (Sub.refl _) (.fz (.bl _)) h⟩
  · exact h.elim
def cAny : RC := fun ds Q => match ds with
  | [.list xs] => opt (boolsOf xs) fun ns => Q (.fz (.bool (ns.any id)))
  | _ => False
theorem sc_any : SndC (rAny K) cAny := fun F ρ I own σ H vs ds Qs Q R rx h k => by
  unfold cAny at h
  split at h
  · obtain ⟨v, rfl, rv⟩ := one_of rx
    obtain ⟨p, ws, rfl, h1, r1⟩ := rv.lst R.sub
    obtain ⟨ns, e, h⟩ := opt_elim h
    rw [boolsOf_some e] at r1
    rw [r1.bools] at h1
    exact ⟨p, ns, rfl, .of h1, k _ I H _ R (Sub.refl _) (.fz (.bl _)) h⟩
  · exact h.elim

inductive TyN where
  | bool | int | str | tuple | list | dict
def TyN.nm : TyN → String
  | .bool => "bool" | .int => "int" | .str => "str" | .tuple => "tuple" | .list => "list" | .dict => "dict"
def tyD : D → String
  | .none => "NoneType" | .bool _ => "bool" | .int _ => "int" | .str _ => "str" | .list _ => "list" | .tuple _ => "tuple" | .dict _ => "dict"
def isTy : TyN → D → Bool
  | .bool, .bool _ => true
  | .int, .int _ => true
  | .int, .bool _ => true
  | .str, .str _ => true
  | .tuple, .tuple _ => true
  | .list, .list _ => true
  | .dict, .dict _ => true
  | _, _ => false
def tagD : D → Fin 7
  | .none => 0 | .bool _ => 1 | .int _ => 2 | .str _ => 3 | .list _ => 4 | .tuple _ => 5 | .dict _ => 6
def tagN : Fin 7 → String
  | 0 => "NoneType" | 1 => "bool" | 2 => "int" | 3 => "str" | 4 => "list" | 5 => "tuple" | 6 => "dict"
def isTag : TyN → Fin 7 → Bool
  | .bool, k => k == 1
  | .int, k => k == 1 || k == 2
  | .str, k => k == 3
  | .tuple, k => k == 5
  | .list, k => k == 4
  | .dict, k => k == 6
theorem kit_tag (t : TyN) : ∀ k : Fin 7, kitB (tagN k) t.nm = some (isTag t k) := by
  cases t
  · decide +kernel
  · decide +kernel
  · decide +kernel
  · decide +kernel
  · decide +kernel
  · decide +kernel
theorem kit_isTy (t : TyN) (d : D) : kitB (tyD d) t.nm = some (isTy t d) := by
  have h := kit_tag t (tagD d)
  have e1 : tagN (tagD d) = tyD d := by cases d <;> rfl
  have e2 : isTag t (tagD d) = isTy t d := by cases t <;> cases d <;> rfl
  rw [e1, e2] at h
  exact h
theorem RepH.tyOf {I H : Hp} {v : V} {d : D} (s : Sub I H) (h : RepH I H v d) : TyX K H v (.type (tyD d)) := by
  rcases h with h | ⟨p, vs, ds, rfl, rfl, h1, _⟩
  · cases h with
    | non => exact .base .non
    | bl b => exact .base (.bl b)
    | int i => exact .base (.int i)
    | str x => exact .base (.str x)
    | lst h _ => exact .base (.lst (s _ _ h))
    | tup h _ => exact .base (.tup (s _ _ h))
  · exact .base (.lst h1)
end
section
variable {X : Cx} {L : List Nat} {a b : Expr} {ua ub : TE} {ta tb : DTB} {pos : Pos}
def dIsi (f : D → Bool) (t : DTB) : DTE := fun ρ Q => t ρ fun b ρ1 => opt (b.get ρ1) fun x => Q (.fz (.bool (f x))) ρ1
theorem de_isi {x : Str} {p q : Pos} (t : TyN) (hg : Gl X "isinstance") (hm : X.mg "isinstance" = none) (ha : DB X L a ua ta) (hb : PE X (.Name x q) (tC (.ty t.nm))) (hs1 : starEach [a, .Name x q] X.env = (false, eval a X.env) :: starEach [.Name x q] X.env := by rfl) (hs2 : starEach [.Name x q] X.env = (false, eval (.Name x q) X.env) :: starEach [] X.env := by rfl)
    (hpl : (backTo pos (starEach [.Name x q] X.env)).any (·.1) = false := by rfl) :
    DE X L (.Call (.Name "isinstance" p) [a, .Name x q] [] pos) (tCB (rIsi X.K) (tCons ua (tCons (tC (.ty t.nm)) tNil))) (dIsi (isTy t) ta) :=
  ⟨pe_callB call_isi hg hm boot_isinstance (pa_cons ha.pe (pa_cons hb pa_nil hs2) hs1) (he := hs1) (hpl := hpl), fun F ρ I own σ H Qd Q fo R h k => ha.snd F ρ I own σ H _ _ fo R h fun b ρ1 I1 own1 H1 v R1 s1 r1 h1 => by
    obtain ⟨d, e, h1⟩ := opt_elim h1
    have rx := r1.rep R1 e
    exact ⟨v, .ty t.nm, _, _, _, rfl, .ty _, rx.tyOf R1.sub, kit_ty (kit_isTy t d), k _ ρ1 I1 own1 H1 _ R1 s1 (.fz (.bl _)) h1⟩⟩
/-- isinstance(x, (A, B)) -/
theorem de_isi2 {x y : Str} {p q q2 q3 : Pos} {z : Nat} (t t2 : TyN) (hg : Gl X "isinstance") (hm : X.mg "isinstance" = none) (ha : DB X L a ua ta) (hb : PE X (.Name x q) (tC (.ty t.nm))) (hb2 : PE X (.Name y q2) (tC (.ty t2.nm)))
    (hs1 : starEach [a, .Tuple [.Name x q, .Name y q2] z q3] X.env = (false, eval a X.env) :: starEach [.Tuple [.Name x q, .Name y q2] z q3] X.env := by rfl) (hs2 : starEach [.Tuple [.Name x q, .Name y q2] z q3] X.env = (false, eval (.Tuple [.Name x q, .Name y q2] z q3) X.env) :: starEach [] X.env := by rfl)
    (hs3 : starEach [.Name x q, .Name y q2] X.env = (false, eval (.Name x q) X.env) :: starEach [.Name y q2] X.env := by rfl) (hs4 : starEach [.Name y q2] X.env = (false, eval (.Name y q2) X.env) :: starEach [] X.env := by rfl)
    (hpl : (backTo pos (starEach [.Tuple [.Name x q, .Name y q2] z q3] X.env)).any (·.1) = false := by rfl) :
    DE X L (.Call (.Name "isinstance" p) [a, .Tuple [.Name x q, .Name y q2] z q3] [] pos) (tCB (rIsiT X.K) (tCons ua (tCons (tTup (tCons (tC (.ty t.nm)) (tCons (tC (.ty t2.nm)) tNil))) tNil))) (dIsi (fun d => isTy t d || isTy t2 d) ta) :=
  ⟨pe_callB call_isiT hg hm boot_isinstance (pa_cons ha.pe (pa_cons (pe_tup (pa_cons hb (pa_cons hb2 pa_nil hs4) hs3)) pa_nil hs2) hs1) (he := hs1) (hpl := hpl), fun F ρ I own σ H Qd Q fo R h k => ha.snd F ρ I own σ H _ _ fo R h fun b ρ1 I1 own1 H1 v R1 s1 r1 h1 => by
    obtain ⟨d, e, h1⟩ := opt_elim h1
    have rx := r1.rep R1 e
    refine ⟨by show 2 ≤ sizeLine; decide, fun tp htp => ?_⟩
    have R2 := R1.laid (o := .tup [.ty t.nm, .ty t2.nm]) htp
    have rx2 : RepH I1 (upd H1 tp (.tup [.ty t.nm, .ty t2.nm])) v d := r1.rep R2 e
    refine ⟨v, tp, _, _, [.type t.nm, .type t2.nm], _, rfl, upd_same, .cons (.ty _) (.cons (.ty _) .nil), rx2.tyOf R2.sub, ?_, k _ ρ1 I1 own1 _ _ R2 s1 (.fz (.bl _)) h1⟩
    refine kitAny_cons (kit_ty (kit_isTy t d)) (fun e0 => kitAny_cons (kit_ty (kit_isTy t2 d)) (fun e1 => ?_) fun e1 => ?_) fun e0 => ?_
    · show _ = some (isTy t d || isTy t2 d); rw [e0, e1]; exact kitAny_nil
    · show (isTy t d || isTy t2 d) = true; rw [e1, Bool.or_true]
    · show (isTy t d || isTy t2 d) = true; rw [e0, Bool.true_or]⟩

def srt (ns : List Int) : List Int := ns.mergeSort fun a b => decide (a ≤ b)
theorem srt_perm (ns : List Int) : (srt ns).Perm ns := List.mergeSort_perm _ _
theorem srt_sorted (ns : List Int) : (srt ns).Pairwise (· ≤ ·) := by
  have h := List.pairwise_mergeSort (le := fun a b : Int => decide (a ≤ b)) (by intro a b c h1 h2; have := of_decide_eq_true h1; have := of_decide_eq_true h2; exact decide_eq_true (by omega)) (by intro a b; rw [Bool.or_eq_true]; by_cases h : a ≤ b; exact .inl (decide_eq_true h); exact .inr (decide_eq_true (by omega))) ns
  exact h.imp fun x => of_decide_eq_true x
theorem srt_of {ns ms : List Int} (p : ms.Perm ns) (s : ms.Pairwise (· ≤ ·)) : ms = srt ns :=
  (p.trans (srt_perm ns).symm).eq_of_pairwise (le := (· ≤ ·)) (by intro a b _ _ h1 h2; omega) s (srt_sorted ns)
def cSorted : RC := fun ds Q => match ds with
  | [.list xs] => opt (intsOf xs) fun ns => Q (.lst ((srt ns).map PyData.int))
  | _ => False
theorem sc_sorted {K : PySem.W.Frag} : SndC (rSortedI K) cSorted := fun F ρ I own σ H vs ds Qs Q R rx h k => by
  unfold cSorted at h
  split at h
  · obtain ⟨v, rfl, rv⟩ := one_of rx
    obtain ⟨p, ws, rfl, h1, r1⟩ := rv.lst R.sub
    obtain ⟨ns, e, h⟩ := opt_elim h
    rw [intsOf_some e] at r1
    rw [r1.ints] at h1
    exact ⟨p, ns, rfl, .of h1, fun ns' q hp hs hq => by rw [srt_of hp hs]; exact k _ I _ _ (R.laid hq) (Sub.refl _) (ResOk.new R hq (.ofInts _)) h⟩
  · exact h.elim

abbrev PSpec := List Slot → (Slot → List Slot → Prop) → Prop
def frozenS : Slot → Bool
  | .un => true
  | .fz _ => true
  | _ => false
/-- a def's promise: the slots as they come; lf: whose things belong to the caller and may be changed -/
def spD (n : Nat) (lf : List Nat) (P : PSpec) : Sp := fun vs H Q _ => vs.length = n ∧ ∃ (as : List Slot) (F : Fx) (own : Addr → Option Nat) (Qd : Slot → List Slot → Prop), as.length = n ∧
  (∀ i, F.fix i = if i ∈ lf then vs[i]? else none) ∧ FOk F lf ∧ (∀ i, i ∉ lf → frozenS (as.getD i .un) = true) ∧ Rel F as F.I0 own (vs.map some) H ∧ P as Qd ∧
  ∀ s as' I' own' H' v, as'.length = n → (∀ i, i ∉ lf → as'.getD i .un = as.getD i .un) → Rel F as' I' own' (vs.map some) H' → ResOk F I' own' H' v s → Qd s as' → Q v H'

/-- the caller's slot that is lent as the j-th argument, and back -/
def fwd (lp : List (Nat × Nat)) (j : Nat) : Option Nat := (lp.find? fun p => p.1 == j).map (·.2)
def bwd (lp : List (Nat × Nat)) (i : Nat) : Option Nat := (lp.find? fun p => p.2 == i).map (·.1)
def lpOk (n : Nat) (lp : List (Nat × Nat)) : Bool := lp.all fun p => decide (p.1 < n) && (decide (bwd lp p.2 = some p.1) && decide (fwd lp p.1 = some p.2))
theorem fwd_mem {lp : List (Nat × Nat)} {j i : Nat} (h : fwd lp j = some i) : (j, i) ∈ lp := by
  unfold fwd at h
  rw [Option.map_eq_some_iff] at h
  obtain ⟨p, h1, rfl⟩ := h
  have := List.find?_some h1
  have e : p.1 = j := by simpa using this
  subst e
  exact List.mem_of_find?_eq_some h1
theorem bwd_mem {lp : List (Nat × Nat)} {j i : Nat} (h : bwd lp i = some j) : (j, i) ∈ lp := by
  unfold bwd at h
  rw [Option.map_eq_some_iff] at h
  obtain ⟨p, h1, rfl⟩ := h
  have := List.find?_some h1
  have e : p.2 = i := by simpa using this
  subst e
  exact List.mem_of_find?_eq_some h1
theorem lpOk_b {n : Nat} {lp : List (Nat × Nat)} (h : lpOk n lp = true) {j i : Nat} (m : (j, i) ∈ lp) : j < n ∧ bwd lp i = some j ∧ fwd lp j = some i := by
  unfold lpOk at h
  rw [List.all_eq_true] at h
  have := h _ m
  rw [Bool.and_eq_true, Bool.and_eq_true] at this
  exact ⟨of_decide_eq_true this.1, of_decide_eq_true this.2.1, of_decide_eq_true this.2.2⟩

/-- the callee's slots -/
def argS (ρ : DEnv) (lp : List (Nat × Nat)) : Nat → List BV → Option (List Slot)
  | _, [] => some []
  | j, b :: bs => match (match fwd lp j, b with
      | some i, .v i' => if i = i' then some (ρ.at i) else none
      | none, .d x => some (.fz x)
      | _, _ => none), argS ρ lp (j + 1) bs with
    | some s, some ss => some (s :: ss)
    | _, _ => none
def backS (lp : List (Nat × Nat)) (as' : List Slot) (ρ : DEnv) : DEnv := lp.foldl (fun ρ p => ρ.set p.2 (as'.getD p.1 .un)) ρ
def tCallD (n : Nat) (lp : List (Nat × Nat)) (P : PSpec) (ta : DTA) : DTE := fun ρ Q => ta ρ fun bs ρ1 => opt (argS ρ1 lp 0 bs) fun as => as.length = n ∧ P as fun s as' => Q s (backS lp as' ρ1)

theorem argS_len {ρ : DEnv} {lp : List (Nat × Nat)} : ∀ {bs : List BV} {j : Nat} {as : List Slot}, argS ρ lp j bs = some as → as.length = bs.length
  | [], _, _, e => by cases e; rfl
  | b :: bs, j, as, e => by
    simp only [argS] at e
    split at e
    · rename_i s ss e1 e2; cases e; simp [argS_len e2]
    · cases e
theorem argS_at {ρ : DEnv} {lp : List (Nat × Nat)} : ∀ {bs : List BV} {j : Nat} {as : List Slot}, argS ρ lp j bs = some as → ∀ (m : Nat) (b : BV), bs[m]? = some b →
    (∃ i, fwd lp (j + m) = some i ∧ b = .v i ∧ as.getD m .un = ρ.at i) ∨ (∃ x, fwd lp (j + m) = none ∧ b = .d x ∧ as.getD m .un = .fz x)
  | [], _, _, e, m, b, hb => by simp at hb
  | c :: bs, j, as, e, m, b, hb => by
    simp only [argS] at e
    split at e
    · rename_i s ss e1 e2
      cases e
      cases m with
      | zero =>
        have : c = b := by simpa using hb
        subst this
        split at e1
        · rename_i i i' hf
          split at e1
          · rename_i he; subst he; cases e1; exact .inl ⟨i, hf, rfl, rfl⟩
          · cases e1
        · rename_i x hf; cases e1; exact .inr ⟨x, hf, rfl, rfl⟩
        · cases e1
      | succ m =>
        have hb' : bs[m]? = some b := by simpa using hb
        have := argS_at e2 m b hb'
        rw [show j + (m + 1) = j + 1 + m from by omega]
        simpa using this
    · cases e
end
end DL

set_option Elab.async false
set_option linter.all false
set_option maxRecDepth 100000
namespace DL
open PySem PySem.Spec L2
open PyProof.Rows hiding St

theorem DEnv.at_out {ρ : DEnv} {i : Nat} (h : ρ.length ≤ i) : ρ.at i = .un := by
  unfold DEnv.at
  rw [List.getD_eq_getElem?_getD, List.getElem?_eq_none h]; rfl
theorem ne_some {α : Type} {o : Option α} {x : α} (h : o = some x) : o ≠ none := by rw [h]; exact fun z => nomatch z
theorem backS_at : ∀ {lp : List (Nat × Nat)} {as' : List Slot} {ρ : DEnv} (i : Nat), (backS lp as' ρ).at i = .un ∨ (∃ j, (j, i) ∈ lp ∧ (backS lp as' ρ).at i = as'.getD j .un) ∨ ((∀ p ∈ lp, p.2 ≠ i) ∧ (backS lp as' ρ).at i = ρ.at i)
  | [], as', ρ, i => .inr (.inr ⟨fun _ h => (nomatch h), rfl⟩)
  | (j0, i0) :: lp, as', ρ, i => by
    have ih := backS_at (lp := lp) (as' := as') (ρ := ρ.set i0 (as'.getD j0 .un)) i
    have e : backS ((j0, i0) :: lp) as' ρ = backS lp as' (ρ.set i0 (as'.getD j0 .un)) := rfl
    rw [e]
    rcases ih with h | ⟨j, hj, h⟩ | ⟨hn, h⟩
    · exact .inl h
    · exact .inr (.inl ⟨j, List.mem_cons_of_mem _ hj, h⟩)
    · by_cases hi : i0 = i
      · subst hi
        by_cases hl : i0 < ρ.length
        · rw [DEnv.at_set_self hl] at h
          exact .inr (.inl ⟨j0, List.mem_cons_self, h⟩)
        · have h2 : DEnv.at (ρ.set i0 (as'.getD j0 .un)) i0 = .un := by rw [List.set_eq_of_length_le (Nat.le_of_not_lt hl), DEnv.at_out (Nat.le_of_not_lt hl)]
          exact .inl (h.trans h2)
      · rw [DEnv.at_set_ne hi] at h
        refine .inr (.inr ⟨fun p hp => ?_, h⟩)
        rcases List.mem_cons.mp hp with rfl | hp
        · exact hi
        · exact hn p hp

theorem backS_len : ∀ {lp : List (Nat × Nat)} {as' : List Slot} {ρ : DEnv}, (backS lp as' ρ).length = ρ.length
  | [], _, _ => rfl
  | (j, i) :: lp, as', ρ => by
    have e : backS ((j, i) :: lp) as' ρ = backS lp as' (ρ.set i (as'.getD j .un)) := rfl
    rw [e, backS_len, List.length_set]
theorem paired_at {α β : Type} {G : α → β → Prop} : ∀ {l₁ : List α} {l₂ : List β}, Paired G l₁ l₂ → ∀ {i : Nat} {a : α}, l₁[i]? = some a → ∃ b, l₂[i]? = some b ∧ G a b
  | _, _, .nil, _, _, e => by simp at e
  | _, _, .cons h r, 0, a, e => by simp at e; subst e; exact ⟨_, rfl, h⟩
  | _, _, .cons h r, i + 1, a, e => by
    obtain ⟨b, h1, h2⟩ := paired_at r (i := i) (a := a) (by simpa using e)
    exact ⟨b, by simpa using h1, h2⟩

theorem se_call {L : List Nat} {n : Nat} {lf : List Nat} {lp : List (Nat × Nat)} {P : PSpec} {ua : TA} {ta : DTA} (hlp : lpOk n lp = true) (hlf : lp.map (·.1) = lf) (ha : SA L ua ta) :
    SE L (tCall (spD n lf P) [] E0 ua) (tCallD n lp P ta) := fun F ρ I own σ H Qd Q fo R h k =>
  ha F ρ I own σ H _ _ fo R h fun bs ρ1 I1 own1 H1 vs R1 s1 r1 h1 => by
    obtain ⟨as, eas, hn, hP⟩ := opt_elim h1
    have lvb : vs.length = bs.length := Paired.length r1
    have lab := argS_len eas
    have lvn : vs.length = n := by omega
    have mlf : ∀ {j i : Nat}, (j, i) ∈ lp → j ∈ lf := fun {j i} m => by rw [← hlf]; exact List.mem_map.mpr ⟨(j, i), m, rfl⟩
    have lfm : ∀ {j : Nat}, j ∈ lf → ∃ i, (j, i) ∈ lp := fun {j} m => by
      rw [← hlf] at m
      obtain ⟨p, hp, rfl⟩ := List.mem_map.mp m
      exact ⟨p.2, hp⟩
    have at_j : ∀ {j : Nat} {v : V}, vs[j]? = some v → (∃ i, (j, i) ∈ lp ∧ fwd lp j = some i ∧ σ[i]? = some (some v) ∧ as.getD j .un = ρ1.at i) ∨ (∃ x, j ∉ lf ∧ Rep I1 v x ∧ as.getD j .un = .fz x) := fun {j v} e => by
      obtain ⟨b, eb, ob⟩ := paired_at r1 e
      have := argS_at eas j b eb
      rw [Nat.zero_add] at this
      rcases this with ⟨i, hf, rfl, ha'⟩ | ⟨x, hf, rfl, ha'⟩
      · exact .inl ⟨i, fwd_mem hf, hf, ob, ha'⟩
      · refine .inr ⟨x, fun m => ?_, ob, ha'⟩
        obtain ⟨i, hi⟩ := lfm m
        rw [(lpOk_b hlp hi).2.2] at hf
        cases hf
    have vat : ∀ {j : Nat}, j < n → ∃ v, vs[j]? = some v := fun {j} hj => ⟨vs[j]'(by omega), List.getElem?_eq_getElem (by omega)⟩
    have atv : ∀ {j : Nat} {v : V}, vs[j]? = some v → j < n := fun {j v} e => by
      have := (List.getElem?_eq_some_iff.mp e).1; omega
    show spD n lf P (vs ++ []) H1 Q E0
    rw [List.append_nil]
    refine ⟨lvn, as, ⟨I1, H1, fun a => (own1 a).bind (bwd lp), fun i => if i ∈ lf then vs[i]? else none⟩, fun a => (own1 a).bind (bwd lp), fun s as' => Qd s (backS lp as' ρ1), hn, fun i => rfl, ⟨fun i hi => ?_, fun a i e => ?_, fun a z => ?_⟩, fun i hi => ?_, ?_, hP, ?_⟩
    · by_cases m : i ∈ lf
      · exact m
      · exact absurd (if_neg m) hi
    · rw [Option.bind_eq_some_iff] at e
      obtain ⟨i', _, e2⟩ := e
      exact mlf (bwd_mem e2)
    · exact R1.live a fun e => z (by show (own1 a).bind (bwd lp) = none; rw [e]; rfl)
    · by_cases hl : i < n
      · obtain ⟨v, ev⟩ := vat hl
        rcases at_j ev with ⟨i', m, _⟩ | ⟨x, _, _, e⟩
        · exact absurd (mlf m) hi
        · rw [e]; rfl
      · have : as.getD i .un = .un := DEnv.at_out (ρ := as) (by omega)
        rw [this]; rfl
    · have ne1 : ∀ a, (own1 a).bind (bwd lp) ≠ none → own1 a ≠ none := fun a z e => z (by rw [e]; rfl)
      refine ⟨R1.sub, fun a o e _ => e, fun a z => z, fun a z => R1.imm a (ne1 a z), fun a i e => .inr e, fun a z => R1.live a (ne1 a z), fun a z => .inr (.inl z), Sub.refl _, fun i v e => ?_, by rw [List.length_map]; omega, fun i => ?_⟩
      · have e' : (if i ∈ lf then vs[i]? else none) = some v := e
        by_cases m : i ∈ lf
        · rw [if_pos m] at e'
          rw [List.getElem?_map, e']; rfl
        · rw [if_neg m] at e'; cases e'
      · by_cases hl : i < n
        · obtain ⟨v, ev⟩ := vat hl
          rcases at_j ev with ⟨i', m, hf, hσ, e⟩ | ⟨x, _, rx, e⟩
          · rcases R1.slots i' with z | ⟨w, z, q⟩
            · exact .inl (e.trans z)
            · rw [hσ] at z; cases z
              refine .inr ⟨v, by rw [List.getElem?_map, ev]; rfl, ?_⟩
              have e' : DEnv.at as i = ρ1.at i' := e
              rw [e']
              refine q.frame (fun a z => ?_) (Sub.refl _) fun _ _ => rfl
              show (own1 a).bind (bwd lp) = some i
              rw [z]; exact (lpOk_b hlp m).2.1
          · refine .inr ⟨v, by rw [List.getElem?_map, ev]; rfl, ?_⟩
            have e' : DEnv.at as i = .fz x := e
            rw [e']
            exact rx
        · exact .inl (DEnv.at_out (by omega))
    · intro s as' I' own2 H' v hl' _ R2 r2 hq
      have H0n : ∀ a, H1 a = none → F.H0 a = none := fun a z => by
        cases e : F.H0 a with
        | none => rfl
        | some o => exact absurd z (R1.there a (ne_some e))
      have o2 : ∀ a j, own2 a = some j → H1 a = none ∨ ∃ i, own1 a = some i ∧ bwd lp i = some j := fun a j e => by
        rcases R2.new a j e with z | z
        · exact .inl z
        · have z' : (own1 a).bind (bwd lp) = some j := z
          rw [Option.bind_eq_some_iff] at z'
          exact .inr z'
      let own3 : Addr → Option Nat := fun a => match own2 a with
        | some j => fwd lp j
        | none => match own1 a with
          | some i => if bwd lp i = none then some i else none
          | none => none
      have o3 : ∀ a i, own3 a = some i → (∃ j, own2 a = some j ∧ fwd lp j = some i) ∨ (own2 a = none ∧ own1 a = some i ∧ bwd lp i = none) := fun a i e => by
        have e' : (match own2 a with
        | some j => fwd lp j
        | none => match own1 a with
          | some i => if bwd lp i = none then some i else none
          | none => none) = some i := e
        split at e'
        · rename_i j hj; exact .inl ⟨j, hj, e'⟩
        · rename_i hj
          split at e'
          · rename_i i' hi
            split at e'
            · rename_i hb; cases e'; exact .inr ⟨hj, hi, hb⟩
            · cases e'
          · cases e'
      have o3a : ∀ a j i, own2 a = some j → fwd lp j = some i → own3 a = some i := fun a j i e f => by
        show (match own2 a with
        | some j => fwd lp j
        | none => _) = some i
        rw [e]; exact f
      have keep : ∀ a i, own1 a = some i → bwd lp i = none → own2 a = none := fun a i e b => by
        cases e2 : own2 a with
        | none => rfl
        | some j =>
          rcases o2 a j e2 with z | ⟨i', z, z2⟩
          · exact absurd z (R1.live a (ne_some e))
          · rw [e] at z; cases z; rw [b] at z2; cases z2
      have o3b : ∀ a i, own1 a = some i → bwd lp i = none → own3 a = some i := fun a i e b => by
        show (match own2 a with
        | some j => fwd lp j
        | none => match own1 a with
          | some i => if bwd lp i = none then some i else none
          | none => none) = some i
        rw [keep a i e b, e]
        exact if_pos b
      have mun : ∀ a i, own1 a = some i → bwd lp i = none → (own1 a).bind (bwd lp) = none := fun a i e b => by rw [e]; exact b
      have R3 : Rel F (backS lp as' ρ1) I' own3 σ H' := by
        refine ⟨R2.sub, fun a o e m => ?_, fun a z => R2.there a (R1.there a z), fun a z => ?_, fun a i e => ?_, fun a z => ?_, fun a z => ?_, R1.i0.trans R2.i0, R1.fix, by rw [backS_len]; exact R1.len, fun i => ?_⟩
        · refine R2.frame a o (R1.frame a o e m) ?_
          cases e1 : own1 a with
          | none => show (own1 a).bind (bwd lp) = none; rw [e1]; rfl
          | some i =>
            rcases R1.new a i e1 with z | z
            · rw [e] at z; cases z
            · rw [m] at z; cases z
        · cases e3 : own3 a with
          | none => exact absurd e3 z
          | some i =>
            rcases o3 a i e3 with ⟨j, h2, _⟩ | ⟨h2, h1', hb⟩
            · exact R2.imm a (ne_some h2)
            · cases e4 : I' a with
              | none => rfl
              | some o =>
                rcases R2.inew a (ne_some e4) with y | y | y
                · exact absurd y (R1.live a (ne_some h1'))
                · exact absurd (R1.imm a (ne_some h1')) y
                · exact absurd (mun a i h1' hb) y
        · rcases o3 a i e with ⟨j, h2, hf⟩ | ⟨h2, h1', hb⟩
          · rcases o2 a j h2 with z | ⟨i', z, z2⟩
            · exact .inl (H0n a z)
            · have : i' = i := by
                have := (lpOk_b hlp (bwd_mem z2)).2.2
                rw [hf] at this; exact (Option.some.inj this).symm
              subst this
              exact R1.new a i' z
          · exact R1.new a i h1'
        · cases e3 : own3 a with
          | none => exact absurd e3 z
          | some i =>
            rcases o3 a i e3 with ⟨j, h2, _⟩ | ⟨h2, h1', hb⟩
            · exact R2.live a (ne_some h2)
            · exact R2.there a (R1.live a (ne_some h1'))
        · rcases R2.inew a z with y | y | y
          · exact .inl (H0n a y)
          · exact R1.inew a y
          · have y' : (own1 a).bind (bwd lp) ≠ none := y
            cases e1 : own1 a with
            | none => rw [e1] at y'; exact absurd rfl y'
            | some i =>
              rcases R1.new a i e1 with q | q
              · exact .inl q
              · exact .inr (.inr (ne_some q))
        · rcases backS_at (lp := lp) (as' := as') (ρ := ρ1) i with e | ⟨j, m, e⟩ | ⟨nl, e⟩
          · exact .inl e
          · rw [e]
            rcases R2.slots j with z | ⟨w, z, q⟩
            · exact .inl z
            · obtain ⟨v', ev⟩ := vat (lpOk_b hlp m).1
              rw [List.getElem?_map, ev] at z
              have ew : v' = w := by simpa using z
              subst ew
              rcases at_j ev with ⟨i', m', hf, hσ, _⟩ | ⟨x, hx, _⟩
              · have : i' = i := by
                  have := (lpOk_b hlp m).2.2
                  rw [hf] at this; exact Option.some.inj this
                subst this
                exact .inr ⟨v', hσ, q.frame (fun a y => o3a a j i' y hf) (Sub.refl _) fun _ _ => rfl⟩
              · exact absurd (mlf m) hx
          · rw [e]
            rcases R1.slots i with z | ⟨w, z, q⟩
            · exact .inl z
            · have hb : bwd lp i = none := by
                cases e2 : bwd lp i with
                | none => rfl
                | some j => exact absurd rfl (nl _ (bwd_mem e2))
              refine .inr ⟨w, z, q.frame (fun a y => o3b a i y hb) R2.i0 fun a y => ?_⟩
              cases e4 : H1 a with
              | none => exact absurd e4 (R1.live a (ne_some y))
              | some o => exact R2.frame a o e4 (mun a i y hb)
      refine k s _ I' own3 H' v R3 (s1.trans R2.i0) ?_ hq
      obtain ⟨S, hS, hv⟩ := r2
      refine ⟨S, fun a sa => ?_, hv⟩
      obtain ⟨n1, n2, n3, n4⟩ := hS a sa
      have n3 : H1 a = none := n3
      refine ⟨n1, ?_, H0n a n3, n4⟩
      cases e3 : own3 a with
      | none => rfl
      | some i =>
        rcases o3 a i e3 with ⟨j, h2, _⟩ | ⟨_, h1', _⟩
        · rw [n2] at h2; cases h2
        · exact absurd n3 (R1.live a (ne_some h1'))

section
variable {X : Cx} {L : List Nat} {a e : Expr} {es : List Expr} {pos : Pos} {ua : TA} {ta : DTA}
theorem de_call {CX : CXT} {k n : Nat} {f : Addr} {fd : FuncData} {ps : List Str} {lf : List Nat} {P : PSpec} {x : Str} {p : Pos} (lp : List (Nat × Nat)) (G : FnOk X.prog X.w X.K X.mg X.base CX k f fd ps (spD n lf P)) (hr : Room k X.A) (hg : Gl X x) (hm : X.mg x = some (.ref f)) (hk : PySem.W.keepIn X.K (.ref f) = true)
    (hb : Binds X.K fd ps []) (hx : Passes CX X E0) (ha : DA X L (a :: es) ua ta) (hlp : lpOk n lp = true := by rfl) (hlf : lp.map (·.1) = lf := by rfl) (hdb : (x == ("__debug__" : Str)) = false := by decide)
    (he : starEach (a :: es) X.env = (false, eval a X.env) :: starEach es X.env := by rfl) (hpl : (backTo pos (starEach es X.env)).any (·.1) = false := by rfl) :
    DE X L (.Call (.Name x p) (a :: es) [] pos) (tCall (spD n lf P) [] E0 ua) (tCallD n lp P ta) :=
  ⟨pe_call G hr hg hm hk hb .nil hx ha.pe hdb he hpl, se_call hlp hlf ha.snd⟩
end
end DL

set_option Elab.async false
set_option linter.all false
set_option maxRecDepth 100000
namespace DL
open PySem PySem.Spec L2
open PyProof.Rows hiding St

structure DEnds where
  nx : DEnv → Prop
  rt : Slot → DEnv → Prop
  bk : DEnv → Prop := fun _ => False
  ct : DEnv → Prop := fun _ => False
abbrev DTS := DEnds → DEnv → Prop
structure Lnk (F : Fx) (I : Hp) (D : Ends) (Dd : DEnds) : Prop where
  nx : ∀ ρ I' own σ H, Rel F ρ I' own σ H → Sub I I' → Dd.nx ρ → D.nx σ H
  bk : ∀ ρ I' own σ H, Rel F ρ I' own σ H → Sub I I' → Dd.bk ρ → D.bk σ H
  ct : ∀ ρ I' own σ H, Rel F ρ I' own σ H → Sub I I' → Dd.ct ρ → D.ct σ H
  rt : ∀ s ρ I' own σ H v, Rel F ρ I' own σ H → Sub I I' → ResOk F I' own H v s → Dd.rt s ρ → D.rt v H
theorem Lnk.mono {F : Fx} {I I' : Hp} {D : Ends} {Dd : DEnds} (h : Lnk F I D Dd) (s : Sub I I') : Lnk F I' D Dd :=
  ⟨fun ρ J own σ H R s' => h.nx ρ J own σ H R (s.trans s'), fun ρ J own σ H R s' => h.bk ρ J own σ H R (s.trans s'), fun ρ J own σ H R s' => h.ct ρ J own σ H R (s.trans s'), fun t ρ J own σ H v R s' => h.rt t ρ J own σ H v R (s.trans s')⟩
def SS (L : List Nat) (u : TS) (t : DTS) : Prop := ∀ F ρ I own σ H D Dd, FOk F L → Rel F ρ I own σ H → t Dd ρ → Lnk F I D Dd → u D σ H
structure DS (X : Cx) (L : List Nat) (st : Stmt) (u : TS) (t : DTS) : Prop where
  ps : PS X st u
  snd : SS L u t
structure DSs (X : Cx) (L : List Nat) (st : List Stmt) (u : TS) (t : DTS) : Prop where
  ps : PSs X st u
  snd : SS L u t

/-- a value that has come is laid into a slot -/
theorem Rel.assign {F : Fx} {L : List Nat} {ρ : DEnv} {I : Hp} {own : Addr → Option Nat} {σ : St} {H : Hp} {v : V} {s : Slot} {i : Nat} (fo : FOk F L) (hi : i ∉ L) (R : Rel F ρ I own σ H) (r : ResOk F I own H v s) : ∃ own', Rel F (ρ.set i s) I own' (σ.set i (some v)) H := by
  obtain ⟨S, hS, hv⟩ := r
  classical
  have o3 : ∀ a j, (if S a then some i else own a) = some j → (S a ∧ i = j) ∨ own a = some j := fun a j e => by
    by_cases h : S a
    · rw [if_pos h] at e; cases e; exact .inl ⟨h, rfl⟩
    · rw [if_neg h] at e; exact .inr e
  have on : ∀ a, (if S a then some i else own a) ≠ none → S a ∨ own a ≠ none := fun a e => by
    by_cases h : S a
    · exact .inl h
    · rw [if_neg h] at e; exact .inr e
  have hfix : F.fix i = none := by
    cases e : F.fix i with
    | none => rfl
    | some v => exact absurd (fo.1 i (ne_some e)) hi
  refine ⟨fun a => if S a then some i else own a, R.sub, R.frame, R.there, fun a e => ?_, fun a j e => ?_, fun a e => ?_, R.inew, R.i0, fun j w e => ?_, by rw [List.length_set, List.length_set]; exact R.len, fun j => ?_⟩
  · rcases on a e with h | h
    · exact (hS a h).1
    · exact R.imm a h
  · rcases o3 a j e with ⟨h, _⟩ | h
    · exact .inl (hS a h).2.2.1
    · exact R.new a j h
  · rcases on a e with h | h
    · exact (hS a h).2.2.2
    · exact R.live a h
  · rw [List.getElem?_set_ne (fun z => by subst z; rw [hfix] at e; cases e)]
    exact R.fix j w e
  · by_cases hj : i = j
    · subst hj
      by_cases hl : i < ρ.length
      · rw [DEnv.at_set_self hl]
        refine .inr ⟨v, by rw [List.getElem?_set_self (Nat.lt_of_lt_of_le hl R.len)], hv.frame (fun a z => if_pos z) (Sub.refl _) fun _ _ => rfl⟩
      · exact .inl (DEnv.at_out (by rw [List.length_set]; omega))
    · rw [DEnv.at_set_ne hj, List.getElem?_set_ne hj]
      rcases R.slots j with e | ⟨w, e, q⟩
      · exact .inl e
      · refine .inr ⟨w, e, q.frame (fun a z => ?_) (Sub.refl _) fun _ _ => rfl⟩
        show (if S a then some i else own a) = some j
        by_cases h : S a
        · rw [(hS a h).2.1] at z; cases z
        · rw [if_neg h]; exact z

/-- slots forgotten -/
def Wkr : DEnv → DEnv → Prop
  | [], _ => True
  | .un :: a, _ :: b => Wkr a b
  | s :: a, t :: b => s = t ∧ Wkr a b
  | _ :: _, [] => False
theorem Wkr.at : ∀ {a b : DEnv}, Wkr a b → ∀ i, a.at i = .un ∨ a.at i = b.at i
  | [], _, _, i => .inl (DEnv.at_out (Nat.zero_le _))
  | s :: a, t :: b, h, 0 => by
    cases s with
    | un => exact .inl rfl
    | _ => exact .inr h.1
  | s :: a, t :: b, h, i + 1 => by
    have h' : Wkr a b := by
      cases s with
      | un => exact h
      | _ => exact h.2
    exact Wkr.at h' i
  | s :: a, [], h, _ => by
    cases s <;> exact h.elim
theorem Wkr.len : ∀ {a b : DEnv}, Wkr a b → a.length ≤ b.length
  | [], _, _ => Nat.zero_le _
  | s :: a, t :: b, h => by
    have h' : Wkr a b := by
      cases s with
      | un => exact h
      | _ => exact h.2
    have := Wkr.len h'
    simp only [List.length_cons]; omega
  | s :: a, [], h => by cases s <;> exact h.elim
theorem Rel.wk {F : Fx} {ρ ρ' : DEnv} {I : Hp} {own : Addr → Option Nat} {σ : St} {H : Hp} (R : Rel F ρ I own σ H) (w : Wkr ρ' ρ) : Rel F ρ' I own σ H :=
  ⟨R.sub, R.frame, R.there, R.imm, R.new, R.live, R.inew, R.i0, R.fix, Nat.le_trans w.len R.len, fun j => by
    rcases w.at j with e | e
    · exact .inl e
    · rw [e]; exact R.slots j⟩
def Wk (P : DEnv → Prop) : DEnv → Prop := fun ρ => ∃ ρ', Wkr ρ' ρ ∧ P ρ'
theorem Wkr.refl : ∀ ρ : DEnv, Wkr ρ ρ
  | [] => trivial
  | s :: a => by
    have := Wkr.refl a
    cases s with
    | un => exact this
    | _ => exact ⟨rfl, this⟩

section
variable {X : Cx} {L : List Nat} {st : Stmt} {rest : List Stmt} {u u2 : TS} {t t2 : DTS} {e : Expr} {ue : TE} {te : DTE} {pos : Pos}
def dNext : DTS := fun D ρ => D.nx ρ
def dSeq (t u : DTS) : DTS := fun D ρ => t { D with nx := u D } ρ
theorem dss_nil : DSs X L [] tNext dNext := ⟨pss_nil, fun F ρ I own σ H D Dd _ R h k => k.nx ρ I own σ H R (Sub.refl _) h⟩
theorem ss_seq (h1 : SS L u t) (h2 : SS L u2 t2) : SS L (tSeq u u2) (dSeq t t2) := fun F ρ I own σ H D Dd fo R h k =>
  h1 F ρ I own σ H _ _ fo R h ⟨fun ρ' I' own' σ' H' R' s h' => h2 F ρ' I' own' σ' H' D Dd fo R' h' (k.mono s), k.bk, k.ct, k.rt⟩
theorem dss_cons (h1 : DS X L st u t) (h2 : DSs X L rest u2 t2) : DSs X L (st :: rest) (tSeq u u2) (dSeq t t2) := ⟨pss_cons h1.ps h2.ps, ss_seq h1.snd h2.snd⟩
theorem dss_one (h1 : DS X L st u t) : DSs X L [st] u t := ⟨pss_one h1.ps, h1.snd⟩
def dBreak : DTS := fun D ρ => D.bk ρ
def dCont : DTS := fun D ρ => D.ct ρ
theorem ds_pass : DS X L (.Pass pos) tNext dNext := ⟨ps_pass, fun F ρ I own σ H D Dd _ R h k => k.nx ρ I own σ H R (Sub.refl _) h⟩
theorem ds_break : DS X L (.Break pos) tBreak dBreak := ⟨ps_break, fun F ρ I own σ H D Dd _ R h k => k.bk ρ I own σ H R (Sub.refl _) h⟩
theorem ds_continue : DS X L (.Continue pos) tCont dCont := ⟨ps_continue, fun F ρ I own σ H D Dd _ R h k => k.ct ρ I own σ H R (Sub.refl _) h⟩
def dNever : DTS := fun _ _ => False
theorem ds_never : DS X L st tNever dNever := ⟨ps_never, fun F ρ I own σ H D Dd _ R h k => h.elim⟩
theorem dss_never {sts : List Stmt} : DSs X L sts tNever dNever := ⟨pss_never, fun F ρ I own σ H D Dd _ R h k => h.elim⟩
def dDrop (t : DTE) : DTS := fun D ρ => t ρ fun _ ρ1 => D.nx ρ1
theorem ds_expr (he : DE X L e ue te) (hs : swapsWith e none pos.line X.env = pure false := by rfl) : DS X L (.Expr e pos) (tDrop ue) (dDrop te) := ⟨ps_expr he.pe hs, fun F ρ I own σ H D Dd fo R h k =>
  he.snd F ρ I own σ H _ _ fo R h fun s ρ1 I1 own1 H1 v R1 s1 r1 h1 => k.nx ρ1 I1 own1 σ H1 R1 s1 h1⟩
def dRet (t : DTE) : DTS := fun D ρ => t ρ D.rt
theorem ds_ret (he : DE X L e ue te) : DS X L (.Return (some e) pos) (tRet ue) (dRet te) := ⟨ps_ret he.pe, fun F ρ I own σ H D Dd fo R h k =>
  he.snd F ρ I own σ H _ _ fo R h fun s ρ1 I1 own1 H1 v R1 s1 r1 h1 => k.rt s ρ1 I1 own1 σ H1 v R1 s1 r1 h1⟩
def dRetN : DTS := fun D ρ => D.rt (.fz .none) ρ
theorem ds_retN : DS X L (.Return none pos) tRetN dRetN := ⟨ps_retN, fun F ρ I own σ H D Dd fo R h k => k.rt _ ρ I own σ H _ R (Sub.refl _) (.fz .non) h⟩
def dIfS (c : DTT) (t u : DTS) : DTS := fun D ρ => c ρ fun b ρ1 => if b = true then t D ρ1 else u D ρ1
theorem ds_if {c : Expr} {a b : List Stmt} {uc : TT} {tc : DTT} (hc : DT X L c uc tc) (ha : DSs X L a u t) (hb : DSs X L b u2 t2) : DS X L (.If c a b pos) (tIfS uc u u2) (dIfS tc t t2) := ⟨ps_if hc.pe ha.ps hb.ps, fun F ρ I own σ H D Dd fo R h k =>
  hc.snd F ρ I own σ H _ _ fo R h fun c ρ1 I1 own1 H1 R1 s1 h1 => by
    cases c with
    | true => exact ha.snd F ρ1 I1 own1 σ H1 D Dd fo R1 h1 (k.mono s1)
    | false => exact hb.snd F ρ1 I1 own1 σ H1 D Dd fo R1 h1 (k.mono s1)⟩

def dSet (i : Nat) (t : DTE) : DTS := fun D ρ => t ρ fun s ρ1 => D.nx (ρ1.set i s)
theorem ss_set {i : Nat} (hi : i ∉ L) (he : SE L ue te) : SS L (tAsg ue (gName i)) (dSet i te) := fun F ρ I own σ H D Dd fo R h k =>
  he F ρ I own σ H _ _ fo R h fun s ρ1 I1 own1 H1 v R1 s1 r1 h1 => by
    obtain ⟨own2, R2⟩ := R1.assign fo hi r1
    exact k.nx _ I1 own2 _ H1 R2 s1 h1
theorem ds_set (i : Nat) {x : Str} {pos' : Pos} (hN : X.N.Nodup) (he : DE X L e ue te) (hL : i ∉ L := by decide) (hi : X.N[i]? = some x := by rfl) (hx : Loc X.env.scope x := by first | exact Or.inl rfl | exact Or.inr rfl) (hs : swapsWith e (some (.Name x pos')) pos.line X.env = pure false := by rfl) (hf : X.fn x = true ∨ X.env.scope.names.lookup x = some .local := by first | exact .inl rfl | exact .inr rfl | assumption) :
    DS X L (.Assign [.Name x pos'] e pos) (tAsg ue (gName i)) (dSet i te) := ⟨ps_set (i := i) hN hi hx he.pe hs hf, ss_set hL he.snd⟩

abbrev DTG := D → DEnv → (DEnv → Prop) → Prop
structure SG (L js : List Nat) (g : TG) (gd : DTG) : Prop where
  run : ∀ F ρ I own σ H d v Qd (Q : St → Hp → Prop), FOk F L → Rel F ρ I own σ H → Rep I v d → gd d ρ Qd → (∀ ρ' own' σ', Rel F ρ' I own' σ' H → σ'.length = σ.length → (∀ i, i ∉ js → σ'[i]? = σ[i]?) → Qd ρ' → Q σ' H) → g v σ H Q
structure DG (X : Cx) (L js : List Nat) (tg : Expr) (g : TG) (gd : DTG) : Prop where
  pg : PG X tg g
  snd : SG L js g gd
def gNm (i : Nat) : DTG := fun d ρ Q => Q (ρ.set i (.fz d))
theorem dg_name (i : Nat) {x : Str} {p : Pos} (hN : X.N.Nodup) (hL : i ∉ L := by decide) (hi : X.N[i]? = some x := by rfl) (hx : Loc X.env.scope x := by first | exact Or.inl rfl | exact Or.inr rfl) (hf : X.fn x = true ∨ X.env.scope.names.lookup x = some .local := by first | exact .inl rfl | exact .inr rfl | assumption) : DG X L [i] (.Name x p) (gName i) (gNm i) :=
  ⟨pg_name hN hi hx hf, ⟨fun F ρ I own σ H d v Qd Q fo R r h k => by
    obtain ⟨own2, R2⟩ := R.assign fo hL (.fz r)
    exact k _ own2 _ R2 (List.length_set ..) (fun j hj => List.getElem?_set_ne fun e => hj (by rw [e]; exact List.mem_singleton_self _)) h⟩⟩
abbrev DTGs := List D → DEnv → (DEnv → Prop) → Prop
structure DGs (X : Cx) (L js : List Nat) (tgs : List Expr) (g : TGs) (gd : DTGs) : Prop where
  pg : PGs X tgs g
  snd : ∀ F ρ I own σ H ds vs Qd (Q : St → Hp → Prop), FOk F L → Rel F ρ I own σ H → RepL I vs ds → gd ds ρ Qd → (∀ ρ' own' σ', Rel F ρ' I own' σ' H → σ'.length = σ.length → (∀ i, i ∉ js → σ'[i]? = σ[i]?) → Qd ρ' → Q σ' H) → g vs σ H Q
def gsNil : DTGs := fun ds ρ Q => match ds with
  | [] => Q ρ
  | _ => False
def gsCons (g : DTG) (r : DTGs) : DTGs := fun ds ρ Q => match ds with
  | d :: ds => g d ρ fun ρ1 => r ds ρ1 Q
  | [] => False
theorem dgs_nil : DGs X L [] [] gNil gsNil := ⟨pgs_nil, fun F ρ I own σ H ds vs Qd Q fo R r h k => by
  cases r with
  | nil => exact ⟨rfl, k ρ own σ R rfl (fun _ _ => rfl) h⟩
  | cons _ _ => exact h.elim⟩
theorem dgs_cons {js js2 : List Nat} {tg : Expr} {tgs : List Expr} {g : TG} {gs : TGs} {gd : DTG} {gds : DTGs} (h1 : DG X L js tg g gd) (h2 : DGs X L js2 tgs gs gds) (hs : (assignEach (tg :: tgs) X.env).map (·.2) = assign tg X.env :: (assignEach tgs X.env).map (·.2) := by rfl) :
    DGs X L (js ++ js2) (tg :: tgs) (gCons g gs) (gsCons gd gds) := ⟨pgs_cons h1.pg h2.pg hs, fun F ρ I own σ H ds vs Qd Q fo R r h k => by
  cases r with
  | nil => exact h.elim
  | cons r1 r2 =>
    refine ⟨_, _, rfl, h1.snd.run F ρ I own σ H _ _ _ _ fo R r1 h fun ρ1 own1 σ1 R1 l1 k1 h1' => ?_⟩
    exact h2.snd F ρ1 I own1 σ1 H _ _ Qd Q fo R1 r2 h1' fun ρ2 own2 σ2 R2 l2 k2 h2' => k ρ2 own2 σ2 R2 (l2.trans l1) (fun i hi => by
      rw [List.mem_append, not_or] at hi
      rw [k2 i hi.2, k1 i hi.1]) h2'⟩
def gTp (n : Nat) (g : DTGs) : DTG := fun d ρ Q => match d with
  | .tuple ds => ds.length = n ∧ g ds ρ Q
  | _ => False
theorem asE_len : ∀ (es : List Expr) (env : Env), (assignEach es env).length = es.length
  | [], _ => rfl
  | e :: es, env => by
    cases e <;> (unfold assignEach; rw [List.length_cons, List.length_cons, asE_len es env])
theorem dg_tup {js : List Nat} {es : List Expr} {k : Nat} {g : TGs} {gd : DTGs} {p : Pos} (hc : X.calm = true) (h : DGs X L js es g gd) (hst : (assignEach es X.env).findIdx? (·.1) = none := by rfl) :
    DG X L js (.Tuple es k p) (gTup X.K es.length g) (gTp es.length gd) := ⟨pg_tup hc h.pg (asE_len _ _) hst, ⟨fun F ρ I own σ H d v Qd Q fo R r hh kk => by
  cases r with
  | tup h1 r1 => exact ⟨_, _, rfl, .of (R.sub _ _ h1), by rw [r1.length]; exact hh.1, h.snd F ρ I own σ H _ _ Qd Q fo R r1 hh.2 kk⟩
  | _ => exact hh.elim⟩⟩
/-- target = value, the value data -/
def dAsg (t : DTE) (g : DTG) : DTS := fun D ρ => t ρ fun s ρ1 => opt (frzS s) fun d => g d ρ1 D.nx
theorem ds_asg {js : List Nat} {tg : Expr} {g : TG} {gd : DTG} (he : DE X L e ue te) (hg : DG X L js tg g gd) (hs : swapsWithSole [tg] e pos.line X.env = pure false := by rfl) (hw : swappedStores [tg] e X.env = pure none := by rfl)
    (h1 : (assignEach [tg] X.env).map (·.2) = [assign tg X.env] := by rfl) : DS X L (.Assign [tg] e pos) (tAsg ue g) (dAsg te gd) := ⟨ps_asg he.pe hg.pg hs hw h1, fun F ρ I own σ H D Dd fo R h k =>
  he.snd F ρ I own σ H _ _ fo R h fun s ρ1 I1 own1 H1 v R1 s1 r1 h1 => by
    obtain ⟨d, e, h1⟩ := opt_elim h1
    obtain ⟨I2, R2, s2, r2⟩ := r1.freeze R1 e
    exact hg.snd.run F ρ1 I2 own1 σ H1 d v _ _ fo R2 r2 h1 fun ρ3 own3 σ3 R3 _ _ h3 => k.nx ρ3 I2 own3 σ3 H1 R3 (s1.trans s2) h3⟩

theorem Rel.mutate {F : Fx} {ρ : DEnv} {I : Hp} {own : Addr → Option Nat} {σ : St} {H : Hp} (R : Rel F ρ I own σ H) {i : Nat} {v : V} {ds : List D} (hρ : ρ.at i = .lst ds) (hσ : σ[i]? = some (some v)) :
    ∃ p vs, v = .ref p ∧ H p = some (.lst vs) ∧ RepL I vs ds ∧ ∀ ws es, RepL I ws es → Rel F (ρ.set i (.lst es)) I own σ (upd H p (.lst ws)) := by
  rcases R.slots i with z | ⟨w, z, q⟩
  · rw [hρ] at z; cases z
  · rw [hσ] at z; cases z
    rw [hρ] at q
    obtain ⟨p, vs, rfl, hp, h1, h2⟩ := q
    refine ⟨p, vs, rfl, h1, h2, fun ws es r => ?_⟩
    have hn : I p = none := R.imm p (ne_some hp)
    have ok : ∀ a, H a ≠ none → upd H p (.lst ws) a ≠ none := fun a z => by
      by_cases e : a = p
      · subst e; rw [upd_same]; exact fun y => nomatch y
      · rw [upd_ne e]; exact z
    refine ⟨fun a o e => ?_, fun a o e m => ?_, fun a z => ok a (R.there a z), R.imm, R.new, fun a z => ok a (R.live a z), R.inew, R.i0, R.fix, by rw [List.length_set]; exact R.len, fun j => ?_⟩
    · rw [upd_ne (fun z => by subst z; rw [hn] at e; cases e)]; exact R.sub a o e
    · rw [upd_ne (fun z => ?_)]
      · exact R.frame a o e m
      · subst z
        rcases R.new a i hp with y | y
        · rw [y] at e; cases e
        · rw [y] at m; cases m
    · by_cases hj : i = j
      · subst hj
        by_cases hl : i < ρ.length
        · rw [DEnv.at_set_self hl]
          exact .inr ⟨_, hσ, p, ws, rfl, hp, upd_same, r⟩
        · exact .inl (DEnv.at_out (by rw [List.length_set]; omega))
      · rw [DEnv.at_set_ne hj]
        rcases R.slots j with e | ⟨w, e, q⟩
        · exact .inl e
        · refine .inr ⟨w, e, q.frame (fun _ z => z) (Sub.refl _) fun a z => upd_ne fun y => ?_⟩
          subst y
          rw [hp] at z; cases z; exact hj rfl
variable {a b : Expr} {ua ub : TE} {ta tb : DTB}
def lstAt (ρ : DEnv) (i : Nat) (k : List D → Prop) : Prop := match ρ.at i with
  | .lst ds => k ds
  | _ => False
theorem lstAt_elim {ρ : DEnv} {i : Nat} {k : List D → Prop} (h : lstAt ρ i k) : ∃ ds, ρ.at i = .lst ds ∧ k ds := by
  unfold lstAt at h
  split at h
  · rename_i ds e; exact ⟨ds, e, h⟩
  · exact h.elim
theorem slot_val {F : Fx} {ρ : DEnv} {I : Hp} {own : Addr → Option Nat} {σ : St} {H : Hp} (R : Rel F ρ I own σ H) {i : Nat} {ds : List D} (e : ρ.at i = .lst ds) : ∃ p vs, σ[i]? = some (some (.ref p)) ∧ H p = some (.lst vs) := by
  rcases R.slots i with z | ⟨w, z, q⟩
  · rw [e] at z; cases z
  · rw [e] at q
    obtain ⟨p, vs, rfl, _, h1, _⟩ := q
    exact ⟨p, vs, z, h1⟩
/-- x.append(e) -/
def dAppend (i : Nat) (t : DTE) : DTE := fun ρ Q => lstAt ρ i fun _ => t ρ fun s ρ1 => opt (frzS s) fun d => lstAt ρ1 i fun ds => ds.length < sizeLine ∧ Q (.fz .none) (ρ1.set i (.lst (ds ++ [d])))
theorem de_append (i : Nat) {x : Str} {p apos cpos : Pos} (he : DE X L e ue te) (hN : X.N[i]? = some x := by rfl) (hv : Vis X.env.scope x := by first | exact Or.inl rfl | exact Or.inr (Or.inl rfl) | exact Or.inr (Or.inr rfl)) (hd : (x == ("__debug__" : Str)) = false := by decide)
    (hcd : (x == ("__classdict__" : Str)) = false := by decide) (hst : starEach [e] X.env = (false, eval e X.env) :: starEach [] X.env := by rfl)
    (hbase : attributeBase (.Name x p) "append" X.env (eval (.Name x p) X.env) = eval (.Name x p) X.env := by rfl)
    (hfew : ((backTo cpos (starEach [e] X.env)).all (fun x => !x.1) && (backToKw cpos (keywordEach [] X.env)).all (fun x => x.1.isSome) && decide (([e] : List Expr).length + ([] : List Keyword).length + (if ([] : List Keyword).isEmpty then 0 else 1) < 30)) = true := by rfl)
    (hline : (apos.endLine == cpos.line) = true := by rfl) (hpl : (backTo cpos (starEach [] X.env)).any (·.1) = false := by rfl) :
    DE X L (.Call (.Attribute (.Name x p) "append" apos) [e] [] cpos) (tBM X.K "list" rAppend (tVar i) (tCons ue tNil)) (dAppend i te) :=
  ⟨pe_bm PySem.F.plainAttrs_list PySem.F.slot_list_append PySem.F.type_list_append mt_append (pe_var hN hv hd hcd) (pa_cons he.pe pa_nil hst) hbase hfew hline hst hpl, fun F ρ I own σ H Qd Q fo R h k => by
    obtain ⟨ds0, e0, h⟩ := lstAt_elim h
    obtain ⟨p0, vs0, hσ, h0⟩ := slot_val R e0
    refine ⟨_, hσ, .inl ⟨rfl, vs0, .of h0⟩, he.snd F ρ I own σ H _ _ fo R h fun s ρ1 I1 own1 H1 w R1 s1 r1 h1 => ?_⟩
    obtain ⟨d, ed, h1⟩ := opt_elim h1
    obtain ⟨ds, e1, hl, h1⟩ := lstAt_elim h1
    obtain ⟨I2, R2, s2, r2⟩ := r1.freeze R1 ed
    obtain ⟨p, vs, e2, hp, rp, mk⟩ := R2.mutate e1 hσ
    cases e2
    exact ⟨p0, vs, w, rfl, rfl, hp, by rw [rp.length]; exact hl, k _ _ I2 own1 _ _ (mk _ _ (rp.append (.cons r2 .nil))) (s1.trans s2) (.fz .non) h1⟩⟩
/-- x.extend(e), e a list -/
def dExtend (i : Nat) (t : DTB) : DTE := fun ρ Q => lstAt ρ i fun _ => t ρ fun b ρ1 => opt (b.get ρ1) fun y => match y with
  | .list es => lstAt ρ1 i fun ds => ds.length + es.length ≤ sizeLine ∧ Q (.fz .none) (ρ1.set i (.lst (ds ++ es)))
  | _ => False
theorem de_extend (i : Nat) {x : Str} {p apos cpos : Pos} (he : DB X L a ua ta) (hN : X.N[i]? = some x := by rfl) (hv : Vis X.env.scope x := by first | exact Or.inl rfl | exact Or.inr (Or.inl rfl) | exact Or.inr (Or.inr rfl)) (hd : (x == ("__debug__" : Str)) = false := by decide)
    (hcd : (x == ("__classdict__" : Str)) = false := by decide) (hst : starEach [a] X.env = (false, eval a X.env) :: starEach [] X.env := by rfl)
    (hbase : attributeBase (.Name x p) "extend" X.env (eval (.Name x p) X.env) = eval (.Name x p) X.env := by rfl)
    (hfew : ((backTo cpos (starEach [a] X.env)).all (fun x => !x.1) && (backToKw cpos (keywordEach [] X.env)).all (fun x => x.1.isSome) && decide (([a] : List Expr).length + ([] : List Keyword).length + (if ([] : List Keyword).isEmpty then 0 else 1) < 30)) = true := by rfl)
    (hline : (apos.endLine == cpos.line) = true := by rfl) (hpl : (backTo cpos (starEach [] X.env)).any (·.1) = false := by rfl) :
    DE X L (.Call (.Attribute (.Name x p) "extend" apos) [a] [] cpos) (tBM X.K "list" rExtend (tVar i) (tCons ua tNil)) (dExtend i ta) :=
  ⟨pe_bm PySem.F.plainAttrs_list PySem.F.slot_list_extend PySem.F.type_list_extend mt_extend (pe_var hN hv hd hcd) (pa_cons he.pe pa_nil hst) hbase hfew hline hst hpl, fun F ρ I own σ H Qd Q fo R h k => by
    obtain ⟨ds0, e0, h⟩ := lstAt_elim h
    obtain ⟨p0, vs0, hσ, h0⟩ := slot_val R e0
    refine ⟨_, hσ, .inl ⟨rfl, vs0, .of h0⟩, he.snd F ρ I own σ H _ _ fo R h fun s ρ1 I1 own1 H1 w R1 s1 r1 h1 => ?_⟩
    obtain ⟨y, ey, h1⟩ := opt_elim h1
    have ry := r1.rep R1 ey
    split at h1
    · rename_i es
      obtain ⟨q, ws, rfl, hq, rq⟩ := ry.lst R1.sub
      obtain ⟨ds, e1, hl, h1⟩ := lstAt_elim h1
      obtain ⟨p, vs, e2, hp, rp, mk⟩ := R1.mutate e1 hσ
      cases e2
      exact ⟨p0, q, vs, ws, rfl, rfl, hp, hq, by rw [rp.length, rq.length]; exact hl, k _ _ I1 own1 _ _ (mk _ _ (rp.append rq)) s1 (.fz .non) h1⟩
    · exact h1.elim⟩
/-- x.pop(e) -/
def dPopAt (i : Nat) (t : DTB) : DTE := fun ρ Q => lstAt ρ i fun _ => t ρ fun b ρ1 => opt (b.get ρ1) fun y => match y with
  | .int n => lstAt ρ1 i fun ds => 0 ≤ n ∧ n < 1000000 ∧ opt ds[n.toNat]? fun d => Q (.fz d) (ρ1.set i (.lst (ds.eraseIdx n.toNat)))
  | _ => False
theorem de_popAt (i : Nat) {x : Str} {p apos cpos : Pos} (he : DB X L a ua ta) (hN : X.N[i]? = some x := by rfl) (hv : Vis X.env.scope x := by first | exact Or.inl rfl | exact Or.inr (Or.inl rfl) | exact Or.inr (Or.inr rfl)) (hd : (x == ("__debug__" : Str)) = false := by decide)
    (hcd : (x == ("__classdict__" : Str)) = false := by decide) (hst : starEach [a] X.env = (false, eval a X.env) :: starEach [] X.env := by rfl)
    (hbase : attributeBase (.Name x p) "pop" X.env (eval (.Name x p) X.env) = eval (.Name x p) X.env := by rfl)
    (hfew : ((backTo cpos (starEach [a] X.env)).all (fun x => !x.1) && (backToKw cpos (keywordEach [] X.env)).all (fun x => x.1.isSome) && decide (([a] : List Expr).length + ([] : List Keyword).length + (if ([] : List Keyword).isEmpty then 0 else 1) < 30)) = true := by rfl)
    (hline : (apos.endLine == cpos.line) = true := by rfl) (hpl : (backTo cpos (starEach [] X.env)).any (·.1) = false := by rfl) :
    DE X L (.Call (.Attribute (.Name x p) "pop" apos) [a] [] cpos) (tBM X.K "list" rPopAt (tVar i) (tCons ua tNil)) (dPopAt i ta) :=
  ⟨pe_bm PySem.F.plainAttrs_list PySem.F.slot_list_pop PySem.F.type_list_pop mt_popAt (pe_var hN hv hd hcd) (pa_cons he.pe pa_nil hst) hbase hfew hline hst hpl, fun F ρ I own σ H Qd Q fo R h k => by
    obtain ⟨ds0, e0, h⟩ := lstAt_elim h
    obtain ⟨p0, vs0, hσ, h0⟩ := slot_val R e0
    refine ⟨_, hσ, .inl ⟨rfl, vs0, .of h0⟩, he.snd F ρ I own σ H _ _ fo R h fun s ρ1 I1 own1 H1 w R1 s1 r1 h1 => ?_⟩
    obtain ⟨y, ey, h1⟩ := opt_elim h1
    have ry := r1.rep R1 ey
    split at h1
    · rename_i n
      rw [ry.int]
      obtain ⟨ds, e1, hn0, hn1, h1⟩ := lstAt_elim h1
      obtain ⟨d, ed, h1⟩ := opt_elim h1
      obtain ⟨p, vs, e2, hp, rp, mk⟩ := R1.mutate e1 hσ
      cases e2
      obtain ⟨u, eu, ru⟩ := rp.get ed
      have hlt : n.toNat < vs.length := (List.getElem?_eq_some_iff.mp eu).1
      have hix : ixN vs.length n = some n.toNat := by unfold ixN; rw [if_pos hn0, if_pos (by omega)]
      exact ⟨p0, vs, n, n.toNat, u, rfl, rfl, hp, by omega, by omega, (ixN_seq hix).1, eu, k _ _ I1 own1 _ _ (mk _ _ (rp.eraseIdx _)) s1 (.fz ru) h1⟩
    · exact h1.elim⟩
/-- x.reverse() -/
def dReverse (i : Nat) : DTE := fun ρ Q => lstAt ρ i fun ds => Q (.fz .none) (ρ.set i (.lst ds.reverse))
theorem de_reverse (i : Nat) {x : Str} {p apos cpos : Pos} (hN : X.N[i]? = some x := by rfl) (hv : Vis X.env.scope x := by first | exact Or.inl rfl | exact Or.inr (Or.inl rfl) | exact Or.inr (Or.inr rfl)) (hd : (x == ("__debug__" : Str)) = false := by decide)
    (hcd : (x == ("__classdict__" : Str)) = false := by decide)
    (hbase : attributeBase (.Name x p) "reverse" X.env (eval (.Name x p) X.env) = eval (.Name x p) X.env := by rfl) (hline : (apos.endLine == cpos.line) = true := by rfl) :
    DE X L (.Call (.Attribute (.Name x p) "reverse" apos) [] [] cpos) (tBM0 X.K "list" rReverse (tVar i)) (dReverse i) :=
  ⟨pe_bm0 PySem.F.plainAttrs_list PySem.F.slot_list_reverse PySem.F.type_list_reverse mt_reverse (pe_var hN hv hd hcd) hbase hline, fun F ρ I own σ H Qd Q fo R h k => by
    obtain ⟨ds, e0, h⟩ := lstAt_elim h
    obtain ⟨p0, vs0, hσ, h0⟩ := slot_val R e0
    obtain ⟨p, vs, e2, hp, rp, mk⟩ := R.mutate e0 hσ
    cases e2
    exact ⟨_, hσ, .inl ⟨rfl, vs0, .of h0⟩, p0, vs, rfl, rfl, hp, k _ _ I own _ _ (mk _ _ rp.reverse) (Sub.refl _) (.fz .non) h⟩⟩
/-- x[k] = e -/
def dSetI (i : Nat) (tk : DTB) (te : DTE) : DTS := fun D ρ => te ρ fun s ρ1 => opt (frzS s) fun d => lstAt ρ1 i fun _ => tk ρ1 fun b ρ2 => opt (b.get ρ2) fun y => match y with
  | .int n => lstAt ρ2 i fun ds => opt (ixN ds.length n) fun j => D.nx (ρ2.set i (.lst (ds.set j d)))
  | _ => False
theorem ds_setI (i : Nat) {x : Str} {p tp : Pos} (he : DE X L e ue te) (hk : DB X L a ua ta) (hN : X.N[i]? = some x := by rfl) (hv : Vis X.env.scope x := by first | exact Or.inl rfl | exact Or.inr (Or.inl rfl) | exact Or.inr (Or.inr rfl)) (hd : (x == ("__debug__" : Str)) = false := by decide)
    (hcd : (x == ("__classdict__" : Str)) = false := by decide) (hs : swapsWithSole [.Subscript (.Name x p) a tp] e pos.line X.env = pure false := by rfl) (hw : swappedStores [.Subscript (.Name x p) a tp] e X.env = pure none := by rfl)
    (h1 : (assignEach [.Subscript (.Name x p) a tp] X.env).map (·.2) = [assign (.Subscript (.Name x p) a tp) X.env] := by rfl)
    (ha : ∀ v, assign (.Subscript (.Name x p) a tp) X.env v = (do
      let ov ← holding [v] (eval (.Name x p) X.env)
      let iv ← holding [v, ov] (eval a X.env)
      standAt tp
      holding [v, ov, iv] (setItem ov iv v)
      release [v, ov, iv] []) := by intro _; rfl) :
    DS X L (.Assign [.Subscript (.Name x p) a tp] e pos) (tAsg ue (gSub (tVar i) ua rSetL)) (dSetI i ta te) :=
  ⟨ps_asg he.pe (pg_sub (pe_var hN hv hd hcd) hk.pe set_list ha) hs hw h1, fun F ρ I own σ H D Dd fo R h k =>
    he.snd F ρ I own σ H _ _ fo R h fun s ρ1 I1 own1 H1 w R1 s1 r1 h1 => by
      obtain ⟨d, ed, h1⟩ := opt_elim h1
      obtain ⟨ds0, e0, h1⟩ := lstAt_elim h1
      obtain ⟨I2, R2, s2, r2⟩ := r1.freeze R1 ed
      obtain ⟨p0, vs0, hσ, h0⟩ := slot_val R2 e0
      refine ⟨_, hσ, hk.snd F ρ1 I2 own1 σ H1 _ _ fo R2 h1 fun b ρ2 I3 own3 H3 w3 R3 s3 r3 h3 => ?_⟩
      obtain ⟨y, ey, h3⟩ := opt_elim h3
      have ry := r3.rep R3 ey
      split at h3
      · rename_i n
        rw [ry.int]
        obtain ⟨ds, e1, h3⟩ := lstAt_elim h3
        obtain ⟨j, ej, h3⟩ := opt_elim h3
        obtain ⟨p', vs, e2, hp, rp, mk⟩ := R3.mutate e1 hσ
        cases e2
        exact ⟨p0, vs, n, j, rfl, rfl, hp, by rw [rp.length]; exact ej, k.nx _ I3 own3 σ _ (mk _ _ (RepL.set (r2.mono s3) j rp)) ((s1.trans s2).trans s3) h3⟩
      · exact h3.elim⟩
/-- x op= e of ints -/
def dAug (i : Nat) (g : Int → Int → Int) (t : DTB) : DTS := fun D ρ => match ρ.at i with
  | .fz (.int m) => t ρ fun b ρ1 => opt (b.get ρ1) fun y => match y with
    | .int n => D.nx (ρ1.set i (.fz (.int (g m n))))
    | _ => False
  | _ => False
theorem ds_aug (i : Nat) {g : Int → Int → Int} {op : Operator} {x : Str} {pos' : Pos} (hN : X.N.Nodup) (ho : PIp X op (ipI g)) (he : DB X L a ua ta) (hL : i ∉ L := by decide) (hi : X.N[i]? = some x := by rfl) (hx : Loc X.env.scope x := by first | exact Or.inl rfl | exact Or.inr rfl) (hf : X.fn x = true ∨ X.env.scope.names.lookup x = some .local := by first | exact .inl rfl | exact .inr rfl | assumption) :
    DS X L (.AugAssign (.Name x pos') op a pos) (tAug i ua (ipI g)) (dAug i g ta) := ⟨ps_aug hN hi hx he.pe ho hf, fun F ρ I own σ H D Dd fo R h k => by
  simp only [dAug] at h
  split at h
  · rename_i m em
    rcases R.slots i with z | ⟨w, z, q⟩
    · rw [em] at z; cases z
    · rw [em] at q
      cases q with
      | int _ =>
        refine ⟨_, z, he.snd F ρ I own σ H _ _ fo R h fun b ρ1 I1 own1 H1 w1 R1 s1 r1 h1 => ?_⟩
        obtain ⟨y, ey, h1⟩ := opt_elim h1
        have ry := r1.rep R1 ey
        split at h1
        · rename_i n
          rw [ry.int]
          obtain ⟨own2, R2⟩ := R1.assign (v := .int (g m n)) (s := .fz (.int (g m n))) fo hL (.fz (.int _))
          exact ⟨m, n, rfl, rfl, k.nx _ I1 own2 _ H1 R2 s1 h1⟩
        · exact h1.elim
  · exact h.elim⟩
end
end DL

set_option Elab.async false
set_option linter.all false
set_option maxRecDepth 100000
namespace DL
open PySem PySem.Spec L2
open PyProof.Rows hiding St

section
variable {X : Cx} {L : List Nat} {pos : Pos}
def dWhile (c : DTT) (tb : DTS) : DTS := fun D ρ => ∃ (Inv : Nat → DEnv → Prop) (m : Nat), Inv m ρ ∧ ∀ m ρ, Inv m ρ → c ρ fun b ρ1 =>
  if b = true then tb { nx := Wk fun ρ2 => ∃ m', m' < m ∧ Inv m' ρ2, ct := Wk fun ρ2 => ∃ m', m' < m ∧ Inv m' ρ2, bk := D.nx, rt := D.rt } ρ1 else D.nx ρ1
theorem ss_while {uc : TT} {tc : DTT} {u : TS} {t : DTS} (hc : ST L uc tc) (hb : SS L u t) : SS L (tWhile uc u) (dWhile tc t) := fun F ρ I own σ H D Dd fo R h k => by
  obtain ⟨Inv, m, h0, step⟩ := h
  refine ⟨fun m σ H => ∃ ρ I' own, Rel F ρ I' own σ H ∧ Sub I I' ∧ Inv m ρ, ⟨m, ρ, I, own, R, Sub.refl _, h0⟩, ?_⟩
  rintro m σ1 H1 ⟨ρ1, I1, own1, R1, s1, i1⟩
  refine hc F ρ1 I1 own1 σ1 H1 _ _ fo R1 (step m ρ1 i1) fun b ρ2 I2 own2 H2 R2 s2 h2 => ?_
  cases b with
  | true =>
    refine ⟨fun σ' H' => ∃ m', m' < m ∧ ∃ ρ I' own, Rel F ρ I' own σ' H' ∧ Sub I I' ∧ Inv m' ρ, fun σ' H' ⟨m', hm, q⟩ => ⟨m', hm, q⟩, ?_⟩
    refine hb F ρ2 I2 own2 σ1 H2 _ _ fo R2 h2 ⟨fun ρ3 I3 own3 σ3 H3 R3 s3 ⟨ρ', w, m', hm, q⟩ => ⟨m', hm, ρ', I3, own3, R3.wk w, (s1.trans s2).trans s3, q⟩,
      fun ρ3 I3 own3 σ3 H3 R3 s3 q => k.nx ρ3 I3 own3 σ3 H3 R3 ((s1.trans s2).trans s3) q, fun ρ3 I3 own3 σ3 H3 R3 s3 ⟨ρ', w, m', hm, q⟩ => ⟨m', hm, ρ', I3, own3, R3.wk w, (s1.trans s2).trans s3, q⟩,
      fun s ρ3 I3 own3 σ3 H3 v R3 s3 r q => k.rt s ρ3 I3 own3 σ3 H3 v R3 ((s1.trans s2).trans s3) r q⟩
  | false => exact k.nx ρ2 I2 own2 σ1 H2 R2 (s1.trans s2) h2
theorem ds_while {c : Expr} {body : List Stmt} {uc : TT} {tc : DTT} {u : TS} {t : DTS} (hp : PassesOwn (model X.prog X.w) X.A X.env X.xe) (hc : DT X L c uc tc) (hb : DSs X L body u t) : DS X L (.While c body [] pos) (tWhile uc u) (dWhile tc t) :=
  ⟨ps_while hp hc.pe hb.ps, ss_while hc.snd hb.snd⟩

/-- the iterator hands out these data -/
def ItOk (F : Fx) (J : It) (I : Hp) (ds : List D) : Prop := ∀ (i : Nat) (I' : Hp) (H : Hp), Sub I I' → Sub I' H →
  (∀ d, ds[i]? = some d → J.go i H ∧ ∀ x H', J.yld i H x H' → (H' = H ∧ Rep I' x d) ∨ ∃ p vs es, x = .ref p ∧ d = .tuple es ∧ H p = none ∧ H' = upd H p (.tup vs) ∧ RepL I' vs es) ∧ (ds.length ≤ i → J.stop i H)
abbrev DTI := DEnv → (List D → DEnv → Prop) → Prop
def SI (L : List Nat) (w : TI) (t : DTI) : Prop := ∀ F ρ I own σ H Qd (R : It → Hp → Prop), FOk F L → Rel F ρ I own σ H → t ρ Qd → (∀ ds ρ' I' own' H' J, Rel F ρ' I' own' σ H' → Sub I I' → ItOk F J I' ds → Qd ds ρ' → R J H') → w σ H R
structure DI (X : Cx) (L : List Nat) (tg iter : Expr) (w : TI) (t : DTI) : Prop where
  pi : PI X tg iter w
  snd : SI L w t
variable {tg e e2 : Expr} {es : List Expr} {ue ue2 : TE} {te : DTE} {ta tb : DTB} {ua : TA} {tas : DTA}
/-- a list that is frozen from here on -/
def iLst (t : DTE) : DTI := fun ρ Q => t ρ fun s ρ1 => opt (frzS s) fun d => match d with
  | .list ds => Q ds ρ1
  | _ => False
theorem di_list (he : DE X L e ue te) : DI X L tg e (iList X.K ue) (iLst te) := ⟨pi_list he.pe, fun F ρ I own σ H Qd R fo Rl h k =>
  he.snd F ρ I own σ H _ _ fo Rl h fun s ρ1 I1 own1 H1 v R1 s1 r1 h1 => by
    obtain ⟨d, ed, h1⟩ := opt_elim h1
    obtain ⟨I2, R2, s2, r2⟩ := r1.freeze R1 ed
    split at h1
    · rename_i ds
      cases r2 with
      | lst hp rp =>
        rename_i p vs
        refine ⟨p, rfl, ⟨vs, .of (R2.sub _ _ hp)⟩, k ds ρ1 I2 own1 H1 _ R2 (s1.trans s2) (fun i I' H' sI sH => ⟨fun d e => ?_, fun hl => ⟨vs, .of (sH _ _ (sI _ _ hp)), by rw [rp.length]; exact hl⟩⟩) h1⟩
        obtain ⟨u, eu, ru⟩ := rp.get e
        refine ⟨⟨vs, u, .of (sH _ _ (sI _ _ hp)), eu⟩, fun x H'' y => .inl ⟨y.1, ?_⟩⟩
        have := y.2 vs (.of (sH _ _ (sI _ _ hp)))
        rw [eu] at this; cases this
        exact ru.mono sI
    · exact h1.elim⟩
/-- a tuple -/
def iTpl (t : DTE) : DTI := fun ρ Q => t ρ fun s ρ1 => opt (frzS s) fun d => match d with
  | .tuple ds => Q ds ρ1
  | _ => False
theorem di_tup (he : DE X L e ue te) : DI X L tg e (iTup X.K ue) (iTpl te) := ⟨pi_tup he.pe, fun F ρ I own σ H Qd R fo Rl h k =>
  he.snd F ρ I own σ H _ _ fo Rl h fun s ρ1 I1 own1 H1 v R1 s1 r1 h1 => by
    obtain ⟨d, ed, h1⟩ := opt_elim h1
    obtain ⟨I2, R2, s2, r2⟩ := r1.freeze R1 ed
    split at h1
    · rename_i ds
      cases r2 with
      | tup hp rp =>
        rename_i p vs
        refine ⟨p, rfl, ⟨vs, .of (R2.sub _ _ hp)⟩, k ds ρ1 I2 own1 H1 _ R2 (s1.trans s2) (fun i I' H' sI sH => ⟨fun d e => ?_, fun hl => ⟨vs, .of (sH _ _ (sI _ _ hp)), by rw [rp.length]; exact hl⟩⟩) h1⟩
        obtain ⟨u, eu, ru⟩ := rp.get e
        refine ⟨⟨vs, u, .of (sH _ _ (sI _ _ hp)), eu⟩, fun x H'' y => .inl ⟨y.1, ?_⟩⟩
        have := y.2 vs (.of (sH _ _ (sI _ _ hp)))
        rw [eu] at this; cases this
        exact ru.mono sI
    · exact h1.elim⟩
/-- range(n), range(a, b) -/
def rangeD (lo : Int) (n : Nat) : List D := (List.range n).map fun i => .int (lo + (i : Nat))
theorem it_range {F : Fx} {I : Hp} {lo : Int} {n : Nat} : ItOk F (Itr lo n) I (rangeD lo n) := fun i I' H sI sH => by
  refine ⟨fun d e => ?_, fun hl => by unfold rangeD at hl; rw [List.length_map, List.length_range] at hl; exact hl⟩
  unfold rangeD at e
  rw [List.getElem?_map, Option.map_eq_some_iff] at e
  obtain ⟨j, ej, rfl⟩ := e
  obtain ⟨hl, ej⟩ := List.getElem?_eq_some_iff.mp ej
  rw [List.getElem_range] at ej; subst ej
  rw [List.length_range] at hl
  exact ⟨hl, fun x H' y => .inl ⟨y.1, by rw [y.2]; exact .int _⟩⟩
def rgO (j : Int) : Prop := -1000000000000 ≤ j ∧ j ≤ 1000000000000
def iRg1 (ta : DTA) : DTI := fun ρ Q => ta ρ fun bs ρ1 => opt (getD' ρ1 bs) fun ds => match ds with
  | [.int j] => rgO j ∧ Q (rangeD 0 j.toNat) ρ1
  | _ => False
theorem di_range1 {p : Pos} (hg : Gl X "range") (hm : X.mg "range" = none) (ha : DA X L [e] ua tas) (hs : starEach [e] X.env = [(false, eval e X.env)] := by rfl) : DI X L tg (.Call (.Name "range" p) [e] [] pos) (iRng1 ua) (iRg1 tas) :=
  ⟨pi_range1 hg hm ha.pe hs, fun F ρ I own σ H Qd R fo Rl h k => ha.snd F ρ I own σ H _ _ fo Rl h fun bs ρ1 I1 own1 H1 vs R1 s1 r1 h1 => by
    obtain ⟨ds, ed, h1⟩ := opt_elim h1
    have rd := getD'_rep R1 r1 ed
    split at h1
    · rename_i j
      obtain ⟨v, rfl, rv⟩ := one_of rd
      rw [rv.int]
      have b := h1.1
      unfold rgO at b
      exact ⟨j, rfl, by omega, by omega, k _ ρ1 I1 own1 H1 _ R1 s1 it_range h1.2⟩
    · exact h1.elim⟩
def iRg2 (ta : DTA) : DTI := fun ρ Q => ta ρ fun bs ρ1 => opt (getD' ρ1 bs) fun ds => match ds with
  | [.int i, .int j] => (rgO i ∧ rgO j) ∧ Q (rangeD i (j - i).toNat) ρ1
  | _ => False
theorem di_range2 {p : Pos} (hg : Gl X "range") (hm : X.mg "range" = none) (ha : DA X L [e, e2] ua tas) (hs : starEach [e, e2] X.env = [(false, eval e X.env), (false, eval e2 X.env)] := by rfl) (hs2 : starEach [e2] X.env = [(false, eval e2 X.env)] := by rfl) : DI X L tg (.Call (.Name "range" p) [e, e2] [] pos) (iRng2 ua) (iRg2 tas) :=
  ⟨pi_range2 hg hm ha.pe hs hs2, fun F ρ I own σ H Qd R fo Rl h k => ha.snd F ρ I own σ H _ _ fo Rl h fun bs ρ1 I1 own1 H1 vs R1 s1 r1 h1 => by
    obtain ⟨ds, ed, h1⟩ := opt_elim h1
    have rd := getD'_rep R1 r1 ed
    split at h1
    · rename_i i j
      obtain ⟨v, w, rfl, rv, rw'⟩ := two_of rd
      rw [rv.int, rw'.int]
      have b := h1.1
      unfold rgO at b
      exact ⟨i, j, rfl, ⟨by omega, by omega, by omega, by omega⟩, k _ ρ1 I1 own1 H1 _ R1 s1 it_range h1.2⟩
    · exact h1.elim⟩
/-- range(a, b, c), c > 0 -/
def rangeC (lo c : Int) (n : Nat) : List D := (List.range n).map fun i => .int (lo + (i : Nat) * c)
theorem it_rangeC {F : Fx} {I : Hp} {lo c : Int} {n : Nat} : ItOk F (Itc lo c n) I (rangeC lo c n) := fun i I' H sI sH => by
  refine ⟨fun d e => ?_, fun hl => by unfold rangeC at hl; rw [List.length_map, List.length_range] at hl; exact hl⟩
  unfold rangeC at e
  rw [List.getElem?_map, Option.map_eq_some_iff] at e
  obtain ⟨j, ej, rfl⟩ := e
  obtain ⟨hl, ej⟩ := List.getElem?_eq_some_iff.mp ej
  rw [List.getElem_range] at ej; subst ej
  rw [List.length_range] at hl
  exact ⟨hl, fun x H' y => .inl ⟨y.1, by rw [y.2]; exact .int _⟩⟩
def iRg3 (ta : DTA) : DTI := fun ρ Q => ta ρ fun bs ρ1 => opt (getD' ρ1 bs) fun ds => match ds with
  | [.int i, .int j, .int c] => ∃ n, RgC i j c n ∧ Q (rangeC i c n) ρ1
  | _ => False
theorem three_of {I H : Hp} {vs : List V} {d e f : D} (h : Paired (RepH I H) vs [d, e, f]) : ∃ v w z, vs = [v, w, z] ∧ RepH I H v d ∧ RepH I H w e ∧ RepH I H z f := by
  cases h with
  | cons h r =>
    obtain ⟨w, z, rfl, h2, h3⟩ := two_of r
    exact ⟨_, _, _, rfl, h, h2, h3⟩
theorem di_range3 {e3 : Expr} {p : Pos} (hg : Gl X "range") (hm : X.mg "range" = none) (ha : DA X L [e, e2, e3] ua tas) (hs : starEach [e, e2, e3] X.env = (false, eval e X.env) :: starEach [e2, e3] X.env := by rfl) (hpl : (backTo pos (starEach [e2, e3] X.env)).any (·.1) = false := by rfl) : DI X L tg (.Call (.Name "range" p) [e, e2, e3] [] pos) (iRng3 ua) (iRg3 tas) :=
  ⟨pi_range3 hg hm ha.pe hs hpl, fun F ρ I own σ H Qd R fo Rl h k => ha.snd F ρ I own σ H _ _ fo Rl h fun bs ρ1 I1 own1 H1 vs R1 s1 r1 h1 => by
    obtain ⟨ds, ed, h1⟩ := opt_elim h1
    have rd := getD'_rep R1 r1 ed
    split at h1
    · rename_i i j c
      obtain ⟨v, w, z, rfl, rv, rw', rz⟩ := three_of rd
      rw [rv.int, rw'.int, rz.int]
      obtain ⟨n, hn, h1⟩ := h1
      exact ⟨i, j, c, n, rfl, hn, k _ ρ1 I1 own1 H1 _ R1 s1 it_rangeC h1⟩
    · exact h1.elim⟩
/-- enumerate(xs) -/
def enumD : Nat → List D → List D
  | _, [] => []
  | i, d :: ds => .tuple [.int i, d] :: enumD (i + 1) ds
theorem enumD_at : ∀ {ds : List D} {k i : Nat}, (enumD k ds)[i]? = (ds[i]?).map fun d => .tuple [.int ((k + i : Nat) : Int), d]
  | [], _, _ => by simp [enumD]
  | d :: ds, k, 0 => by simp [enumD]
  | d :: ds, k, i + 1 => by
    simp only [enumD, List.getElem?_cons_succ]
    rw [enumD_at, show k + 1 + i = k + (i + 1) from by omega]
theorem enumD_len : ∀ {ds : List D} {k : Nat}, (enumD k ds).length = ds.length
  | [], _ => rfl
  | d :: ds, k => by simp [enumD, enumD_len]
def iEnm (ta : DTA) : DTI := fun ρ Q => ta ρ fun bs ρ1 => opt (allD bs) fun ds => match ds with
  | [.list xs] => Q (enumD 0 xs) ρ1
  | _ => False
theorem di_enum {p tpos : Pos} {elts : List Expr} {kk : Nat} (hg : Gl X "enumerate") (hm : X.mg "enumerate" = none) (ha : DA X L [e] ua tas) (hs : starEach [e] X.env = [(false, eval e X.env)] := by rfl) :
    DI X L (.Tuple elts kk tpos) (.Call (.Name "enumerate" p) [e] [] pos) (iEnum X.K ua) (iEnm tas) :=
  ⟨pi_enum hg hm ha.pe hs, fun F ρ I own σ H Qd R fo Rl h k => ha.snd F ρ I own σ H _ _ fo Rl h fun bs ρ1 I1 own1 H1 vs R1 s1 r1 h1 => by
    obtain ⟨ds, ed, h1⟩ := opt_elim h1
    have rd := allD_rep r1 ed
    split at h1
    · rename_i xs
      cases rd with
      | cons rv rn =>
        cases rn
        cases rv with
        | lst hp rp =>
          rename_i q ws
          refine ⟨q, ws, rfl, .of (R1.sub _ _ hp), k _ ρ1 I1 own1 H1 _ R1 s1 (fun i I' H' sI sH => ⟨fun d e => ?_, fun hl => ⟨ws, .of (sH _ _ (sI _ _ hp)), by rw [enumD_len] at hl; rw [rp.length]; exact hl⟩⟩) h1⟩
          rw [enumD_at, Option.map_eq_some_iff] at e
          obtain ⟨d0, e0, rfl⟩ := e
          obtain ⟨u, eu, ru⟩ := rp.get e0
          refine ⟨⟨ws, u, .of (sH _ _ (sI _ _ hp)), eu⟩, fun x H'' y => .inr ?_⟩
          obtain ⟨T, y0, rfl, hT, rfl, hy⟩ := y
          have := hy ws (.of (sH _ _ (sI _ _ hp)))
          rw [eu] at this; cases this
          refine ⟨T, _, _, rfl, rfl, hT, rfl, .cons ?_ (.cons (ru.mono sI) .nil)⟩
          rw [Nat.zero_add]; exact .int _
    · exact h1.elim⟩
/-- zip(xs, ys) of lists -/
def zipD : List D → List D → List D
  | a :: as, b :: bs => .tuple [a, b] :: zipD as bs
  | _, _ => []
theorem zipD_at : ∀ {as bs : List D} {i : Nat} {d : D}, (zipD as bs)[i]? = some d → ∃ a b, as[i]? = some a ∧ bs[i]? = some b ∧ d = .tuple [a, b]
  | [], _, _, _, h => by simp [zipD] at h
  | _ :: _, [], _, _, h => by simp [zipD] at h
  | a :: as, b :: bs, 0, d, h => by simp [zipD] at h; exact ⟨a, b, rfl, rfl, h.symm⟩
  | a :: as, b :: bs, i + 1, d, h => by
    simp only [zipD, List.getElem?_cons_succ] at h ⊢
    exact zipD_at h
theorem zipD_len : ∀ {as bs : List D}, (zipD as bs).length = min as.length bs.length
  | [], _ => by simp [zipD]
  | _ :: _, [] => by simp [zipD]
  | a :: as, b :: bs => by simp only [zipD, List.length_cons]; rw [zipD_len]; omega
def iZp (ta : DTA) : DTI := fun ρ Q => ta ρ fun bs ρ1 => opt (allD bs) fun ds => match ds with
  | [.list xs, .list ys] => Q (zipD xs ys) ρ1
  | _ => False
theorem di_zip {p tpos : Pos} {elts : List Expr} {kk : Nat} (hg : Gl X "zip") (hm : X.mg "zip" = none) (ha : DA X L [e, e2] ua tas) (hs : starEach [e, e2] X.env = (false, eval e X.env) :: starEach [e2] X.env := by rfl) (hpl : (backTo pos (starEach [e2] X.env)).any (·.1) = false := by rfl) :
    DI X L (.Tuple elts kk tpos) (.Call (.Name "zip" p) [e, e2] [] pos) (iZip X.K ua) (iZp tas) :=
  ⟨pi_zip hg hm ha.pe hs hpl, fun F ρ I own σ H Qd R fo Rl h k => ha.snd F ρ I own σ H _ _ fo Rl h fun bs ρ1 I1 own1 H1 vs R1 s1 r1 h1 => by
    obtain ⟨ds, ed, h1⟩ := opt_elim h1
    have rd := allD_rep r1 ed
    split at h1
    · rename_i xs ys
      cases rd with
      | cons rv rn =>
        cases rn with
        | cons rw' rn =>
          cases rn
          cases rv with
          | lst hp rp =>
            rename_i q ws
            cases rw' with
            | lst hp' rp' =>
              rename_i q' ws'
              refine ⟨q, q', ws, ws', rfl, .of (R1.sub _ _ hp), .of (R1.sub _ _ hp'), k _ ρ1 I1 own1 H1 _ R1 s1 (fun i I' H' sI sH => ⟨fun d e => ?_, fun hl => ?_⟩) h1⟩
              · obtain ⟨d1, d2, e1, e2, rfl⟩ := zipD_at e
                obtain ⟨u1, eu1, ru1⟩ := rp.get e1
                obtain ⟨u2, eu2, ru2⟩ := rp'.get e2
                refine ⟨⟨ws, ws', u1, u2, .of (sH _ _ (sI _ _ hp)), .of (sH _ _ (sI _ _ hp')), eu1, eu2⟩, fun x H'' y => .inr ?_⟩
                obtain ⟨T, y1, y2, rfl, hT, rfl, hy1, hy2⟩ := y
                have z1 := hy1 ws (.of (sH _ _ (sI _ _ hp)))
                have z2 := hy2 ws' (.of (sH _ _ (sI _ _ hp')))
                rw [eu1] at z1; cases z1
                rw [eu2] at z2; cases z2
                exact ⟨T, _, _, rfl, rfl, hT, rfl, .cons (ru1.mono sI) (.cons (ru2.mono sI) .nil)⟩
              · rw [zipD_len] at hl
                refine ⟨ws, ws', .of (sH _ _ (sI _ _ hp)), .of (sH _ _ (sI _ _ hp')), ?_⟩
                rw [rp.length, rp'.length]; omega
    · exact h1.elim⟩

def dFor (it : DTI) (g : DTG) (tb : DTS) : DTS := fun D ρ => it ρ fun ds ρ1 => ∃ Inv : Nat → DEnv → Prop, Inv 0 ρ1 ∧
  (∀ i d ρ, ds[i]? = some d → Inv i ρ → g d ρ fun ρ2 => tb { nx := Wk (Inv (i + 1)), ct := Wk (Inv (i + 1)), bk := D.nx, rt := D.rt } ρ2) ∧ ∀ ρ, Inv ds.length ρ → D.nx ρ
theorem ItOk.step {F : Fx} {J : It} {I I' : Hp} {ds : List D} {ρ : DEnv} {own : Addr → Option Nat} {σ : St} {H H' : Hp} {i : Nat} {d : D} {x : V} (h : ItOk F J I ds) (s : Sub I I') (R : Rel F ρ I' own σ H) (e : ds[i]? = some d) (y : J.yld i H x H') :
    ∃ I2, Rel F ρ I2 own σ H' ∧ Sub I' I2 ∧ Rep I2 x d := by
  rcases ((h i I' H s R.sub).1 d e).2 x H' y with ⟨rfl, r⟩ | ⟨p, vs, es, rfl, rfl, hp, rfl, r⟩
  · exact ⟨I', R, Sub.refl _, r⟩
  · obtain ⟨R2, s2⟩ := R.born (o := .tup vs) hp
    exact ⟨_, R2, s2, .tup upd_same (r.mono s2)⟩
theorem ss_for {js : List Nat} {wi : TI} {it : DTI} {g : TG} {gd : DTG} {u : TS} {t : DTS} (hi : SI L wi it) (hg : SG L js g gd) (hb : SS L u t) : SS L (tFor wi g u) (dFor it gd t) := fun F ρ I own σ H D Dd fo R h k =>
  hi F ρ I own σ H _ _ fo R h fun ds ρ1 I1 own1 H1 J R1 s1 ok h1 => by
    obtain ⟨Inv, h0, step, hend⟩ := h1
    refine ⟨fun i m σ H => i + m = ds.length ∧ ∃ ρ I' own, Rel F ρ I' own σ H ∧ Sub I1 I' ∧ Inv i ρ, ⟨ds.length, by omega, ρ1, I1, own1, R1, Sub.refl _, h0⟩, ?_⟩
    rintro i m σ2 H2 ⟨em, ρ2, I2, own2, R2, s2, q2⟩
    cases m with
    | zero =>
      refine .inl ⟨(ok i I2 H2 s2 R2.sub).2 (by omega), k.nx ρ2 I2 own2 σ2 H2 R2 (s1.trans s2) (hend ρ2 ?_)⟩
      have : i = ds.length := by omega
      rw [← this]; exact q2
    | succ m =>
      have e : ds[i]? = some (ds[i]'(by omega)) := List.getElem?_eq_getElem (by omega)
      refine .inr ⟨((ok i I2 H2 s2 R2.sub).1 _ e).1, fun σ' H' => i + 1 + m = ds.length ∧ ∃ ρ I' own, Rel F ρ I' own σ' H' ∧ Sub I1 I' ∧ Inv (i + 1) ρ, fun σ' H' q => ⟨m, by omega, q⟩, fun x H' y => ?_⟩
      obtain ⟨I3, R3, s3, r3⟩ := ok.step s2 R2 e y
      refine hg.run F ρ2 I3 own2 σ2 H' _ x _ _ fo R3 r3 (step i _ ρ2 e q2) fun ρ4 own4 σ4 R4 _ _ q4 => ?_
      have ss := (s1.trans s2).trans s3
      refine hb F ρ4 I3 own4 σ4 H' _ _ fo R4 q4 ⟨fun ρ5 I5 own5 σ5 H5 R5 s5 ⟨ρ', w, q⟩ => ⟨by omega, ρ', I5, own5, R5.wk w, (s2.trans s3).trans s5, q⟩,
        fun ρ5 I5 own5 σ5 H5 R5 s5 q => k.nx ρ5 I5 own5 σ5 H5 R5 (ss.trans s5) q, fun ρ5 I5 own5 σ5 H5 R5 s5 ⟨ρ', w, q⟩ => ⟨by omega, ρ', I5, own5, R5.wk w, (s2.trans s3).trans s5, q⟩,
        fun s ρ5 I5 own5 σ5 H5 v R5 s5 r q => k.rt s ρ5 I5 own5 σ5 H5 v R5 (ss.trans s5) r q⟩
theorem ds_for {js : List Nat} {iter : Expr} {body : List Stmt} {wi : TI} {it : DTI} {g : TG} {gd : DTG} {u : TS} {t : DTS} (hp : PassesOwn (model X.prog X.w) X.A X.env X.xe) (hc : X.calm = true) (hi : DI X L tg iter wi it) (hg : DG X L js tg g gd) (hb : DSs X L body u t)
    (hs : ∀ x, foldedSetIterable iter X.env x = pure x := by intro _; rfl) : DS X L (.For tg iter body [] pos) (tFor wi g u) (dFor it gd t) := ⟨ps_for hp hc hi.pi hg.pg hb.ps hs, ss_for hi.snd hg.snd hb.snd⟩

def wipeD (ρ : DEnv) : List Nat → DEnv
  | [] => ρ
  | v :: vs => (wipeD ρ vs).set v .un
theorem wipeD_len (ρ : DEnv) : ∀ vs, (wipeD ρ vs).length = ρ.length
  | [] => rfl
  | v :: vs => by simp [wipeD, wipeD_len ρ vs]
theorem wipeD_at {ρ : DEnv} {i : Nat} : ∀ {vs : List Nat}, (wipeD ρ vs).at i = .un ∨ (i ∉ vs ∧ (wipeD ρ vs).at i = ρ.at i)
  | [] => .inr ⟨List.not_mem_nil, rfl⟩
  | v :: vs => by
    rcases DEnv.at_set (ρ := wipeD ρ vs) (i := v) (j := i) (s := .un) with ⟨e, _⟩ | e
    · exact .inl e
    · by_cases h : v = i
      · subst h
        by_cases hl : v < (wipeD ρ vs).length
        · exact .inl (DEnv.at_set_self hl)
        · exact .inl (DEnv.at_out (by show ((wipeD ρ vs).set v .un).length ≤ v; rw [List.length_set]; omega))
      · rcases wipeD_at (ρ := ρ) (i := i) (vs := vs) with z | ⟨z, z2⟩
        · exact .inl (e.trans z)
        · exact .inr ⟨by rw [List.mem_cons, not_or]; exact ⟨fun y => h y.symm, z⟩, e.trans z2⟩
theorem wipe_eq {σ : St} {i : Nat} : ∀ {vs : List Nat}, i ∉ vs → (wipe σ vs)[i]? = σ[i]?
  | [], _ => rfl
  | v :: vs, h => by
    rw [List.mem_cons, not_or] at h
    show ((wipe σ vs).set v none)[i]? = _
    rw [List.getElem?_set_ne (fun e => h.1 e.symm), wipe_eq h.2]
theorem wipe_in {σ : St} {i : Nat} : ∀ {vs : List Nat}, i ∈ vs → (wipe σ vs)[i]? = none ∨ (wipe σ vs)[i]? = some none
  | v :: vs, h => by
    show ((wipe σ vs).set v none)[i]? = none ∨ ((wipe σ vs).set v none)[i]? = some none
    by_cases e : v = i
    · subst e
      by_cases hl : v < (wipe σ vs).length
      · rw [List.getElem?_set_self hl]; exact .inr rfl
      · rw [List.getElem?_eq_none (by rw [List.length_set]; omega)]; exact .inl rfl
    · rw [List.getElem?_set_ne e]
      rcases List.mem_cons.mp h with z | z
      · exact absurd z.symm e
      · exact wipe_in z
theorem wipe_same {σ σ2 : St} {js vs : List Nat} (hl : σ2.length = (wipe σ vs).length) (hk : ∀ i, i ∉ js → σ2[i]? = (wipe σ vs)[i]?) (hj : ∀ j ∈ js, j ∈ vs) : wipe σ2 vs = wipe σ vs := by
  apply List.ext_getElem?
  intro i
  by_cases h : i ∈ vs
  · have l2 : (wipe σ2 vs).length = (wipe σ vs).length := by rw [wipe_length]; exact hl
    by_cases hi : i < (wipe σ vs).length
    · have a : ∀ {τ : St}, i < (wipe τ vs).length → (wipe τ vs)[i]? = some none := fun {τ} q => by
        rcases wipe_in (σ := τ) h with z | z
        · rw [List.getElem?_eq_none_iff] at z; omega
        · exact z
      rw [a hi, a (by omega)]
    · rw [List.getElem?_eq_none (by omega), List.getElem?_eq_none (by omega)]
  · rw [wipe_eq h, hk i (fun z => h (hj i z))]
/-- the slots vs are forgotten on both sides -/
theorem Rel.wipe {F : Fx} {ρ : DEnv} {I : Hp} {own : Addr → Option Nat} {σ σ2 : St} {H : Hp} {vs : List Nat} (R : Rel F ρ I own σ H) (fo : FOk F L) (hL : ∀ v ∈ vs, v ∉ L) (hl : σ2.length = σ.length) (hk : ∀ i, i ∉ vs → σ2[i]? = σ[i]?) : Rel F (wipeD ρ vs) I own σ2 H :=
  ⟨R.sub, R.frame, R.there, R.imm, R.new, R.live, R.inew, R.i0, fun i v e => by
    rw [hk i (fun z => hL i z (fo.1 i (ne_some e)))]; exact R.fix i v e, by rw [wipeD_len, hl]; exact R.len, fun i => by
    rcases wipeD_at (ρ := ρ) (i := i) (vs := vs) with e | ⟨h, e⟩
    · exact .inl e
    · rw [e, hk i h]; exact R.slots i⟩
def dLc (it : DTI) (g : DTG) (tt : DTT) (te : DTE) (vs : List Nat) : DTE := fun ρ Q => it ρ fun ds ρ1 => ∃ Inv : Nat → List D → DEnv → Prop, Inv 0 [] (wipeD ρ1 vs) ∧
  (∀ i d acc ρ, ds[i]? = some d → acc.length ≤ i → Inv i acc ρ → g d ρ fun ρ2 => tt ρ2 fun b ρ3 => if b = true then te ρ3 fun s ρ4 => opt (frzS s) fun x => acc.length < sizeLine ∧ Inv (i + 1) (acc ++ [x]) (wipeD ρ4 vs) else Inv (i + 1) acc (wipeD ρ3 vs)) ∧
  ∀ acc ρ, Inv ds.length acc ρ → Q (.lst acc) ρ
/-- a heap that knows what nobody has, too -/
def Fx.re (F : Fx) (I H : Hp) (own : Addr → Option Nat) : Fx := ⟨I, fun a => if own a = none then H a else F.H0 a, F.mu, F.fix⟩
theorem re_own {F : Fx} {I H : Hp} {own : Addr → Option Nat} {a : Addr} (h : own a = none) : (F.re I H own).H0 a = H a := if_pos h
theorem re_not {F : Fx} {I H : Hp} {own : Addr → Option Nat} {a : Addr} (h : own a ≠ none) : (F.re I H own).H0 a = F.H0 a := if_neg h
theorem re_there {F : Fx} {ρ : DEnv} {I : Hp} {own : Addr → Option Nat} {σ : St} {H : Hp} (R : Rel F ρ I own σ H) {a : Addr} (z : F.H0 a ≠ none) : (F.re I H own).H0 a ≠ none := by
  by_cases h : own a = none
  · rw [re_own h]; exact R.there a z
  · rw [re_not h]; exact z
theorem re_none {F : Fx} {ρ : DEnv} {I : Hp} {own : Addr → Option Nat} {σ : St} {H : Hp} (R : Rel F ρ I own σ H) {a : Addr} (z : (F.re I H own).H0 a = none) : F.H0 a = none := by
  cases e : F.H0 a with
  | none => rfl
  | some o => exact absurd z (re_there R (ne_some e))
theorem FOk.re {F : Fx} {ρ : DEnv} {I : Hp} {own : Addr → Option Nat} {σ : St} {H : Hp} (fo : FOk F L) (R : Rel F ρ I own σ H) : FOk (F.re I H own) L := ⟨fo.1, fo.2.1, fun a z => re_there R (fo.2.2 a z)⟩
theorem Rel.rebase {F : Fx} {ρ : DEnv} {I : Hp} {own : Addr → Option Nat} {σ : St} {H : Hp} (R : Rel F ρ I own σ H) : Rel (F.re I H own) ρ I own σ H := by
  refine ⟨R.sub, fun a o e m => ?_, fun a z => ?_, R.imm, fun a i e => ?_, R.live, fun a z => .inr (.inl z), Sub.refl _, R.fix, R.len, R.slots⟩
  · by_cases h : own a = none
    · rw [re_own h] at e; exact e
    · rw [re_not h] at e; exact R.frame a o e m
  · by_cases h : own a = none
    · rw [re_own h] at z; exact z
    · exact R.live a h
  · rw [re_not (ne_some e)]; exact R.new a i e
theorem Rel.unbase {F : Fx} {ρ ρ' : DEnv} {I I' : Hp} {own own' : Addr → Option Nat} {σ σ' : St} {H H' : Hp} (R : Rel F ρ I own σ H) (R' : Rel (F.re I H own) ρ' I' own' σ' H') : Rel F ρ' I' own' σ' H' := by
  refine ⟨R'.sub, fun a o e m => ?_, fun a z => R'.there a (re_there R z), R'.imm, fun a i e => ?_, R'.live, fun a z => ?_, R.i0.trans R'.i0, R'.fix, R'.len, R'.slots⟩
  · refine R'.frame a o ?_ m
    by_cases h : own a = none
    · rw [re_own h]; exact R.frame a o e m
    · rw [re_not h]; exact e
  · rcases R'.new a i e with z | z
    · exact .inl (re_none R z)
    · exact .inr z
  · rcases R'.inew a z with y | y | y
    · exact .inl (re_none R y)
    · exact R.inew a y
    · exact .inr (.inr y)
/-- a thing that nobody has stays -/
theorem Rel.stays {F : Fx} {ρ' : DEnv} {I I' : Hp} {own own' : Addr → Option Nat} {σ' : St} {H H' : Hp} {p : Addr} {o : HO} (fo : FOk F L) (hp : H p = some o) (h1 : own p = none) (h2 : I p = none) (h3 : F.H0 p = none) (R' : Rel (F.re I H own) ρ' I' own' σ' H') :
    H' p = some o ∧ own' p = none ∧ I' p = none := by
  have m : F.mu p = none := by
    cases e : F.mu p with
    | none => rfl
    | some i => exact absurd h3 (fo.2.2 p (ne_some e))
  have e0 : (F.re I H own).H0 p = some o := (re_own h1).trans hp
  refine ⟨R'.frame p o e0 m, ?_, ?_⟩
  · cases e : own' p with
    | none => rfl
    | some i =>
      rcases R'.new p i e with z | z
      · rw [e0] at z; cases z
      · have z' : F.mu p = some i := z
        rw [m] at z'; cases z'
  · cases e : I' p with
    | none => rfl
    | some u =>
      rcases R'.inew p (ne_some e) with z | z | z
      · rw [e0] at z; cases z
      · exact absurd h2 z
      · exact absurd m z
theorem se_lc {js vs : List Nat} {wi : TI} {it : DTI} {g : TG} {gd : DTG} {ut : TT} {tt : DTT} {ue : TE} {te : DTE} (hi : SI L wi it) (hg : SG L js g gd) (hjs : ∀ j ∈ js, j ∈ vs) (hL : ∀ v ∈ vs, v ∉ L) (ht : ST L ut tt) (he : SE L ue te) : SE L (tLc wi g ut ue vs) (dLc it gd tt te vs) := fun F ρ I own σ H Qd Q fo R h k =>
  hi F ρ I own σ H _ _ fo R h fun ds ρ1 I1 own1 H1 J R1 s1 ok h1 => by
    obtain ⟨Inv, h0, step, hend⟩ := h1
    intro P hP
    have wl : (L2.wipe σ vs).length = σ.length := L2.wipe_length σ vs
    have wk : ∀ i, i ∉ vs → (wipe σ vs)[i]? = σ[i]? := fun i hi => wipe_eq hi
    obtain ⟨n1, n2, n3⟩ := R1.fresh hP
    have R1' : Rel F (wipeD ρ1 vs) I1 own1 (wipe σ vs) (upd H1 P (.lst [])) := (R1.laid hP).wipe fo hL wl wk
    refine ⟨fun i m H => i + m = ds.length ∧ ∃ ρ I' own acc vacc, Rel F ρ I' own (wipe σ vs) H ∧ Sub I1 I' ∧ own P = none ∧ I' P = none ∧ H P = some (.lst vacc) ∧ RepL I' vacc acc ∧ acc.length ≤ i ∧ Inv i acc ρ,
      ⟨ds.length, by omega, wipeD ρ1 vs, I1, own1, [], [], R1', Sub.refl _, n2, n1, upd_same, .nil, Nat.le_refl _, h0⟩, ?_⟩
    rintro i m H2 ⟨em, ρ2, I2, own2, acc, vacc, R2, s2, o2, i2, hP2, ra, la, q2⟩
    cases m with
    | zero =>
      have ei : i = ds.length := by omega
      subst ei
      refine .inl ⟨(ok _ I2 H2 s2 R2.sub).2 (Nat.le_refl _), ?_⟩
      have R3 : Rel F ρ2 I2 own2 σ H2 := by
        refine ⟨R2.sub, R2.frame, R2.there, R2.imm, R2.new, R2.live, R2.inew, R2.i0, fun j w e => ?_, by rw [← wl]; exact R2.len, fun j => ?_⟩
        · have := R2.fix j w e
          exact (L2.wipe_some this).1
        · rcases R2.slots j with z | ⟨w, z, q⟩
          · exact .inl z
          · exact .inr ⟨w, (L2.wipe_some z).1, q⟩
      refine k (.lst acc) ρ2 I2 own2 H2 _ R3 (s1.trans s2) ⟨fun a => a = P, fun a e => ?_, P, vacc, rfl, rfl, hP2, ra⟩ (hend acc ρ2 q2)
      subst e
      exact ⟨i2, o2, n3, ne_some hP2⟩
    | succ m =>
      have e : ds[i]? = some (ds[i]'(by omega)) := List.getElem?_eq_getElem (by omega)
      refine .inr ⟨((ok i I2 H2 s2 R2.sub).1 _ e).1, fun H' => i + 1 + m = ds.length ∧ ∃ ρ I' own acc vacc, Rel F ρ I' own (wipe σ vs) H' ∧ Sub I1 I' ∧ own P = none ∧ I' P = none ∧ H' P = some (.lst vacc) ∧ RepL I' vacc acc ∧ acc.length ≤ i + 1 ∧ Inv (i + 1) acc ρ, fun H' q => ⟨m, by omega, q⟩, fun x H' y => ?_⟩
      -- the item comes: what nobody has stays
      have Rb := R2.rebase
      have fb := fo.re R2
      obtain ⟨I3, R3, s3, r3⟩ := ItOk.step (F := F.re I2 H2 own2) (fun i I' H sI sH => ok i I' H sI sH) s2 Rb e y
      refine hg.run _ ρ2 I3 own2 (wipe σ vs) H' _ x _ _ fb R3 r3 (step i _ acc ρ2 e la q2) fun ρ4 own4 σ4 R4 l4 k4 q4 => ?_
      have w4 : wipe σ4 vs = wipe σ vs := wipe_same l4 k4 hjs
      have k4' : ∀ j, j ∉ vs → (wipe σ vs)[j]? = σ4[j]? := fun j hj => (k4 j (fun z => hj (hjs j z))).symm
      refine ⟨w4, ht _ ρ4 I3 own4 σ4 H' _ _ fb R4 q4 fun b ρ5 I5 own5 H5 R5 s5 q5 => ?_⟩
      cases b with
      | true =>
        rw [if_pos rfl] at q5 ⊢
        refine he _ ρ5 I5 own5 σ4 H5 _ _ fb R5 q5 fun s ρ6 I6 own6 H6 w R6 s6 r6 q6 => ?_
        obtain ⟨d, ed, hl, q6⟩ := opt_elim q6
        obtain ⟨I7, R7, s7, r7⟩ := r6.freeze R6 ed
        obtain ⟨e1, e2, e3⟩ := R7.stays fo hP2 o2 i2 n3
        have s27 : Sub I2 I7 := ((s3.trans s5).trans s6).trans s7
        refine ⟨vacc, e1, by rw [ra.length]; exact hl, by omega, wipeD ρ6 vs, I7, own6, acc ++ [d], vacc ++ [w], ?_, s2.trans s27, e2, e3, upd_same, (ra.mono s27).append (.cons r7 .nil), by simp; omega, q6⟩
        have R8 : Rel F ρ6 I7 own6 σ4 H6 := R2.unbase R7
        have R9 : Rel F ρ6 I7 own6 σ4 (upd H6 P (.lst (vacc ++ [w]))) := by
          have ok' : ∀ a, H6 a ≠ none → upd H6 P (.lst (vacc ++ [w])) a ≠ none := fun a z => by
            by_cases e : a = P
            · subst e; rw [upd_same]; exact fun y => nomatch y
            · rw [upd_ne e]; exact z
          refine ⟨fun a o e => ?_, fun a o e m => ?_, fun a z => ok' a (R8.there a z), R8.imm, R8.new, fun a z => ok' a (R8.live a z), R8.inew, R8.i0, R8.fix, R8.len, fun j => ?_⟩
          · rw [upd_ne (fun z => by subst z; rw [e3] at e; cases e)]; exact R8.sub a o e
          · rw [upd_ne (fun z => by subst z; rw [n3] at e; cases e)]; exact R8.frame a o e m
          · rcases R8.slots j with z | ⟨w', z, q⟩
            · exact .inl z
            · exact .inr ⟨w', z, q.frame (fun _ z => z) (Sub.refl _) fun a z => upd_ne fun y => by subst y; rw [e2] at z; cases z⟩
        exact R9.wipe fo hL l4.symm k4'
      | false =>
        rw [if_neg Bool.false_ne_true] at q5 ⊢
        obtain ⟨e1, e2, e3⟩ := R5.stays fo hP2 o2 i2 n3
        have s25 : Sub I2 I5 := s3.trans s5
        exact ⟨by omega, wipeD ρ5 vs, I5, own5, acc, vacc, (R2.unbase R5).wipe fo hL l4.symm k4', s2.trans s25, e2, e3, e1, ra.mono s25, by omega, q5⟩
structure DTs (X : Cx) (L : List Nat) (ifs : List Expr) (u : TT) (t : DTT) : Prop where
  pt : PTs X ifs u
  snd : ST L u t
def dYes : DTT := fun ρ Q => Q true ρ
theorem dts_nil : DTs X L [] tYes dYes := ⟨pts_nil, fun F ρ I own σ H Qd Q _ R h k => k true ρ I own H R (Sub.refl _) h⟩
theorem dts_one {c : Expr} {u : TT} {t : DTT} (h : DT X L c u t) : DTs X L [c] u t := ⟨pts_one h.pe, h.snd⟩
theorem de_lc {elt tg iter : Expr} {ifs : List Expr} {scope : Scope} {own : List (Str × Nat)} {pos : Pos} {wi : TI} {it : DTI} {g : TG} {gd : DTG} {ut : TT} {tt : DTT} {ue : TE} {te : DTE} {js : List Nat} (hc : X.calm = true) (hN : X.N.Nodup) (hi : DI X L tg iter wi it) (ok : BlkOk X.N X.env.scope scope own)
    (hg : ∀ (s : Shared) (H : Hp) (C : Addr) (cl : List (Str × Addr)) (fp : List Addr), DG (X.blk s H scope (compEnvC scope cl C X.env) fp) L js tg g gd) (ht : ∀ (s : Shared) (H : Hp) (C : Addr) (cl : List (Str × Addr)) (fp : List Addr), DTs (X.blk s H scope (compEnvC scope cl C X.env) fp) L ifs ut tt)
    (he : ∀ (s : Shared) (H : Hp) (C : Addr) (cl : List (Str × Addr)) (fp : List Addr), DE (X.blk s H scope (compEnvC scope cl C X.env) fp) L elt ue te) (hjs : ∀ j ∈ js, j ∈ own.map (·.2) := by decide) (hL : ∀ v ∈ own.map (·.2), v ∉ L := by decide) (hs : ∀ x, foldedSetIterable iter X.env x = pure x := by intro _; rfl) :
    DE X L (.ListComp elt [⟨tg, iter, ifs, 0⟩] scope pos) (tLc wi g ut ue (own.map (·.2))) (dLc it gd tt te (own.map (·.2))) :=
  ⟨pe_lc hc hN hi.pi ok (fun s H C cl fp => (hg s H C cl fp).pg) (fun s H C cl fp => (ht s H C cl fp).pt) (fun s H C cl fp => (he s H C cl fp).pe) hs,
   se_lc hi.snd (hg X.s_0 X.H_0 0 [] []).snd hjs hL (ht X.s_0 X.H_0 0 [] []).snd (he X.s_0 X.H_0 0 [] []).snd⟩
theorem ds_setLc (i : Nat) {y : Str} {py : Pos} {elt tg iter : Expr} {ifs : List Expr} {scope : Scope} {own : List (Str × Nat)} {pos spos : Pos} {wi : TI} {it : DTI} {g : TG} {gd : DTG} {ut : TT} {tt : DTT} {ue : TE} {te : DTE} {js : List Nat} (hc : X.calm = true) (hN : X.N.Nodup)
    (hsw : swapsWith (.ListComp elt [⟨tg, iter, ifs, 0⟩] scope pos) (some (.Name y py)) spos.line X.env = pure true) (hi : DI X L tg iter wi it) (ok : BlkOk X.N X.env.scope scope own)
    (hg : ∀ (s : Shared) (H : Hp) (C : Addr) (cl : List (Str × Addr)) (fp : List Addr), DG (X.blk s H scope (compEnvC scope cl C X.env) fp) L js tg g gd) (ht : ∀ (s : Shared) (H : Hp) (C : Addr) (cl : List (Str × Addr)) (fp : List Addr), DTs (X.blk s H scope (compEnvC scope cl C X.env) fp) L ifs ut tt)
    (he : ∀ (s : Shared) (H : Hp) (C : Addr) (cl : List (Str × Addr)) (fp : List Addr), DE (X.blk s H scope (compEnvC scope cl C X.env) fp) L elt ue te) (hLi : i ∉ L := by decide) (hy : X.N[i]? = some y := by rfl) (hyl : X.env.scope.names.lookup y = some .local := by rfl) (hjs : ∀ j ∈ js, j ∈ own.map (·.2) := by decide) (hL : ∀ v ∈ own.map (·.2), v ∉ L := by decide) (hs : ∀ x, foldedSetIterable iter X.env x = pure x := by intro _; rfl) :
    DS X L (.Assign [.Name y py] (.ListComp elt [⟨tg, iter, ifs, 0⟩] scope pos) spos) (tAsg (tLc wi g ut ue (own.map (·.2))) (gName i)) (dSet i (dLc it gd tt te (own.map (·.2)))) :=
  ⟨ps_setLc hc hN hy hyl hsw hi.pi ok (fun s H C cl fp => (hg s H C cl fp).pg) (fun s H C cl fp => (ht s H C cl fp).pt) (fun s H C cl fp => (he s H C cl fp).pe) hs,
   ss_set hLi (se_lc hi.snd (hg X.s_0 X.H_0 0 [] []).snd hjs hL (ht X.s_0 X.H_0 0 [] []).snd (he X.s_0 X.H_0 0 [] []).snd)⟩

def uns (n : Nat) : DEnv := List.replicate n .un
def exitG (lf : List Nat) (ρ : List Slot) : Nat → List Slot → List Slot
  | _, [] => []
  | j, a :: as => (if lf.contains j = true then DEnv.at ρ j else a) :: exitG lf ρ (j + 1) as
def exitS (n : Nat) (lf : List Nat) (as ρ : List Slot) : List Slot := exitG lf ρ 0 as
theorem exitG_len {lf : List Nat} {ρ : List Slot} : ∀ {as : List Slot} {j : Nat}, (exitG lf ρ j as).length = as.length
  | [], _ => rfl
  | a :: as, j => by simp [exitG, exitG_len]
theorem exitG_at {lf : List Nat} {ρ : List Slot} : ∀ {as : List Slot} {j i : Nat}, i < as.length → (exitG lf ρ j as).getD i .un = if lf.contains (j + i) = true then DEnv.at ρ (j + i) else DEnv.at as i
  | [], _, _, h => absurd h (Nat.not_lt_zero _)
  | a :: as, j, 0, _ => rfl
  | a :: as, j, i + 1, h => by
    have ih := exitG_at (lf := lf) (ρ := ρ) (as := as) (j := j + 1) (i := i) (by simpa using h)
    rw [show j + (i + 1) = j + 1 + i from by omega]
    exact ih
theorem exitS_len {n : Nat} {lf : List Nat} {as ρ : List Slot} (h : as.length = n) : (exitS n lf as ρ).length = n := by unfold exitS; rw [exitG_len]; exact h
theorem exitS_at {n : Nat} {lf : List Nat} {as ρ : List Slot} {i : Nat} (hl : as.length = n) (h : i < n) : (exitS n lf as ρ).getD i .un = if i ∈ lf then DEnv.at ρ i else DEnv.at as i := by
  unfold exitS
  rw [exitG_at (by omega), Nat.zero_add]
  by_cases m : i ∈ lf
  · rw [if_pos m, if_pos (by simpa using m)]
  · rw [if_neg m, if_neg (by simpa using m)]
/-- without parameters that are lent: the promise on data alone -/
abbrev PD := List D → (Slot → Prop) → Prop
def dsOf : List Slot → Option (List D)
  | [] => some []
  | .fz d :: r => (dsOf r).map (d :: ·)
  | _ => none
def pure' (P : PD) : PSpec := fun as Q => opt (dsOf as) fun ds => P ds fun s => Q s as
end

section
variable {P : Program} {w : World} {K : PySem.W.Frag} {mg : Str → Option Value} {base : Heap}
theorem Fun.okD {x qual : Str} {st : Stmt} {f : Addr} {fd : FuncData} {N ps : List Str} {k n : Nat} {lf : List Nat} {PS' : PSpec} (F : Fun K x qual st f fd) (S : FnScope N ps (defScope st)) (hn : ps.length = n) (hlf : ∀ i ∈ lf, i < n := by decide)
    (hbody : ∀ (cdv : Value) (A : Around) (outer : List Env) (s : Shared) (H : Hp) (E : XK), Room k (A.deeper (envOfC qual (defScope st) s.heap.objs.size f cdv)) →
      ∃ u t, DSs (cxOf CX0 P w K mg base N qual (defScope st) f cdv A outer s H E).nox lf (defBody st) u t ∧
        ∀ (as : List Slot) (Qd : Slot → List Slot → Prop), as.length = n → PS' as Qd → t { nx := fun ρ => Qd (.fz .none) (exitS n lf as ρ), rt := fun s ρ => Qd s (exitS n lf as ρ) } (as ++ uns (N.length - n))) : FnOk P w K mg base CX0 (k + 1) f fd ps (spD n lf PS') := by
  refine F.ok S (fun vs H Q E h => h.1.trans hn.symm) fun cdv A outer s H vs Q E hr h => ?_
  obtain ⟨u, t, hb, hw⟩ := hbody cdv A outer s H E hr
  obtain ⟨hv, as, Fx', own, Qd, ha, hfix, fo, hfr, R, hP, hk⟩ := h
  refine ⟨u, hb.ps, hb.snd Fx' (as ++ uns (N.length - n)) Fx'.I0 own (L2.start N vs) H _ _ fo ?_ (hw as Qd ha hP) ?_⟩
  · -- the entry
    have stl : (L2.start N vs).length = vs.length + (N.length - vs.length) := by unfold L2.start; rw [List.length_append, List.length_map, List.length_replicate]
    have sta : ∀ {i : Nat} {v : V}, (vs.map some)[i]? = some (some v) → (L2.start N vs)[i]? = some (some v) := fun {i v} e => by
      unfold L2.start
      rw [List.getElem?_append_left (List.getElem?_eq_some_iff.mp e).1]; exact e
    refine ⟨R.sub, R.frame, R.there, R.imm, R.new, R.live, R.inew, R.i0, fun i v e => sta (R.fix i v e), by rw [List.length_append, stl, ha, hv]; unfold uns; rw [List.length_replicate]; omega, fun i => ?_⟩
    by_cases hi : i < as.length
    · have e : DEnv.at (as ++ uns (N.length - n)) i = DEnv.at as i := by
        unfold DEnv.at
        rw [List.getD_eq_getElem?_getD, List.getElem?_append_left hi, List.getD_eq_getElem?_getD]
      rw [e]
      rcases R.slots i with z | ⟨v, z, q⟩
      · exact .inl z
      · exact .inr ⟨v, sta z, q⟩
    · refine .inl ?_
      unfold DEnv.at uns
      rw [List.getD_eq_getElem?_getD, List.getElem?_append_right (by omega), List.getElem?_replicate]
      split <;> rfl
  · -- the end
    have fin : ∀ s ρ I' own' σ H' v, Rel Fx' ρ I' own' σ H' → Sub Fx'.I0 I' → ResOk Fx' I' own' H' v s → Qd s (exitS n lf as ρ) → Q v H' := fun s ρ I' own' σ H' v R' s' r q => by
      refine hk s (exitS n lf as ρ) I' own' H' v (exitS_len ha) (fun i hi => ?_) ⟨R'.sub, R'.frame, R'.there, R'.imm, R'.new, R'.live, R'.inew, R'.i0, R.fix, by rw [exitS_len ha, List.length_map]; omega, fun i => ?_⟩ r q
      · by_cases hl : i < n
        · rw [exitS_at ha hl, if_neg hi]; rfl
        · rw [List.getD_eq_getElem?_getD, List.getD_eq_getElem?_getD, List.getElem?_eq_none (by rw [exitS_len ha]; omega), List.getElem?_eq_none (by omega)]
      · by_cases hl : i < n
        · have e : DEnv.at (exitS n lf as ρ) i = if i ∈ lf then DEnv.at ρ i else DEnv.at as i := exitS_at ha hl
          rw [e]
          by_cases hi : i ∈ lf
          · rw [if_pos hi]
            have hvi : vs[i]? = some (vs[i]'(by omega)) := List.getElem?_eq_getElem (by omega)
            have hf : Fx'.fix i = some (vs[i]'(by omega)) := by rw [hfix, if_pos hi]; exact hvi
            rcases R'.slots i with z | ⟨v', z, q'⟩
            · exact .inl z
            · have := R'.fix i _ hf
              rw [z] at this
              have ev : v' = vs[i]'(by omega) := by simpa using this
              exact .inr ⟨v', by rw [List.getElem?_map, hvi, ev]; rfl, q'⟩
          · rw [if_neg hi]
            have hz := hfr i hi
            rcases R.slots i with z | ⟨v', z, q'⟩
            · exact .inl z
            · cases es : DEnv.at as i with
              | un => exact .inl rfl
              | fz d =>
                rw [es] at q'
                exact .inr ⟨v', z, Rep.mono s' q'⟩
              | _ =>
                have hz' : frozenS (DEnv.at as i) = true := hz
                rw [es] at hz'; cases hz'
        · exact .inl (DEnv.at_out (by rw [exitS_len ha]; omega))
    exact ⟨fun ρ I' own' σ H' R' s' q => fin _ ρ I' own' σ H' .non R' s' (.fz .non) q, fun _ _ _ _ _ _ _ q => q.elim, fun _ _ _ _ _ _ _ q => q.elim, fun s ρ I' own' σ H' v R' s' r q => fin s ρ I' own' σ H' v R' s' r q⟩
end
end DL

set_option Elab.async false
set_option linter.all false
set_option maxRecDepth 100000
namespace DL
open PySem PySem.Spec L2
open PyProof.Rows hiding St

/-- a new thing stays new while nothing is done to it -/
theorem ResOk.stays {F : Fx} {L : List Nat} {ρ ρ' : DEnv} {I I' : Hp} {own own' : Addr → Option Nat} {σ σ' : St} {H H' : Hp} {v : V} {s : Slot} (fo : FOk F L) (R : Rel F ρ I own σ H) (r : ResOk F I own H v s) (R' : Rel (F.re I H own) ρ' I' own' σ' H') :
    ∃ S : Addr → Prop, (∀ a, S a → I' a = none ∧ own' a = none ∧ F.H0 a = none ∧ H' a ≠ none ∧ (F.re I H own).H0 a ≠ none) ∧ ValOk S I' H' v s := by
  obtain ⟨S, hS, hv⟩ := r
  have key : ∀ a, S a → ∃ o, H a = some o ∧ H' a = some o ∧ own' a = none ∧ I' a = none := fun a sa => by
    obtain ⟨n1, n2, n3, n4⟩ := hS a sa
    cases e : H a with
    | none => exact absurd e n4
    | some o =>
      obtain ⟨e1, e2, e3⟩ := Rel.stays fo e n2 n1 n3 R'
      exact ⟨o, rfl, e1, e2, e3⟩
  refine ⟨S, fun a sa => ?_, hv.frame (fun _ z => z) R'.i0 fun a sa => ?_⟩
  · obtain ⟨o, e0, e1, e2, e3⟩ := key a sa
    obtain ⟨n1, n2, n3, n4⟩ := hS a sa
    exact ⟨e3, e2, n3, ne_some e1, by rw [re_own n2]; exact n4⟩
  · obtain ⟨o, e0, e1, _, _⟩ := key a sa
    rw [e0, e1]
/-- two things in a row into two slots -/
theorem Rel.assign2 {F : Fx} {L : List Nat} {ρ : DEnv} {I : Hp} {own : Addr → Option Nat} {σ : St} {H : Hp} {v w : V} {s t : Slot} {i j : Nat} {S1 S2 : Addr → Prop} (fo : FOk F L) (hi : i ∉ L) (hj : j ∉ L) (R : Rel F ρ I own σ H)
    (h1 : ∀ a, S1 a → I a = none ∧ own a = none ∧ F.H0 a = none ∧ H a ≠ none) (r1 : ValOk S1 I H v s) (h2 : ∀ a, S2 a → I a = none ∧ own a = none ∧ F.H0 a = none ∧ H a ≠ none) (r2 : ValOk S2 I H w t) (dis : ∀ a, S1 a → S2 a → False) :
    ∃ own', Rel F ((ρ.set i s).set j t) I own' ((σ.set i (some v)).set j (some w)) H := by
  classical
  obtain ⟨own1, R1, ho⟩ : ∃ own1, Rel F (ρ.set i s) I own1 (σ.set i (some v)) H ∧ ∀ a, S2 a → own1 a = none := by
    have o3 : ∀ a k, (if S1 a then some i else own a) = some k → (S1 a ∧ i = k) ∨ own a = some k := fun a k e => by
      by_cases h : S1 a
      · rw [if_pos h] at e; cases e; exact .inl ⟨h, rfl⟩
      · rw [if_neg h] at e; exact .inr e
    have on : ∀ a, (if S1 a then some i else own a) ≠ none → S1 a ∨ own a ≠ none := fun a e => by
      by_cases h : S1 a
      · exact .inl h
      · rw [if_neg h] at e; exact .inr e
    have hfix : F.fix i = none := by
      cases e : F.fix i with
      | none => rfl
      | some v => exact absurd (fo.1 i (ne_some e)) hi
    refine ⟨fun a => if S1 a then some i else own a, ⟨R.sub, R.frame, R.there, fun a e => ?_, fun a k e => ?_, fun a e => ?_, R.inew, R.i0, fun k w e => ?_, by rw [List.length_set, List.length_set]; exact R.len, fun k => ?_⟩, fun a ha => ?_⟩
    · rcases on a e with h | h
      · exact (h1 a h).1
      · exact R.imm a h
    · rcases o3 a k e with ⟨h, _⟩ | h
      · exact .inl (h1 a h).2.2.1
      · exact R.new a k h
    · rcases on a e with h | h
      · exact (h1 a h).2.2.2
      · exact R.live a h
    · rw [List.getElem?_set_ne (fun z => by subst z; rw [hfix] at e; cases e)]
      exact R.fix k w e
    · by_cases hk : i = k
      · subst hk
        by_cases hl : i < ρ.length
        · rw [DEnv.at_set_self hl]
          refine .inr ⟨v, by rw [List.getElem?_set_self (Nat.lt_of_lt_of_le hl R.len)], r1.frame (fun a z => if_pos z) (Sub.refl _) fun _ _ => rfl⟩
        · exact .inl (DEnv.at_out (by rw [List.length_set]; omega))
      · rw [DEnv.at_set_ne hk, List.getElem?_set_ne hk]
        rcases R.slots k with e | ⟨w, e, q⟩
        · exact .inl e
        · refine .inr ⟨w, e, q.frame (fun a z => ?_) (Sub.refl _) fun _ _ => rfl⟩
          show (if S1 a then some i else own a) = some k
          by_cases h : S1 a
          · rw [(h1 a h).2.1] at z; cases z
          · rw [if_neg h]; exact z
    · show (if S1 a then some i else own a) = none
      rw [if_neg (fun z => dis a z ha)]; exact (h2 a ha).2.1
  exact R1.assign fo hj ⟨S2, fun a ha => ⟨(h2 a ha).1, ho a ha, (h2 a ha).2.2⟩, r2⟩

theorem Rel.assignFz {F : Fx} {L : List Nat} {ρ : DEnv} {I : Hp} {own : Addr → Option Nat} {σ : St} {H : Hp} {v : V} {d : D} {i : Nat} (fo : FOk F L) (hi : i ∉ L) (R : Rel F ρ I own σ H) (r : Rep I v d) : Rel F (ρ.set i (.fz d)) I own (σ.set i (some v)) H := by
  have hfix : F.fix i = none := by
    cases e : F.fix i with
    | none => rfl
    | some v => exact absurd (fo.1 i (ne_some e)) hi
  refine ⟨R.sub, R.frame, R.there, R.imm, R.new, R.live, R.inew, R.i0, fun k w e => ?_, by rw [List.length_set, List.length_set]; exact R.len, fun k => ?_⟩
  · rw [List.getElem?_set_ne (fun z => by subst z; rw [hfix] at e; cases e)]
    exact R.fix k w e
  · by_cases hk : i = k
    · subst hk
      by_cases hl : i < ρ.length
      · rw [DEnv.at_set_self hl]
        exact .inr ⟨v, by rw [List.getElem?_set_self (Nat.lt_of_lt_of_le hl R.len)], r⟩
      · exact .inl (DEnv.at_out (by rw [List.length_set]; omega))
    · rw [DEnv.at_set_ne hk, List.getElem?_set_ne hk]
      exact R.slots k

section
variable {X : Cx} {L : List Nat} {a b c e : Expr} {es : List Expr} {u1 u2 u3 ue ua : TE} {t1 t2 t3 te : DTE} {ta : DTB} {pos : Pos} {us : TA} {ts : DTA}
/-- x, y = a, b -/
def dPar (i j : Nat) (t1 t2 : DTE) : DTS := fun D ρ => t1 ρ fun s ρ1 => t2 ρ1 fun t ρ2 => D.nx ((ρ2.set i s).set j t)
theorem ss_par {i j : Nat} (hi : i ∉ L) (hj : j ∉ L) (h1 : SE L u1 t1) (h2 : SE L u2 t2) : SS L (tPar i j (tCons u1 (tCons u2 tNil))) (dPar i j t1 t2) := fun F ρ I own σ H D Dd fo R h k =>
  h1 F ρ I own σ H _ _ fo R h fun s ρ1 I1 own1 H1 v R1 s1 r1 q1 => h2 (F.re I1 H1 own1) ρ1 I1 own1 σ H1 _ _ (fo.re R1) R1.rebase q1 fun t ρ2 I2 own2 H2 w R2 s2 r2 q2 => by
    refine ⟨v, w, rfl, ?_⟩
    obtain ⟨S1, g1, v1⟩ := r1.stays fo R1 R2
    obtain ⟨S2, g2, v2⟩ := r2
    have RF := R1.unbase R2
    obtain ⟨own3, R3⟩ := RF.assign2 fo hi hj (fun a h => ⟨(g1 a h).1, (g1 a h).2.1, (g1 a h).2.2.1, (g1 a h).2.2.2.1⟩) v1 (fun a h => ⟨(g2 a h).1, (g2 a h).2.1, re_none R1 (g2 a h).2.2.1, (g2 a h).2.2.2⟩) v2 fun a h h' => (g1 a h).2.2.2.2 (g2 a h').2.2.1
    exact k.nx _ I2 own3 _ H2 R3 (s1.trans s2) q2
theorem ds_par (i j : Nat) {x y : Str} {px py pt : Pos} {kt k2 pt2} (hc : X.calm = true) (hN : X.N.Nodup) (h1 : DE X L a u1 t1) (h2 : DE X L b u2 t2) (hLi : i ∉ L := by decide) (hLj : j ∉ L := by decide) (hi : X.N[i]? = some x := by rfl) (hj : X.N[j]? = some y := by rfl) (hij : i ≠ j := by decide)
    (hx : X.env.scope.names.lookup x = some .local := by rfl) (hy : X.env.scope.names.lookup y = some .local := by rfl) (hw : swappedStores [.Tuple [.Name x px, .Name y py] kt pt] (.Tuple [a, b] k2 pt2) X.env = pure (some [x, y]) := by rfl)
    (hs : swapsWithSole [.Tuple [.Name x px, .Name y py] kt pt] (.Tuple [a, b] k2 pt2) pos.line X.env = pure false := by rfl) (hs1 : starEach [a, b] X.env = (false, eval a X.env) :: starEach [b] X.env := by rfl) (hs2 : starEach [b] X.env = (false, eval b X.env) :: starEach [] X.env := by rfl) :
    DS X L (.Assign [.Tuple [.Name x px, .Name y py] kt pt] (.Tuple [a, b] k2 pt2) pos) (tPar i j (tCons u1 (tCons u2 tNil))) (dPar i j t1 t2) :=
  ⟨ps_par hc hN hi hj hij hx hy (pa_cons h1.pe (pa_cons h2.pe pa_nil hs2) hs1) hw hs, ss_par hLi hLj h1.snd h2.snd⟩
/-- x, y, z = a, b, c: the things data -/
def dPar3 (i j l : Nat) (t1 t2 t3 : DTE) : DTS := fun D ρ => t1 ρ fun s ρ1 => opt (frzS s) fun d1 => t2 ρ1 fun s2 ρ2 => opt (frzS s2) fun d2 => t3 ρ2 fun s3 ρ3 => D.nx (((ρ3.set i (.fz d1)).set j (.fz d2)).set l s3)
theorem ss_par3 {i j l : Nat} (hi : i ∉ L) (hj : j ∉ L) (hl : l ∉ L) (h1 : SE L u1 t1) (h2 : SE L u2 t2) (h3 : SE L u3 t3) : SS L (tPar3 i j l (tCons u1 (tCons u2 (tCons u3 tNil)))) (dPar3 i j l t1 t2 t3) := fun F ρ I own σ H D Dd fo R h k =>
  h1 F ρ I own σ H _ _ fo R h fun s ρ1 I1 own1 H1 v R1 s1 r1 q1 => by
    obtain ⟨d1, e1, q1⟩ := opt_elim q1
    obtain ⟨J1, R1, z1, r1⟩ := r1.freeze R1 e1
    refine h2 F ρ1 J1 own1 σ H1 _ _ fo R1 q1 fun t ρ2 I2 own2 H2 w R2 s2 r2 q2 => ?_
    obtain ⟨d2, e2, q2⟩ := opt_elim q2
    obtain ⟨J2, R2, z2, r2⟩ := r2.freeze R2 e2
    refine h3 F ρ2 J2 own2 σ H2 _ _ fo R2 q2 fun t3' ρ3 I3 own3 H3 w3 R3 s3 r3 q3 => ?_
    refine ⟨v, w, w3, rfl, ?_⟩
    have ra := Rep.mono (s2.trans (z2.trans s3)) r1
    have rb := Rep.mono s3 r2
    obtain ⟨o3, R6⟩ := ((R3.assignFz fo hi ra).assignFz fo hj rb).assign fo hl r3
    exact k.nx _ I3 o3 _ H3 R6 (s1.trans (z1.trans (s2.trans (z2.trans s3)))) q3
theorem ds_par3 (i j l : Nat) {x y z : Str} {px py pz pt : Pos} {kt k2 pt2} (hc : X.calm = true) (hN : X.N.Nodup) (h1 : DE X L a u1 t1) (h2 : DE X L b u2 t2) (h3 : DE X L c u3 t3) (hLi : i ∉ L := by decide) (hLj : j ∉ L := by decide) (hLl : l ∉ L := by decide) (hi : X.N[i]? = some x := by rfl) (hj : X.N[j]? = some y := by rfl) (hl : X.N[l]? = some z := by rfl)
    (hij : i ≠ j := by decide) (hil : i ≠ l := by decide) (hjl : j ≠ l := by decide)
    (hx : X.env.scope.names.lookup x = some .local := by rfl) (hy : X.env.scope.names.lookup y = some .local := by rfl) (hz : X.env.scope.names.lookup z = some .local := by rfl) (hw : swappedStores [.Tuple [.Name x px, .Name y py, .Name z pz] kt pt] (.Tuple [a, b, c] k2 pt2) X.env = pure (some [x, y, z]) := by rfl)
    (hs : swapsWithSole [.Tuple [.Name x px, .Name y py, .Name z pz] kt pt] (.Tuple [a, b, c] k2 pt2) pos.line X.env = pure false := by rfl) (hs1 : starEach [a, b, c] X.env = (false, eval a X.env) :: starEach [b, c] X.env := by rfl) (hs2 : starEach [b, c] X.env = (false, eval b X.env) :: starEach [c] X.env := by rfl) (hs3 : starEach [c] X.env = (false, eval c X.env) :: starEach [] X.env := by rfl) :
    DS X L (.Assign [.Tuple [.Name x px, .Name y py, .Name z pz] kt pt] (.Tuple [a, b, c] k2 pt2) pos) (tPar3 i j l (tCons u1 (tCons u2 (tCons u3 tNil)))) (dPar3 i j l t1 t2 t3) :=
  ⟨ps_par3 hc hN hi hj hl hij hil hjl hx hy hz (pa_cons h1.pe (pa_cons h2.pe (pa_cons h3.pe pa_nil hs3) hs2) hs1) hw hs, ss_par3 hLi hLj hLl h1.snd h2.snd h3.snd⟩

theorem get_list : PGet X (fun o i H Q => ∃ p xs k v, o = .ref p ∧ i = .int k ∧ 0 ≤ k ∧ k < 1000000 ∧ H p = some (.lst xs) ∧ xs[k.toNat]? = some v ∧ Q v H) := by
  intro pins s σ H o i ov iv Q I ro ri h
  obtain ⟨p, xs, k, v, rfl, rfl, h0, h1, hp, hv, q⟩ := h
  cases ro
  obtain ⟨t, rfl⟩ := ri
  obtain ⟨its, rv, pl, _⟩ := I.list (SqL.of (K := X.K) hp)
  obtain ⟨u, eu, ru⟩ := rv.get hv
  exact wpAny_getItem_list pl.isList h0 (by omega) (by simpa using eu) ⟨v, H, I, ru, q⟩
def dAugI (i : Nat) (g : Int → Int → Int) (tk tv : DTB) : DTS := fun D ρ => lstAt ρ i fun _ => tk ρ fun b ρ1 => opt (b.get ρ1) fun y => match y with
  | .int n => lstAt ρ1 i fun ds => (0 ≤ n ∧ n < 1000000) ∧ opt ds[n.toNat]? fun old => match old with
    | .int m => tv ρ1 fun b2 ρ2 => opt (b2.get ρ2) fun z => match z with
      | .int w => lstAt ρ2 i fun ds2 => opt (ixN ds2.length n) fun j => D.nx (ρ2.set i (.lst (ds2.set j (.int (g m w)))))
      | _ => False
    | _ => False
  | _ => False
theorem ds_augI (i : Nat) {g : Int → Int → Int} {op : Operator} {x : Str} {p tp : Pos} {ub : TE} {tb : DTB} (ho : PIp X op (ipI g)) (hk : DB X L a ua ta) (he : DB X L b ub tb) (hN : X.N[i]? = some x := by rfl) (hv : Vis X.env.scope x := by first | exact Or.inl rfl | exact Or.inr (Or.inl rfl) | exact Or.inr (Or.inr rfl)) (hd : (x == ("__debug__" : Str)) = false := by decide)
    (hcd : (x == ("__classdict__" : Str)) = false := by decide) (hst : ∀ ov iv new, augStore a ov iv new = (do holding [new, ov, iv] (setItem ov iv new); release [new, ov, iv] []; pure .next) := by intros; rfl) :
    DS X L (.AugAssign (.Subscript (.Name x p) a tp) op b pos) (tAugS (tVar i) ua ub (fun o i H Q => ∃ p xs k v, o = .ref p ∧ i = .int k ∧ 0 ≤ k ∧ k < 1000000 ∧ H p = some (.lst xs) ∧ xs[k.toNat]? = some v ∧ Q v H) (ipI g) rSetL) (dAugI i g ta tb) :=
  ⟨ps_augS (pe_var hN hv hd hcd) hk.pe get_list he.pe ho set_list hst, fun F ρ I own σ H D Dd fo R h k => by
    obtain ⟨ds0, e0, h⟩ := lstAt_elim h
    obtain ⟨p0, vs0, hσ, h0⟩ := slot_val R e0
    refine ⟨_, hσ, hk.snd F ρ I own σ H _ _ fo R h fun b1 ρ1 I1 own1 H1 v1 R1 s1 r1 q1 => ?_⟩
    obtain ⟨y, ey, q1⟩ := opt_elim q1
    have ry := r1.rep R1 ey
    split at q1
    · rename_i n
      obtain ⟨ds1, e1, hn, q1⟩ := lstAt_elim q1
      obtain ⟨old, eo, q1⟩ := opt_elim q1
      obtain ⟨p1, vs1, z1, hp1, rp1, _⟩ := R1.mutate e1 hσ
      cases z1
      obtain ⟨u, eu, ru⟩ := rp1.get eo
      split at q1
      · rename_i m
        cases ru with
        | int _ =>
          refine ⟨p0, vs1, n, _, rfl, ry.int, hn.1, hn.2, hp1, eu, he.snd F ρ1 I1 own1 σ H1 _ _ fo R1 q1 fun b2 ρ2 I2 own2 H2 v2 R2 s2 r2 q2 => ?_⟩
          obtain ⟨z, ez, q2⟩ := opt_elim q2
          have rz := r2.rep R2 ez
          split at q2
          · rename_i w
            obtain ⟨ds2, e2, q2⟩ := lstAt_elim q2
            obtain ⟨j, ej, q2⟩ := opt_elim q2
            obtain ⟨p2, vs2, z2, hp2, rp2, mk⟩ := R2.mutate e2 hσ
            cases z2
            refine ⟨m, w, rfl, rz.int, p0, vs2, n, j, rfl, ry.int, hp2, by rw [rp2.length]; exact ej, ?_⟩
            exact k.nx _ I2 own2 σ _ (mk _ _ (RepL.set (.int _) j rp2)) (s1.trans s2) q2
          · exact q2.elim
      · exact q1.elim
    · exact q1.elim⟩

def ixOf (x : D) : List D → Option Nat
  | [] => none
  | d :: ds => if PyData.eqv d x = true then some 0 else (ixOf x ds).map (· + 1)
theorem ixOf_at {x : D} : ∀ {ds : List D} {j : Nat}, ixOf x ds = some j → (∃ d, ds[j]? = some d ∧ PyData.eqv d x = true) ∧ ∀ m d, m < j → ds[m]? = some d → PyData.eqv d x = false
  | [], j, h => by cases h
  | d :: ds, j, h => by
    unfold ixOf at h
    by_cases e : PyData.eqv d x = true
    · rw [if_pos e] at h; cases h
      exact ⟨⟨d, rfl, e⟩, fun m _ hm => absurd hm (Nat.not_lt_zero _)⟩
    · rw [if_neg e, Option.map_eq_some_iff] at h
      obtain ⟨k, hk, rfl⟩ := h
      obtain ⟨⟨d', e1, e2⟩, h2⟩ := ixOf_at hk
      refine ⟨⟨d', by simpa using e1, e2⟩, fun m d' hm hd => ?_⟩
      cases m with
      | zero =>
        have : d = d' := by simpa using hd
        rw [← this]; simpa using e
      | succ m => exact h2 m d' (by omega) (by simpa using hd)
theorem flat_get {ds : List D} (f : ds.all flatD = true) {m : Nat} {d : D} (e : ds[m]? = some d) : flatD d = true := List.all_eq_true.mp f d (List.mem_of_getElem? e)
def isLst : BV → DEnv → Prop := fun b ρ => opt (b.get ρ) fun x => match x with
  | .list _ => True
  | _ => False
def dIndex' (ta tb : DTB) : DTE := fun ρ Q => ta ρ fun a ρ1 => isLst a ρ1 ∧ tb ρ1 fun b ρ2 => opt (a.get ρ2) fun x => opt (b.get ρ2) fun y => match x with
  | .list ds => (flatD y = true ∧ ds.all flatD = true) ∧ opt (ixOf y ds) fun j => Q (.fz (.int (j : Nat))) ρ2
  | _ => False
theorem de_index {apos cpos : Pos} {ub : TE} {tb : DTB} (ha : DB X L a ua ta) (hb : DB X L b ub tb) (hst : starEach [b] X.env = (false, eval b X.env) :: starEach [] X.env := by rfl)
    (hbase : attributeBase a "index" X.env (eval a X.env) = eval a X.env := by rfl)
    (hfew : ((backTo cpos (starEach [b] X.env)).all (fun x => !x.1) && (backToKw cpos (keywordEach [] X.env)).all (fun x => x.1.isSome) && decide (([b] : List Expr).length + ([] : List Keyword).length + (if ([] : List Keyword).isEmpty then 0 else 1) < 30)) = true := by rfl)
    (hline : (apos.endLine == cpos.line) = true := by rfl) (hpl : (backTo cpos (starEach [] X.env)).any (·.1) = false := by rfl) :
    DE X L (.Call (.Attribute a "index" apos) [b] [] cpos) (tBM X.K "list" (rIndex X.K) ua (tCons ub tNil)) (dIndex' ta tb) :=
  ⟨pe_bm PySem.F.plainAttrs_list PySem.F.slot_list_index PySem.F.type_list_index mt_index ha.pe (pa_cons hb.pe pa_nil hst) hbase hfew hline hst hpl, fun F ρ I own σ H Qd Q fo R h k =>
    ha.snd F ρ I own σ H _ _ fo R h fun b1 ρ1 I1 own1 H1 v1 R1 s1 r1 q1 => by
      obtain ⟨il, q1⟩ := q1
      obtain ⟨x0, ex0, il⟩ := opt_elim il
      have rx0 := r1.rep R1 ex0
      have ty : tyV X.K "list" v1 H1 := by
        split at il
        · obtain ⟨p, vs, rfl, h1, _⟩ := rx0.lst R1.sub
          exact .inl ⟨rfl, vs, .of h1⟩
        · exact il.elim
      refine ⟨ty, hb.snd F ρ1 I1 own1 σ H1 _ _ fo R1 q1 fun b2 ρ2 I2 own2 H2 v2 R2 s2 r2 q2 => ?_⟩
      obtain ⟨x, ex, q2⟩ := opt_elim q2
      obtain ⟨y, ey, q2⟩ := opt_elim q2
      have rx := (r1.mono s2).rep R2 ex
      have ry := r2.rep R2 ey
      split at q2
      · rename_i ds
        obtain ⟨⟨fy, fds⟩, q2⟩ := q2
        obtain ⟨j, ej, q2⟩ := opt_elim q2
        obtain ⟨p, vs, rfl, h1, rp⟩ := rx.lst R2.sub
        have ry' := ry.rep fy
        obtain ⟨⟨d, ed, ee⟩, hno⟩ := ixOf_at ej
        obtain ⟨u, eu, ru⟩ := rp.get ed
        refine ⟨p, vs, v2, j, u, rfl, rfl, .of h1, ry'.flat fy, rp.flat fds, eu, by rw [ru.eqv ry' (flat_get fds ed) fy]; exact ee, fun m z' hm hz => ?_, k _ ρ2 I2 own2 H2 _ R2 (s1.trans s2) (.fz (.int _)) q2⟩
        obtain ⟨d', ed', rd'⟩ := rp.getV hz
        rw [rd'.eqv ry' (flat_get fds ed') fy]
        exact hno m d' hm ed'
      · exact q2.elim⟩

def cTuple : RC := fun ds Q => match ds with
  | [.list xs] => Q (.fz (.tuple xs))
  | [.tuple xs] => Q (.fz (.tuple xs))
  | _ => False
theorem sc_tuple {K : PySem.W.Frag} : SndC (fun xs H Q => ∃ p ys, xs = [.ref p] ∧ ((SqL K H p ys ∧ ∀ l, H l = none → Q (.ref l) (upd H l (.tup ys))) ∨ (SqT K H p ys ∧ Q (.ref p) H))) cTuple := fun F ρ I own σ H vs ds Qs Q R rx h k => by
  unfold cTuple at h
  split at h
  · obtain ⟨v, rfl, rv⟩ := one_of rx
    obtain ⟨p, ws, rfl, h1, r1⟩ := rv.lst R.sub
    refine ⟨p, ws, rfl, .inl ⟨.of h1, fun l hl => ?_⟩⟩
    obtain ⟨R2, s2⟩ := R.born (o := .tup ws) hl
    exact k _ _ _ _ R2 s2 (.fz (.tup upd_same (r1.mono s2))) h
  · obtain ⟨v, rfl, rv⟩ := one_of rx
    obtain ⟨p, ws, rfl, h1, r1⟩ := rv.tup
    exact ⟨p, ws, rfl, .inr ⟨.of (R.sub _ _ h1), k _ I H _ R (Sub.refl _) (.fz (.tup h1 r1)) h⟩⟩
  · exact h.elim

def lexP (a b : Int × Int) : Bool := decide (a.1 < b.1) || (decide (a.1 = b.1) && decide (a.2 ≤ b.2))
def srtP (ps : List (Int × Int)) : List (Int × Int) := ps.mergeSort lexP
def pairsOf : List D → Option (List (Int × Int))
  | [] => some []
  | .tuple [.int i, .int j] :: ds => (pairsOf ds).map ((i, j) :: ·)
  | _ => none
def pD (p : Int × Int) : D := .tuple [.int p.1, .int p.2]
theorem pairsOf_map : ∀ ps : List (Int × Int), pairsOf (ps.map pD) = some ps
  | [] => rfl
  | p :: ps => by simp only [List.map_cons, pD, pairsOf]; rw [pairsOf_map ps]; rfl
theorem pairsOf_some : ∀ {ds : List D} {ps : List (Int × Int)}, pairsOf ds = some ps → ds = ps.map pD
  | [], ps, h => by cases h; rfl
  | d :: ds, ps, h => by
    unfold pairsOf at h
    split at h
    · rename_i e; cases e
    · rename_i i j ds' e
      cases e
      rw [Option.map_eq_some_iff] at h
      obtain ⟨qs, h1, rfl⟩ := h
      rw [pairsOf_some h1]; rfl
    · cases h
theorem lexP_trans (a b c : Int × Int) (h1 : lexP a b = true) (h2 : lexP b c = true) : lexP a c = true := by
  unfold lexP at *
  simp only [Bool.or_eq_true, Bool.and_eq_true, decide_eq_true_eq] at *
  omega
theorem lexP_total (a b : Int × Int) : (lexP a b || lexP b a) = true := by
  unfold lexP
  simp only [Bool.or_eq_true, Bool.and_eq_true, decide_eq_true_eq]
  omega
theorem lexP_anti {a b : Int × Int} (h1 : lexP a b = true) (h2 : lexP b a = true) : a = b := by
  unfold lexP at *
  simp only [Bool.or_eq_true, Bool.and_eq_true, decide_eq_true_eq] at *
  exact Prod.ext (by omega) (by omega)
theorem srtP_perm (ps : List (Int × Int)) : (srtP ps).Perm ps := List.mergeSort_perm _ _
theorem srtP_sorted (ps : List (Int × Int)) : (srtP ps).Pairwise fun a b => lexP a b = true := List.pairwise_mergeSort lexP_trans lexP_total ps
theorem srtP_of {ps qs : List (Int × Int)} (p : qs.Perm ps) (s : qs.Pairwise fun a b => lexP a b = true) : qs = srtP ps :=
  (p.trans (srtP_perm ps).symm).eq_of_pairwise (le := fun a b => lexP a b = true) (fun a b _ _ h1 h2 => lexP_anti h1 h2) s (srtP_sorted ps)
def kOf (H : Hp) : V → Int × Int
  | .ref t => match H t with
    | some (.tup [.int i, .int j]) => (i, j)
    | _ => (0, 0)
  | _ => (0, 0)
theorem kOf_mem {I H : Hp} (s : Sub I H) : ∀ {ps : List (Int × Int)} {ws : List V}, RepL I ws (ps.map pD) → ws.map (kOf H) = ps ∧ ∀ v ∈ ws, Rep I v (pD (kOf H v)) ∧ ∃ t, v = V.ref t ∧ H t = some (.tup [.int (kOf H v).1, .int (kOf H v).2])
  | [], ws, h => by cases h; exact ⟨rfl, fun _ z => nomatch z⟩
  | p :: ps, ws, h => by
    cases h with
    | cons h r =>
      obtain ⟨e, m⟩ := kOf_mem s r
      cases h with
      | tup ht hr =>
        cases hr with
        | cons r1 hr =>
          cases hr with
          | cons r2 hr =>
            cases hr
            cases r1
            cases r2
            have hH := s _ _ ht
            rename_i a
            have ek : kOf H (.ref a) = p := by simp only [kOf, hH]
            refine ⟨by rw [List.map_cons, ek, e], fun v hv => ?_⟩
            rcases List.mem_cons.mp hv with rfl | hv
            · rw [ek]
              exact ⟨.tup ht (.cons (.int _) (.cons (.int _) .nil)), a, rfl, hH⟩
            · exact m v hv
theorem repL_of {I : Hp} {f : V → D} : ∀ {ws : List V}, (∀ v ∈ ws, Rep I v (f v)) → RepL I ws (ws.map f)
  | [], _ => .nil
  | v :: ws, h => .cons (h v List.mem_cons_self) (repL_of fun w hw => h w (List.mem_cons_of_mem _ hw))
def cSortedP : RC := fun ds Q => match ds with
  | [.list xs] => opt (pairsOf xs) fun ps => Q (.lst ((srtP ps).map pD))
  | _ => False
theorem sc_sortedP {K : PySem.W.Frag} : SndC (rSortedPO K) cSortedP := fun F ρ I own σ H vs ds Qs Q R rx h k => by
  unfold cSortedP at h
  split at h
  · obtain ⟨v, rfl, rv⟩ := one_of rx
    obtain ⟨p, ws, rfl, h1, r1⟩ := rv.lst R.sub
    obtain ⟨ps, e, h⟩ := opt_elim h
    rw [pairsOf_some e] at r1
    obtain ⟨ek, hm⟩ := kOf_mem R.sub r1
    refine ⟨p, ws, kOf H, rfl, .of h1, fun x hx => (hm x hx).2, fun ys q hs hb hq => ?_⟩
    have pm : ys.Perm ws := hb.perm
    have em : ys.map (kOf H) = srtP ps := srtP_of (by rw [← ek]; exact pm.map _) (by
      rw [List.pairwise_map]
      refine hs.imp fun {a b} z => ?_
      have z := SrtO.lexB_no.mp z
      unfold lexP
      simp only [Bool.or_eq_true, Bool.and_eq_true, decide_eq_true_eq]
      omega)
    have ry : RepL I ys ((srtP ps).map pD) := by
      rw [← em, List.map_map]
      exact repL_of fun v hv => (hm v (pm.mem_iff.mp hv)).1
    exact k _ I _ _ (R.laid hq) (Sub.refl _) (ResOk.new R hq ry) h
  · exact h.elim
end
end DL

set_option Elab.async false
set_option linter.all false
set_option maxRecDepth 100000
namespace DL
open PySem PySem.Spec L2
open PyProof.Rows hiding St

/-- a def of the text as the top has left it -/
def DefAt (K : PySem.W.Frag) (mg : Str → Option Value) (x : Str) (st : Stmt) (ps : List Str) : Prop := ∃ f fd, Fun K x x st f fd ∧ Binds K fd ps [] ∧ mg x = some (.ref f)
/-- .. and what it promises -/
structure Okd (P : Program) (w : World) (K : PySem.W.Frag) (mg : Str → Option Value) (base : Heap) (k : Nat) (x : Str) (n : Nat) (lf : List Nat) (PS : PSpec) : Prop where
  ex : ∃ f fd ps, FnOk P w K mg base CX0 k f fd ps (spD n lf PS) ∧ Binds K fd ps [] ∧ mg x = some (.ref f) ∧ PySem.W.keepIn K (.ref f) = true
section
variable {P : Program} {w : World} {K : PySem.W.Frag} {mg : Str → Option Value} {base : Heap}
theorem DefAt.ok {x : Str} {st : Stmt} {N ps : List Str} {k n : Nat} {lf : List Nat} {PS' : PSpec} (h : DefAt K mg x st ps) (S : FnScope N ps (defScope st)) (hn : ps.length = n) (hlf : ∀ i ∈ lf, i < n)
    (hbody : ∀ (f : Addr) (cdv : Value) (A : Around) (outer : List Env) (s : Shared) (H : Hp) (E : XK), Room k (A.deeper (envOfC x (defScope st) s.heap.objs.size f cdv)) →
      ∃ u t, DSs (cxOf CX0 P w K mg base N x (defScope st) f cdv A outer s H E).nox lf (defBody st) u t ∧
        ∀ (as : List Slot) (Qd : Slot → List Slot → Prop), as.length = n → PS' as Qd → t { nx := fun ρ => Qd (.fz .none) (exitS n lf as ρ), rt := fun s ρ => Qd s (exitS n lf as ρ) } (as ++ uns (N.length - n))) : Okd P w K mg base (k + 1) x n lf PS' := by
  obtain ⟨f, fd, F, b, g⟩ := h
  exact ⟨f, fd, ps, Fun.okD F S hn hlf fun cdv A outer s H E hr => hbody f cdv A outer s H E hr, b, g, F.kp⟩
theorem exitG_nil {ρ : List Slot} : ∀ {as : List Slot} {j : Nat}, exitG [] ρ j as = as
  | [], _ => rfl
  | a :: as, j => by simp only [exitG]; rw [exitG_nil, if_neg (by simp)]
/-- .. none lent -/
theorem DefAt.okP {x : Str} {st : Stmt} {N ps : List Str} {k n : Nat} {PS' : PSpec} (h : DefAt K mg x st ps) (S : FnScope N ps (defScope st)) (j : Nat) (hn : ps.length = n) (hj : N.length - n = j)
    (hbody : ∀ (f : Addr) (cdv : Value) (A : Around) (outer : List Env) (s : Shared) (H : Hp) (E : XK), Room k (A.deeper (envOfC x (defScope st) s.heap.objs.size f cdv)) →
      ∃ u t, DSs (cxOf CX0 P w K mg base N x (defScope st) f cdv A outer s H E).nox [] (defBody st) u t ∧
        ∀ (as : List Slot) (Qd : Slot → List Slot → Prop), PS' as Qd → t { nx := fun _ => Qd (.fz .none) as, rt := fun s _ => Qd s as } (as ++ uns j)) : Okd P w K mg base (k + 1) x n [] PS' :=
  h.ok S hn (fun _ z => nomatch z) fun f cdv A outer s H E hr => by
    obtain ⟨u, t, h1, h2⟩ := hbody f cdv A outer s H E hr
    refine ⟨u, t, h1, fun as Qd _ hp => ?_⟩
    have e : ∀ ρ, exitS n [] as ρ = as := fun ρ => exitG_nil
    simp only [e]
    rw [hj]
    exact h2 as Qd hp
/-- .. the first one lent -/
theorem DefAt.okL {x : Str} {st : Stmt} {N ps : List Str} {k n : Nat} {PS' : PSpec} (h : DefAt K mg x st ps) (S : FnScope N ps (defScope st)) (j : Nat) (hn : ps.length = n) (h0 : 0 < n) (hj : N.length - n = j)
    (hbody : ∀ (f : Addr) (cdv : Value) (A : Around) (outer : List Env) (s : Shared) (H : Hp) (E : XK), Room k (A.deeper (envOfC x (defScope st) s.heap.objs.size f cdv)) →
      ∃ u t, DSs (cxOf CX0 P w K mg base N x (defScope st) f cdv A outer s H E).nox [0] (defBody st) u t ∧
        ∀ (a : Slot) (as : List Slot) (Qd : Slot → List Slot → Prop), PS' (a :: as) Qd → t { nx := fun ρ => Qd (.fz .none) (DEnv.at ρ 0 :: as), rt := fun s ρ => Qd s (DEnv.at ρ 0 :: as) } (a :: (as ++ uns j))) : Okd P w K mg base (k + 1) x n [0] PS' :=
  h.ok S hn (fun i z => by rw [List.mem_singleton] at z; omega) fun f cdv A outer s H E hr => by
    obtain ⟨u, t, h1, h2⟩ := hbody f cdv A outer s H E hr
    refine ⟨u, t, h1, fun as Qd hl hp => ?_⟩
    cases as with
    | nil => simp at hl; omega
    | cons a as =>
      have en : ∀ (as : List Slot) (j : Nat) (ρ : DEnv), 0 < j → exitG [0] ρ j as = as := by
        intro as
        induction as with
        | nil => intro j ρ _; rfl
        | cons b bs ih =>
          intro j ρ hj
          simp only [exitG]
          rw [ih (j + 1) ρ (by omega), if_neg (by simp; omega)]
      have e : ∀ ρ, exitS n [0] (a :: as) ρ = DEnv.at ρ 0 :: as := fun ρ => by
        show (if ([0] : List Nat).contains 0 = true then DEnv.at ρ 0 else a) :: exitG [0] ρ 1 as = _
        rw [en as 1 ρ (by decide), if_pos (by decide)]
      simp only [e]
      rw [hj]
      exact h2 a as Qd hp
theorem Okd.imp {x : Str} {k n : Nat} {lf : List Nat} {P1 P2 : PSpec} (h : Okd P w K mg base k x n lf P1) (hi : ∀ as Q, P2 as Q → P1 as Q) : Okd P w K mg base k x n lf P2 := by
  obtain ⟨f, fd, ps, F, b, g, kp⟩ := h.ex
  refine ⟨f, fd, ps, F.imp fun vs H Q E h => ?_, b, g, kp⟩
  obtain ⟨hv, as, Fx', own, Qd, h1, h2, h3, h4, h5, h6, h7⟩ := h
  exact ⟨hv, as, Fx', own, Qd, h1, h2, h3, h4, h5, hi as Qd h6, h7⟩
end
section
variable {X : Cx} {L : List Nat} {a e : Expr} {es : List Expr} {pos : Pos} {ua : TA} {ta : DTA}
theorem de_fn {k n : Nat} {lf : List Nat} {P : PSpec} {x : Str} {p : Pos} (lp : List (Nat × Nat)) (G : Okd X.prog X.w X.K X.mg X.base k x n lf P) (hr : Room k X.A) (ha : DA X L (a :: es) ua ta) (hg : Gl X x := by rfl) (hlp : lpOk n lp = true := by rfl) (hlf : lp.map (·.1) = lf := by rfl) (hdb : (x == ("__debug__" : Str)) = false := by decide)
    (he : starEach (a :: es) X.env = (false, eval a X.env) :: starEach es X.env := by rfl) (hpl : (backTo pos (starEach es X.env)).any (·.1) = false := by rfl) :
    DE X L (.Call (.Name x p) (a :: es) [] pos) (tCall (spD n lf P) [] E0 ua) (tCallD n lp P ta) := by
  obtain ⟨f, fd, ps, F, b, g, kp⟩ := G.ex
  exact de_call lp F hr hg g kp b pass0 ha hlp hlf hdb he hpl
end
theorem sr_lt : SndR (rI0 fun i j => .bl (decide (i < j))) dLt := sr_cmp
theorem sr_le : SndR (rI0 fun i j => .bl (decide (i ≤ j))) dLe := sr_cmp
theorem sr_gt : SndR (rI0 fun i j => .bl (decide (j < i))) dGt := sr_cmp
theorem sr_ge : SndR (rI0 fun i j => .bl (decide (j ≤ i))) dGe := sr_cmp
/-- sorted, of ints or of pairs of ints -/
def rSortU (K : PySem.W.Frag) : List V → Hp → VK → Prop := fun vs H Q => rSortedI K vs H Q ∨ rSortedPO K vs H Q
theorem cr_sortU {X : Cx} : CallR X (.builtin "sorted") (rSortU X.K) := CallR.or cr_sortedI cr_sortedPO
def cSortU : RC := fun ds Q => match ds with
  | [.list xs] => match intsOf xs with
    | some ns => Q (.lst ((srt ns).map PyData.int))
    | none => opt (pairsOf xs) fun ps => Q (.lst ((srtP ps).map pD))
  | _ => False
theorem sc_sortU {K : PySem.W.Frag} : SndC (rSortU K) cSortU := fun F ρ I own σ H vs ds Qs Q R rx h k => by
  unfold cSortU at h
  split at h
  · rename_i xs
    split at h
    · rename_i ns e
      exact .inl (sc_sorted F ρ I own σ H vs _ Qs Q R rx (by show opt (intsOf xs) _; rw [e]; exact h) k)
    · exact .inr (sc_sortedP F ρ I own σ H vs _ Qs Q R rx h k)
  · exact h.elim
/-- list(range(a, b)) -/
def dLstRg (t : DEnv → (Int → Int → DEnv → Prop) → Prop) : DTE := fun ρ Q => t ρ fun a b ρ1 => (0 ≤ a ∧ a ≤ 16777216 ∧ 0 ≤ b ∧ b ≤ 16777216) ∧ Q (.lst (rangeD a (b - a).toNat)) ρ1
structure DR (X : Cx) (L : List Nat) (e : Expr) (u : L2.St → Hp → (Int → Int → Hp → Prop) → Prop) (t : DEnv → (Int → Int → DEnv → Prop) → Prop) : Prop where
  pr : PRg X e u
  snd : ∀ F ρ I own σ H Qd Q, FOk F L → Rel F ρ I own σ H → t ρ Qd → (∀ a b ρ1 I1 own1 H1, Rel F ρ1 I1 own1 σ H1 → Sub I I1 → Qd a b ρ1 → Q a b H1) → u σ H Q
section
variable {X : Cx} {L : List Nat} {a b e : Expr} {ua ub : TE} {ta tb : DTB} {pos p : Pos}
def dRg1 (t : DTB) : DEnv → (Int → Int → DEnv → Prop) → Prop := fun ρ Q => t ρ fun v ρ1 => opt (v.get ρ1) fun x => match x with
  | .int n => Q 0 n ρ1
  | _ => False
def dRg2 (t t2 : DTB) : DEnv → (Int → Int → DEnv → Prop) → Prop := fun ρ Q => t ρ fun v ρ1 => t2 ρ1 fun w ρ2 => opt (v.get ρ2) fun x => opt (w.get ρ2) fun y => match x, y with
  | .int n, .int m => Q n m ρ2
  | _, _ => False
theorem dr_1 (hg : Gl X "range") (hm : X.mg "range" = none) (ha : DB X L a ua ta) (na : starEach [a] X.env = (false, eval a X.env) :: starEach [] X.env := by rfl) : DR X L (.Call (.Name "range" p) [a] [] pos) (tRg1 ua) (dRg1 ta) :=
  ⟨prg_1 hg hm ha.pe na, fun F ρ I own σ H Qd Q fo R h k => ha.snd F ρ I own σ H _ _ fo R h fun v ρ1 I1 own1 H1 u R1 s1 r1 q => by
    obtain ⟨x, ex, q⟩ := opt_elim q
    have rx := r1.rep R1 ex
    split at q
    · exact ⟨_, rx.int, k _ _ ρ1 I1 own1 H1 R1 s1 q⟩
    · exact q.elim⟩
theorem dr_2 (hg : Gl X "range") (hm : X.mg "range" = none) (ha : DB X L a ua ta) (hb : DB X L b ub tb) (na : starEach [a, b] X.env = (false, eval a X.env) :: starEach [b] X.env := by rfl) (nb : starEach [b] X.env = (false, eval b X.env) :: starEach [] X.env := by rfl) (hpl : (backTo pos (starEach [b] X.env)).any (·.1) = false := by rfl) : DR X L (.Call (.Name "range" p) [a, b] [] pos) (tRg2 ua ub) (dRg2 ta tb) :=
  ⟨prg_2 hg hm ha.pe hb.pe na nb hpl, fun F ρ I own σ H Qd Q fo R h k => ha.snd F ρ I own σ H _ _ fo R h fun v ρ1 I1 own1 H1 u R1 s1 r1 q => hb.snd F ρ1 I1 own1 σ H1 _ _ fo R1 q fun v2 ρ2 I2 own2 H2 u2 R2 s2 r2 q => by
    obtain ⟨x, ex, q⟩ := opt_elim q
    obtain ⟨y, ey, q⟩ := opt_elim q
    have rx := (r1.mono s2).rep R2 ex
    have ry := r2.rep R2 ey
    split at q
    · exact ⟨_, _, rx.int, ry.int, k _ _ ρ2 I2 own2 H2 R2 (s1.trans s2) q⟩
    · exact q.elim⟩
theorem repL_rg {I : Hp} (a b : Int) : RepL I (rgV a b) (rangeD a (b - a).toNat) := by
  unfold rgV rangeD
  rw [show (List.range (b - a).toNat).map (fun i => V.int (a + (i : Nat))) = ((List.range (b - a).toNat).map fun i => a + (i : Nat)).map V.int from by rw [List.map_map]; rfl,
    show (List.range (b - a).toNat).map (fun i => PyData.int (a + (i : Nat))) = ((List.range (b - a).toNat).map fun i => a + (i : Nat)).map PyData.int from by rw [List.map_map]; rfl]
  exact .ofInts _
theorem de_listRg {u : L2.St → Hp → (Int → Int → Hp → Prop) → Prop} {t : DEnv → (Int → Int → DEnv → Prop) → Prop} (hc : X.calm = true) (hg : Gl X "list") (hm : X.mg "list" = none) (he : DR X L e u t) (na : starEach [e] X.env = (false, eval e X.env) :: starEach [] X.env := by rfl) : DE X L (.Call (.Name "list" p) [e] [] pos) (tLstRg u) (dLstRg t) :=
  ⟨pe_listRg hc hg hm he.pr na, fun F ρ I own σ H Qd Q fo R h k => he.snd F ρ I own σ H _ _ fo R h fun a b ρ1 I1 own1 H1 R1 s1 q =>
    ⟨RgOk.of_le q.1.1 q.1.2.2.2 q.1.2.1 q.1.2.2.1, fun r hr => k _ ρ1 I1 own1 _ _ (R1.laid hr) s1 (ResOk.new R1 hr (repL_rg a b)) q.2⟩⟩
end
end DL

set_option Elab.async false
set_option linter.all false
set_option maxRecDepth 100000
namespace DL
open PySem PySem.Spec L2
open PyProof.Rows hiding St

def slotK (ρ : DEnv) (i : Nat) (k : Slot → Prop) : Prop := k (ρ.at i)
def setK (ρ : DEnv) (i : Nat) (s : Slot) (k : DEnv → Prop) : Prop := k (ρ.set i s)
/-- a tree as data -/
def toDK (o : OV) (k : D → Prop) : Prop := opt o.toD k
def toDsK (xs : List OV) (k : List D → Prop) : Prop := opt (OV.toDs xs) k
theorem toDK_f {d : D} {k : D → Prop} : toDK (.fz d) k = k d := by unfold toDK; rw [OV.toD]; rfl
theorem toDK_l {a : Option Addr} {xs : List OV} {k : D → Prop} : toDK (.lst a xs) k = toDsK xs fun ds => k (.list ds) := by
  unfold toDK toDsK; rw [OV.toD]
  cases OV.toDs xs <;> rfl
theorem toDsK_0 {k : List D → Prop} : toDsK [] k = k [] := by unfold toDsK; rw [OV.toDs]; rfl
theorem toDsK_s {x : OV} {xs : List OV} {k : List D → Prop} : toDsK (x :: xs) k = toDK x fun d => toDsK xs fun ds => k (d :: ds) := by
  unfold toDK toDsK; rw [OV.toDs]
  cases OV.toD x with
  | none => rfl
  | some d => cases OV.toDs xs <;> rfl
theorem toDsK_m {α : Type} {g : α → OV} {f : α → D} (h : ∀ x, (g x).toD = some (f x)) {xs : List α} {k : List D → Prop} : toDsK (xs.map g) k = k (xs.map f) := by
  have e : OV.toDs (xs.map g) = some (xs.map f) := by
    induction xs with
    | nil => rw [List.map_nil, OV.toDs]; rfl
    | cons x xs ih => rw [List.map_cons, OV.toDs, h x, ih]; rfl
  unfold toDsK; rw [e]; rfl
theorem toD_fz {d : D} : (OV.fz d).toD = some d := by rw [OV.toD]
theorem toDsK_fz {ds : List D} {k : List D → Prop} : toDsK (ds.map .fz) k = k ds := by
  have := toDsK_m (g := OV.fz) (f := id) (fun x => toD_fz) (xs := ds) (k := k)
  rw [List.map_id] at this
  exact this
def frzK (s : Slot) (k : D → Prop) : Prop := match s with
  | .fz d => k d
  | .lst ds => k (.list ds)
  | .ov o => toDK o k
  | _ => False
def blK (s : Slot) (k : Bool → Prop) : Prop := match s with
  | .fz (.bool b) => k b
  | _ => False
def flatK (o : OV) (k : D → Prop) : Prop := opt o.flat k
/-- read on the spot -/
def spotK (s : Slot) (k : D → Prop) : Prop := match s with
  | .fz d => k d
  | .lst ds => k (.list ds)
  | .ov o => flatK o k
  | _ => False
/-- the tree at a place, its address p -/
def plK (ρ : DEnv) (i : Nat) (π : List Nat) (p : Addr) (k : OV → Prop) : Prop := opt (ρ.node i π p) k
def getK (ρ : DEnv) (b : BV) (k : D → Prop) : Prop := match b with
  | .d x => k x
  | .v i => slotK ρ i fun s => spotK s k
  | .pl i π p => plK ρ i π p fun c => flatK c k
def getsK (ρ : DEnv) : List BV → (List D → Prop) → Prop
  | [], k => k []
  | b :: bs, k => getK ρ b fun x => getsK ρ bs fun xs => k (x :: xs)
def allK : List BV → (List D → Prop) → Prop
  | [], k => k []
  | .d x :: bs, k => allK bs fun xs => k (x :: xs)
  | _ :: _, _ => False
def argK : List BV → (List Slot → Prop) → Prop
  | [], k => k []
  | .d x :: bs, k => argK bs fun xs => k (.fz x :: xs)
  | _ :: _, _ => False
section
variable {ρ : DEnv} {i n : Nat} {s a : Slot} {k : Slot → Prop} {kd : DEnv → Prop} {kD : D → Prop} {kb : Bool → Prop} {kl : List D → Prop} {ks : List Slot → Prop} {d x : D} {ds : List D} {b : BV} {bs : List BV}
theorem slotK_0 : slotK (s :: ρ) 0 k = k s := rfl
theorem slotK_s : slotK (s :: ρ) (n + 1) k = slotK ρ n k := rfl
theorem setK_0 : setK (a :: ρ) 0 s kd = kd (s :: ρ) := rfl
theorem setK_s : setK (a :: ρ) (n + 1) s kd = setK ρ n s fun ρ' => kd (a :: ρ') := rfl
theorem frzK_f : frzK (.fz d) kD = kD d := rfl
theorem frzK_l : frzK (.lst ds) kD = kD (.list ds) := rfl
theorem frzK_o {o : OV} : frzK (.ov o) kD = toDK o kD := rfl
theorem spotK_o {o : OV} : spotK (.ov o) kD = flatK o kD := rfl
theorem flatK_f : flatK (.fz d) kD = kD d := rfl
theorem flatK_l {a : Option Addr} : flatK (.lst a (ds.map .fz)) kD = kD (.list ds) := by
  have e : ∀ ds : List D, fzsOf (ds.map .fz) = some ds := fun ds => by
    induction ds with
    | nil => rfl
    | cons d ds ih => simp only [List.map_cons, fzsOf, ih, Option.map_some]
  unfold flatK; simp only [OV.flat, e]; rfl
theorem flatK_0 {a : Option Addr} : flatK (.lst a []) kD = kD (.list []) := rfl
theorem getK_p {π : List Nat} {p : Addr} : getK ρ (.pl i π p) kD = plK ρ i π p fun c => flatK c kD := rfl
theorem spotK_f : spotK (.fz d) kD = kD d := rfl
theorem spotK_l : spotK (.lst ds) kD = kD (.list ds) := rfl
theorem blK_b {b : Bool} : blK (.fz (.bool b)) kb = kb b := rfl
theorem getK_d : getK ρ (.d x) kD = kD x := rfl
theorem getK_v : getK ρ (.v i) kD = slotK ρ i fun s => spotK s kD := rfl
theorem getsK_0 : getsK ρ [] kl = kl [] := rfl
theorem getsK_s : getsK ρ (b :: bs) kl = getK ρ b fun x => getsK ρ bs fun xs => kl (x :: xs) := rfl
theorem allK_0 : allK [] kl = kl [] := rfl
theorem allK_s : allK (.d x :: bs) kl = allK bs fun xs => kl (x :: xs) := rfl
theorem argK_0 : argK [] ks = ks [] := rfl
theorem argK_s : argK (.d x :: bs) ks = argK bs fun xs => ks (.fz x :: xs) := rfl
theorem opt_frz : opt (frzS s) kD = frzK s kD := by cases s <;> rfl
theorem opt_bl : opt (blS s) kb = blK s kb := by
  cases s with
  | fz d => cases d <;> rfl
  | _ => rfl
theorem opt_get : opt (b.get ρ) kD = getK ρ b kD := by
  cases b with
  | d x => rfl
  | v i =>
    show opt (match ρ.at i with
      | .fz x => some x
      | .lst ds => some (.list ds)
      | .ov o => o.flat
      | _ => none) kD = spotK (ρ.at i) kD
    cases ρ.at i <;> rfl
  | pl i π p =>
    show opt (match ρ.node i π p with
      | some c => c.flat
      | none => none) kD = opt (ρ.node i π p) fun c => opt c.flat kD
    cases ρ.node i π p <;> rfl
theorem opt_gets : ∀ {bs : List BV} {kl : List D → Prop}, opt (getD' ρ bs) kl = getsK ρ bs kl
  | [], _ => rfl
  | b :: bs, kl => by
    simp only [getsK, getD']
    rw [← opt_get]
    cases h : b.get ρ with
    | none => rfl
    | some x =>
      show _ = getsK ρ bs fun xs => kl (x :: xs)
      rw [← opt_gets]
      cases getD' ρ bs <;> rfl
theorem opt_all : ∀ {bs : List BV} {kl : List D → Prop}, opt (allD bs) kl = allK bs kl
  | [], _ => rfl
  | .v _ :: _, _ => rfl
  | .pl _ _ _ :: _, _ => rfl
  | .d x :: bs, kl => by
    simp only [allD, allK]
    rw [← opt_all]
    cases allD bs <;> rfl
theorem opt_arg : ∀ {bs : List BV} {j : Nat} {ks : List Slot → Prop}, opt (argS ρ [] j bs) ks = argK bs ks
  | [], _, _ => rfl
  | .v _ :: _, j, _ => by simp only [argS, fwd, List.find?_nil, Option.map_none]; rfl
  | .pl _ _ _ :: _, j, _ => by simp only [argS, fwd, List.find?_nil, Option.map_none]; rfl
  | .d x :: bs, j, ks => by
    simp only [argS, fwd, List.find?_nil, Option.map_none, argK]
    rw [← opt_arg (j := j + 1)]
    cases argS ρ [] (j + 1) bs <;> rfl
theorem opt_arg1 {i : Nat} : ∀ {bs : List BV} {j : Nat} {ks : List Slot → Prop}, 0 < j → opt (argS ρ [(0, i)] j bs) ks = argK bs ks
  | [], _, _, _ => rfl
  | .v _ :: _, j + 1, _, _ => by
    have : fwd [(0, i)] (j + 1) = none := rfl
    simp only [argS, this]; rfl
  | .pl _ _ _ :: _, j + 1, _, _ => by
    have : fwd [(0, i)] (j + 1) = none := rfl
    simp only [argS, this]; rfl
  | .d x :: bs, j + 1, ks, _ => by
    have : fwd [(0, i)] (j + 1) = none := rfl
    simp only [argS, this, argK]
    rw [← opt_arg1 (j := j + 1 + 1) (by omega)]
    cases argS ρ [(0, i)] (j + 1 + 1) bs <;> rfl
end

section
variable {ρ : DEnv} {i j n : Nat} {Q : DK} {Qb : BV → DEnv → Prop} {Qt : Bool → DEnv → Prop} {Qa : List BV → DEnv → Prop} {Qs : Slot → Prop} {d : D} {t t1 t2 t3 : DTE} {ta tb tc : DTB} {tt tu : DTT} {ts tr : DTA} {rd rd' : RD} {rc : RC} {P : PSpec} {Z : DEnds} {u v : DTS} {g : DTG} {gs : DTGs} {Qd : DEnv → Prop}
theorem e_K : tK d ρ Q = Q (.fz d) ρ := rfl
theorem e_name : tName i ρ Q = slotK ρ i fun s => match s with
  | .fz d => Q (.fz d) ρ
  | .lst ds => setK ρ i (.fz (.list ds)) fun ρ' => Q (.fz (.list ds)) ρ'
  | .ov o => toDK o fun d => setK ρ i (.fz d) fun ρ' => Q (.fz d) ρ'
  | _ => False := rfl
theorem e_move : tMove i ρ Q = slotK ρ i fun s => match s with
  | .fz d => Q (.fz d) ρ
  | .un => False
  | s => setK ρ i .un fun ρ' => Q s ρ' := rfl
theorem e_nmB : tNmB i ρ Qb = slotK ρ i fun s => match s with
  | .un => False
  | _ => Qb (.v i) ρ := rfl
theorem e_of : tOf t ρ Qb = t ρ fun s ρ' => frzK s fun d => Qb (.d d) ρ' := by unfold tOf; simp only [opt_frz]
theorem e_bin : tBin rd ta tb ρ Q = ta ρ fun a ρ1 => tb ρ1 fun b ρ2 => getK ρ2 a fun x => getK ρ2 b fun y => rd x y fun s => Q s ρ2 := by unfold tBin; simp only [opt_get]
theorem e_bl : tBl t ρ Qt = t ρ fun s ρ' => blK s fun b => Qt b ρ' := by unfold tBl; simp only [opt_bl]
theorem e_chn : tChn rd rd' ta tb tc ρ Q = ta ρ fun a ρ1 => tb ρ1 fun b ρ2 => getK ρ2 a fun x => getK ρ2 b fun y => rd x y fun s => blK s fun k =>
  if k = true then tc ρ2 fun c ρ3 => getK ρ3 b fun y => getK ρ3 c fun z => rd' y z fun s' => Q s' ρ3 else Q (.fz (.bool false)) ρ2 := by unfold tChn; simp only [opt_get, opt_bl]
theorem e_and : dAnd tt tu ρ Qt = tt ρ fun c ρ1 => if c = true then tu ρ1 Qt else Qt false ρ1 := rfl
theorem e_or : dOr tt tu ρ Qt = tt ρ fun c ρ1 => if c = true then Qt true ρ1 else tu ρ1 Qt := rfl
theorem e_not : dNot tt ρ Qt = tt ρ fun c ρ1 => Qt (!c) ρ1 := rfl
theorem e_andV : dAndV t t2 ρ Q = t ρ fun s ρ1 => blK s fun c => if c = true then t2 ρ1 Q else Q (.fz (.bool false)) ρ1 := by unfold dAndV; simp only [opt_bl]
theorem e_orV : dOrV t t2 ρ Q = t ρ fun s ρ1 => blK s fun c => if c = true then Q (.fz (.bool true)) ρ1 else t2 ρ1 Q := by unfold dOrV; simp only [opt_bl]
theorem e_notV : dNotV t ρ Q = t ρ fun s ρ1 => blK s fun c => Q (.fz (.bool (!c))) ρ1 := by unfold dNotV; simp only [opt_bl]
theorem e_if : dIf tt t1 t2 ρ Q = tt ρ fun c ρ1 => if c = true then t1 ρ1 Q else t2 ρ1 Q := rfl
theorem e_nil : dNil ρ Qa = Qa [] ρ := rfl
theorem e_cons : dCons ta ts ρ Qa = ta ρ fun b ρ1 => ts ρ1 fun bs ρ2 => Qa (b :: bs) ρ2 := rfl
theorem e_tup : dTup ts ρ Q = ts ρ fun bs ρ1 => allK bs fun ds => ds.length ≤ sizeLine ∧ Q (.fz (.tuple ds)) ρ1 := by unfold dTup; simp only [opt_all]
theorem e_lst : dLst ts ρ Q = ts ρ fun bs ρ1 => allK bs fun ds => ds.length ≤ sizeLine ∧ Q (.lst ds) ρ1 := by unfold dLst; simp only [opt_all]
theorem e_cb : dCall rc ts ρ Q = ts ρ fun bs ρ1 => getsK ρ1 bs fun ds => rc ds fun s => Q s ρ1 := by unfold dCall; simp only [opt_gets]
theorem e_isi {f : PyData → Bool} : dIsi f ta ρ Q = ta ρ fun b ρ1 => getK ρ1 b fun x => Q (.fz (.bool (f x))) ρ1 := by unfold dIsi; simp only [opt_get]
def negK (x : D) (k : Int → Prop) : Prop := match x with
  | .int i => k i
  | _ => False
theorem negK_i {i : Int} {k : Int → Prop} : negK (.int i) k = k i := rfl
theorem e_neg : dNeg ta ρ Q = ta ρ fun b ρ1 => getK ρ1 b fun x => negK x fun i => Q (.fz (.int (-i))) ρ1 := by
  unfold dNeg
  simp only [opt_get]
  refine congrArg (ta ρ) (funext fun b => funext fun ρ1 => congrArg (getK ρ1 b) (funext fun x => ?_))
  cases x <;> rfl
theorem e_fn0 : tCallD n [] P ts ρ Q = ts ρ fun bs ρ1 => argK bs fun as => as.length = n ∧ P as fun s _ => Q s ρ1 := by
  unfold tCallD
  simp only [opt_arg]
  rfl
def callK (n i : Nat) (P : PSpec) (bs : List BV) (ρ : DEnv) (Q : DK) : Prop := opt (argS ρ [(0, i)] 0 bs) fun as => as.length = n ∧ P as fun s as' => Q s (backS [(0, i)] as' ρ)
theorem e_fn1 : tCallD n [(0, i)] P ts ρ Q = ts ρ fun bs ρ1 => callK n i P bs ρ1 Q := rfl
theorem callK_v {bs : List BV} : callK n i P (.v i :: bs) ρ Q = slotK ρ i fun s0 => argK bs fun as => as.length + 1 = n ∧ P (s0 :: as) fun s as' => setK ρ i (as'.getD 0 .un) fun ρ2 => Q s ρ2 := by
  unfold callK slotK
  have f0 : fwd [(0, i)] 0 = some i := rfl
  simp only [argS, f0, if_true]
  rw [← opt_arg1 (ρ := ρ) (i := i) (j := 1) (by decide)]
  cases argS ρ [(0, i)] (0 + 1) bs <;> rfl
theorem getD_0 {s : Slot} {as : List Slot} : (s :: as).getD 0 Slot.un = s := rfl
def partK (x : D) (k : Int → Prop) : Prop := negK x k
theorem e_noPart {Qo : Option Int → DEnv → Prop} : dNoPart ρ Qo = Qo none ρ := rfl
theorem e_part {Qo : Option Int → DEnv → Prop} : dPart ta ρ Qo = ta ρ fun b ρ1 => getK ρ1 b fun x => negK x fun i => Qo (some i) ρ1 := by
  unfold dPart
  simp only [opt_get]
  refine congrArg (ta ρ) (funext fun b => funext fun ρ1 => congrArg (getK ρ1 b) (funext fun x => ?_))
  cases x <;> rfl
def slK (x : D) (l h : Option Int) (k : Slot → Prop) : Prop := match x with
  | .list ds => k (.lst (cutD ds l h))
  | .tuple ds => k (.fz (.tuple (cutD ds l h)))
  | .str z => z.length ≤ sizeLine ∧ k (.fz (.str (cutS z l h)))
  | _ => False
theorem e_sl {tl th : DEnv → (Option Int → DEnv → Prop) → Prop} : dSl ta tl th ρ Q = ta ρ fun b ρ1 => tl ρ1 fun l ρ2 => th ρ2 fun h ρ3 => getK ρ3 b fun x => slK x l h fun s => Q s ρ3 := by
  unfold dSl
  simp only [opt_get]
  refine congrArg (ta ρ) (funext fun b => funext fun ρ1 => congrArg (tl ρ1) (funext fun l => funext fun ρ2 => congrArg (th ρ2) (funext fun h => funext fun ρ3 => congrArg (getK ρ3 b) (funext fun x => ?_))))
  cases x <;> rfl
def revK (x : D) (k : Slot → Prop) : Prop := match x with
  | .list ds => k (.lst ds.reverse)
  | _ => False
theorem e_rev : dRev ta ρ Q = ta ρ fun b ρ1 => getK ρ1 b fun x => revK x fun s => Q s ρ1 := by
  unfold dRev
  simp only [opt_get]
  refine congrArg (ta ρ) (funext fun b => funext fun ρ1 => congrArg (getK ρ1 b) (funext fun x => ?_))
  cases x <;> rfl
theorem slK_l {ds : List D} {l h : Option Int} {k : Slot → Prop} : slK (.list ds) l h k = k (.lst (cutD ds l h)) := rfl
theorem slK_t {ds : List D} {l h : Option Int} {k : Slot → Prop} : slK (.tuple ds) l h k = k (.fz (.tuple (cutD ds l h))) := rfl
theorem revK_l {ds : List D} {k : Slot → Prop} : revK (.list ds) k = k (.lst ds.reverse) := rfl

variable {x y m : Int} {a b : Bool} {xs ys : List D} {s s2 : Str}
theorem e_add : dAdd (.int x) (.int y) Qs = Qs (.fz (.int (x + y))) := rfl
theorem e_addL : dAdd (.list xs) (.list ys) Qs = (xs.length + ys.length ≤ sizeLine ∧ Qs (.lst (xs ++ ys))) := rfl
theorem e_addT : dAdd (.tuple xs) (.tuple ys) Qs = (xs.length + ys.length ≤ sizeLine ∧ Qs (.fz (.tuple (xs ++ ys)))) := rfl
theorem e_addS : dAdd (.str s) (.str s2) Qs = (s.length + s2.length ≤ sizeLine ∧ Qs (.fz (.str (s ++ s2)))) := rfl
theorem e_sub : dSub (.int x) (.int y) Qs = Qs (.fz (.int (x - y))) := rfl
/-- fit to be multiplied -/
def mulOk (x y : Int) : Prop := (-(2 ^ 64) < x ∧ x < 2 ^ 64) ∨ (-(2 ^ 64) < y ∧ y < 2 ^ 64)
theorem e_mul : dMul (.int x) (.int y) Qs = (mulOk x y ∧ Qs (.fz (.int (x * y)))) := rfl
def repOk (n : Nat) (y : Int) : Prop := -(2 ^ 63) ≤ y ∧ y < 2 ^ 63 ∧ n * y.toNat ≤ sizeLine
theorem e_mulL : dMul (.list xs) (.int y) Qs = (repOk xs.length y ∧ Qs (.lst (List.replicate y.toNat xs).flatten)) := rfl
def divOk (y : Int) : Prop := 0 < y ∧ y < 2 ^ 100
theorem e_div : dDiv (.int x) (.int y) Qs = (divOk y ∧ Qs (.fz (.int (x / y)))) := rfl
theorem e_mod : dMod (.int x) (.int y) Qs = (0 < y ∧ Qs (.fz (.int (x % y)))) := rfl
def powOk (x y : Int) : Prop := 0 ≤ y ∧ y ≤ 1000 ∧ x.natAbs < 2 ^ 64
theorem e_pow : dPow (.int x) (.int y) Qs = (powOk x y ∧ Qs (.fz (.int (x ^ y.toNat)))) := rfl
theorem e_shl : dShl (.int x) (.int y) Qs = (powOk x y ∧ Qs (.fz (.int (x * 2 ^ y.toNat)))) := rfl
theorem e_lt : dLt (.int x) (.int y) Qs = Qs (.fz (.bool (decide (x < y)))) := rfl
theorem e_le : dLe (.int x) (.int y) Qs = Qs (.fz (.bool (decide (x ≤ y)))) := rfl
theorem e_gt : dGt (.int x) (.int y) Qs = Qs (.fz (.bool (decide (y < x)))) := rfl
theorem e_ge : dGe (.int x) (.int y) Qs = Qs (.fz (.bool (decide (y ≤ x)))) := rfl
theorem e_eq : dEq (.int x) (.int y) Qs = Qs (.fz (.bool (decide (x = y)))) := rfl
theorem e_ne : dNe (.int x) (.int y) Qs = Qs (.fz (.bool (!decide (x = y)))) := rfl
theorem e_eqS : dEq (.str s) (.str s2) Qs = Qs (.fz (.bool (decide (s = s2)))) := rfl
theorem e_neS : dNe (.str s) (.str s2) Qs = Qs (.fz (.bool (!decide (s = s2)))) := rfl
theorem e_eqB : dEq (.bool a) (.bool b) Qs = Qs (.fz (.bool (decide (a = b)))) := rfl
theorem e_neB : dNe (.bool a) (.bool b) Qs = Qs (.fz (.bool (!decide (a = b)))) := rfl
/-- other data -/
def eqK (x y : D) (k : Bool → Prop) : Prop := (gd 60 x = true ∧ gd 60 y = true) ∧ k (PyData.eqv x y)
theorem e_eqL {y : D} : dEq (.list xs) y Qs = eqK (.list xs) y fun b => Qs (.fz (.bool b)) := by cases y <;> rfl
theorem e_neL {y : D} : dNe (.list xs) y Qs = eqK (.list xs) y fun b => Qs (.fz (.bool (!b))) := by cases y <;> rfl
theorem e_eqT {y : D} : dEq (.tuple xs) y Qs = eqK (.tuple xs) y fun b => Qs (.fz (.bool b)) := by cases y <;> rfl
theorem e_neT {y : D} : dNe (.tuple xs) y Qs = eqK (.tuple xs) y fun b => Qs (.fz (.bool (!b))) := by cases y <;> rfl
theorem e_eqN {y : D} : dEq .none y Qs = eqK .none y fun b => Qs (.fz (.bool b)) := by cases y <;> rfl
theorem e_eqIN : dEq (.int x) .none Qs = eqK (.int x) .none fun b => Qs (.fz (.bool b)) := rfl
theorem e_is {d : D} : dIs d .none Qs = Qs (.fz (.bool (isN d))) := by cases d <;> rfl
theorem e_isB : dIs (.bool a) (.bool b) Qs = Qs (.fz (.bool (decide (a = b)))) := rfl
theorem e_isnot {d : D} : dIsNot d .none Qs = Qs (.fz (.bool (!isN d))) := by cases d <;> rfl
theorem e_isnotB : dIsNot (.bool a) (.bool b) Qs = Qs (.fz (.bool (!decide (a = b)))) := rfl
def inK (x : D) (ds : List D) (k : Bool → Prop) : Prop := (flatD x = true ∧ ds.all flatD = true) ∧ k (inD x ds)
theorem e_in {d : D} : dIn d (.list xs) Qs = inK d xs fun b => Qs (.fz (.bool b)) := rfl
theorem e_inT {d : D} : dIn d (.tuple xs) Qs = inK d xs fun b => Qs (.fz (.bool b)) := rfl
theorem e_notin {d : D} : dNotIn d (.list xs) Qs = inK d xs fun b => Qs (.fz (.bool (!b))) := rfl
def atK (ds : List D) (i : Int) (k : D → Prop) : Prop := opt (atI ds i) k
theorem e_ix : dIx (.list xs) (.int x) Qs = atK xs x fun d => Qs (.fz d) := rfl
theorem e_ixT : dIx (.tuple xs) (.int x) Qs = atK xs x fun d => Qs (.fz d) := rfl
theorem e_len : cLen [.list xs] Qs = Qs (.fz (.int xs.length)) := rfl
theorem e_lenT : cLen [.tuple xs] Qs = Qs (.fz (.int xs.length)) := rfl
theorem e_lenS : cLen [.str s] Qs = (s.length ≤ sizeLine ∧ Qs (.fz (.int s.length))) := rfl
def intsK (xs : List D) (k : List Int → Prop) : Prop := opt (intsOf xs) k
theorem intsK_m {ns : List Int} {k : List Int → Prop} : intsK (ns.map PyData.int) k = k ns := by unfold intsK; rw [intsOf_map]; rfl
theorem intsK_0 {k : List Int → Prop} : intsK [] k = k [] := rfl
theorem intsK_s {k : List Int → Prop} : intsK (.int x :: xs) k = intsK xs fun ns => k (x :: ns) := by
  unfold intsK
  simp only [intsOf]
  cases intsOf xs <;> rfl
theorem e_sum : cSum [.list xs] Qs = intsK xs fun ns => Qs (.fz (.int ns.sum)) := rfl
theorem e_max : cMax [.list xs] Qs = intsK xs fun ns => 0 < ns.length ∧ ∀ m, m ∈ ns → (∀ y ∈ ns, y ≤ m) → Qs (.fz (.int m)) := rfl
theorem e_min : cMin [.list xs] Qs = intsK xs fun ns => 0 < ns.length ∧ ∀ m, m ∈ ns → (∀ y ∈ ns, m ≤ y) → Qs (.fz (.int m)) := rfl
theorem e_max2 : cMax [.int x, .int y] Qs = Qs (.fz (.int (if y > x then y else x))) := rfl
theorem e_min2 : cMin [.int x, .int y] Qs = Qs (.fz (.int (if y < x then y else x))) := rfl
theorem e_abs : cAbs [.int x] Qs = Qs (.fz (.int (if x < 0 then -x else x))) := rfl
theorem e_int : cInt [.int x] Qs = Qs (.fz (.int x)) := rfl
theorem e_intB : cInt [.bool a] Qs = Qs (.fz (.int (if a then 1 else 0))) := rfl
theorem e_list : cList [.list xs] Qs = Qs (.lst xs) := rfl
theorem e_listT : cList [.tuple xs] Qs = Qs (.lst xs) := rfl
theorem e_tuple : cTuple [.list xs] Qs = Qs (.fz (.tuple xs)) := rfl
def boolsK (xs : List D) (k : List Bool → Prop) : Prop := opt (boolsOf xs) k
theorem boolsK_m {ns : List Bool} {k : List Bool → Prop} : boolsK (ns.map PyData.bool) k = k ns := by unfold boolsK; rw [boolsOf_map]; rfl
theorem e_all : cAll [.list xs] Qs = boolsK xs fun ns => Qs (.fz (.bool (ns.all id))) := rfl
theorem e_any : cAny [.list xs] Qs = boolsK xs fun ns => Qs (.fz (.bool (ns.any id))) := rfl
def sortK (xs : List D) (k : List D → Prop) : Prop := match intsOf xs with
  | some ns => k ((srt ns).map PyData.int)
  | none => opt (pairsOf xs) fun ps => k ((srtP ps).map pD)
theorem e_sorted : cSortU [.list xs] Qs = sortK xs fun ys => Qs (.lst ys) := by
  unfold cSortU sortK
  dsimp only
  all_goals (cases intsOf xs <;> rfl)
theorem sortK_m {ns : List Int} {k : List D → Prop} : sortK (ns.map PyData.int) k = k ((srt ns).map PyData.int) := by unfold sortK; rw [intsOf_map]
theorem sortK_p {ps : List (Int × Int)} {k : List D → Prop} : sortK (ps.map pD) k = k ((srtP ps).map pD) := by
  unfold sortK
  cases ps with
  | nil => simp [intsOf, srt, srtP]
  | cons p ps =>
    have : intsOf ((p :: ps).map pD) = none := rfl
    rw [this]
    show opt (pairsOf ((p :: ps).map pD)) _ = _
    rw [pairsOf_map]; rfl
theorem isN_i : isN (.int x) = false := rfl
theorem isN_n : isN .none = true := rfl
theorem isN_l : isN (.list xs) = false := rfl
theorem isN_t : isN (.tuple xs) = false := rfl

theorem e_next : dNext Z ρ = Z.nx ρ := rfl
theorem e_seq : dSeq u v Z ρ = u { nx := v Z, rt := Z.rt, bk := Z.bk, ct := Z.ct } ρ := rfl
theorem e_break : dBreak Z ρ = Z.bk ρ := rfl
theorem e_cont : dCont Z ρ = Z.ct ρ := rfl
theorem e_drop : dDrop t Z ρ = t ρ fun _ ρ1 => Z.nx ρ1 := rfl
theorem e_ret : dRet t Z ρ = t ρ Z.rt := rfl
theorem e_retN : dRetN Z ρ = Z.rt (.fz .none) ρ := rfl
theorem e_ifS : dIfS tt u v Z ρ = tt ρ fun b ρ1 => if b = true then u Z ρ1 else v Z ρ1 := rfl
theorem e_set : dSet i t Z ρ = t ρ fun s ρ1 => setK ρ1 i s Z.nx := rfl
theorem e_asg : dAsg t g Z ρ = t ρ fun s ρ1 => frzK s fun d => g d ρ1 Z.nx := by unfold dAsg; simp only [opt_frz]
theorem e_gnm : gNm i d ρ Qd = setK ρ i (.fz d) Qd := rfl
def tpK (n : Nat) (d : D) (k : List D → Prop) : Prop := match d with
  | .tuple ds => ds.length = n ∧ k ds
  | _ => False
theorem e_gtp : gTp n gs d ρ Qd = tpK n d fun ds => gs ds ρ Qd := by cases d <;> rfl
theorem tpK_t {k : List D → Prop} : tpK n (.tuple xs) k = (xs.length = n ∧ k xs) := rfl
theorem e_gs0 : gsNil [] ρ Qd = Qd ρ := rfl
theorem e_gss : gsCons g gs (d :: xs) ρ Qd = g d ρ fun ρ1 => gs xs ρ1 Qd := rfl
def lstK (s : Slot) (k : List D → Prop) : Prop := match s with
  | .lst ds => k ds
  | _ => False
theorem lstK_l {k : List D → Prop} : lstK (.lst xs) k = k xs := rfl
theorem e_lstAt {k : List D → Prop} : lstAt ρ i k = slotK ρ i fun s => lstK s k := by unfold lstAt slotK lstK; rfl
theorem e_append : dAppend i t ρ Q = slotK ρ i fun s0 => lstK s0 fun _ => t ρ fun s ρ1 => frzK s fun d => slotK ρ1 i fun s1 => lstK s1 fun ds => ds.length < sizeLine ∧ setK ρ1 i (.lst (ds ++ [d])) fun ρ2 => Q (.fz .none) ρ2 := by
  unfold dAppend; simp only [opt_frz, e_lstAt]; rfl
def extK (x : D) (k : List D → Prop) : Prop := match x with
  | .list es => k es
  | _ => False
theorem extK_l {k : List D → Prop} : extK (.list xs) k = k xs := rfl
theorem e_extend : dExtend i ta ρ Q = slotK ρ i fun s0 => lstK s0 fun _ => ta ρ fun b ρ1 => getK ρ1 b fun y => extK y fun es => slotK ρ1 i fun s1 => lstK s1 fun ds => ds.length + es.length ≤ sizeLine ∧ setK ρ1 i (.lst (ds ++ es)) fun ρ2 => Q (.fz .none) ρ2 := by
  unfold dExtend
  simp only [opt_get, e_lstAt]
  refine congrArg (slotK ρ i) (funext fun s0 => congrArg (lstK s0) (funext fun _ => congrArg (ta ρ) (funext fun b => funext fun ρ1 => congrArg (getK ρ1 b) (funext fun y => ?_))))
  cases y <;> rfl
theorem e_popAt : dPopAt i ta ρ Q = slotK ρ i fun s0 => lstK s0 fun _ => ta ρ fun b ρ1 => getK ρ1 b fun y => negK y fun n => slotK ρ1 i fun s1 => lstK s1 fun ds => 0 ≤ n ∧ n < 1000000 ∧ opt ds[n.toNat]? fun d => setK ρ1 i (.lst (ds.eraseIdx n.toNat)) fun ρ2 => Q (.fz d) ρ2 := by
  unfold dPopAt
  simp only [opt_get, e_lstAt]
  refine congrArg (slotK ρ i) (funext fun s0 => congrArg (lstK s0) (funext fun _ => congrArg (ta ρ) (funext fun b => funext fun ρ1 => congrArg (getK ρ1 b) (funext fun y => ?_))))
  cases y <;> rfl
theorem e_reverse : dReverse i ρ Q = slotK ρ i fun s => lstK s fun ds => setK ρ i (.lst ds.reverse) fun ρ2 => Q (.fz .none) ρ2 := by unfold dReverse; simp only [e_lstAt]; rfl
def ixK (n : Nat) (i : Int) (k : Nat → Prop) : Prop := opt (ixN n i) k
theorem e_setI : dSetI i tb t Z ρ = t ρ fun s ρ1 => frzK s fun d => slotK ρ1 i fun s0 => lstK s0 fun _ => tb ρ1 fun b ρ2 => getK ρ2 b fun y => negK y fun n => slotK ρ2 i fun s1 => lstK s1 fun ds => ixK ds.length n fun j => setK ρ2 i (.lst (ds.set j d)) Z.nx := by
  unfold dSetI
  simp only [opt_get, opt_frz, e_lstAt]
  refine congrArg (t ρ) (funext fun s => funext fun ρ1 => congrArg (frzK s) (funext fun d => congrArg (slotK ρ1 i) (funext fun s0 => congrArg (lstK s0) (funext fun _ => congrArg (tb ρ1) (funext fun b => funext fun ρ2 => congrArg (getK ρ2 b) (funext fun y => ?_))))))
  cases y <;> rfl
def fzK (s : Slot) (k : D → Prop) : Prop := match s with
  | .fz d => k d
  | _ => False
theorem fzK_f {k : D → Prop} : fzK (.fz d) k = k d := rfl
theorem e_aug {f : Int → Int → Int} : dAug i f ta Z ρ = slotK ρ i fun s => fzK s fun x => negK x fun m => ta ρ fun b ρ1 => getK ρ1 b fun y => negK y fun n => setK ρ1 i (.fz (.int (f m n))) Z.nx := by
  unfold dAug slotK
  cases h : ρ.at i with
  | fz d =>
    cases d with
    | int m =>
      show (ta ρ fun b ρ1 => opt (b.get ρ1) _) = (ta ρ fun b ρ1 => getK ρ1 b _)
      simp only [opt_get]
      refine congrArg (ta ρ) (funext fun b => funext fun ρ1 => congrArg (getK ρ1 b) (funext fun y => ?_))
      cases y <;> rfl
    | _ => rfl
  | _ => rfl
theorem e_augI {f : Int → Int → Int} : dAugI i f ta tb Z ρ = slotK ρ i fun s0 => lstK s0 fun _ => ta ρ fun b ρ1 => getK ρ1 b fun y => negK y fun n => slotK ρ1 i fun s1 => lstK s1 fun ds => (0 ≤ n ∧ n < 1000000) ∧ opt ds[n.toNat]? fun old => negK old fun m =>
    tb ρ1 fun b2 ρ2 => getK ρ2 b2 fun z => negK z fun w => slotK ρ2 i fun s2 => lstK s2 fun ds2 => ixK ds2.length n fun j => setK ρ2 i (.lst (ds2.set j (.int (f m w)))) Z.nx := by
  unfold dAugI
  simp only [opt_get, e_lstAt]
  refine congrArg (slotK ρ i) (funext fun s0 => congrArg (lstK s0) (funext fun _ => congrArg (ta ρ) (funext fun b => funext fun ρ1 => congrArg (getK ρ1 b) (funext fun y => ?_))))
  cases y with
  | int n =>
    refine congrArg (slotK ρ1 i) (funext fun s1 => congrArg (lstK s1) (funext fun ds => congrArg (fun p => (0 ≤ n ∧ n < 1000000) ∧ opt ds[n.toNat]? p) (funext fun old => ?_)))
    cases old with
    | int m =>
      refine congrArg (tb ρ1) (funext fun b2 => funext fun ρ2 => congrArg (getK ρ2 b2) (funext fun z => ?_))
      cases z <;> rfl
    | _ => rfl
  | _ => rfl
theorem e_par : dPar i j t1 t2 Z ρ = t1 ρ fun s ρ1 => t2 ρ1 fun r ρ2 => setK ρ2 i s fun ρ3 => setK ρ3 j r Z.nx := rfl
theorem e_par3 {l : Nat} : dPar3 i j l t1 t2 t3 Z ρ = t1 ρ fun s ρ1 => frzK s fun d1 => t2 ρ1 fun s2 ρ2 => frzK s2 fun d2 => t3 ρ2 fun s3 ρ3 => setK ρ3 i (.fz d1) fun ρ4 => setK ρ4 j (.fz d2) fun ρ5 => setK ρ5 l s3 Z.nx := by
  unfold dPar3; simp only [opt_frz]; rfl
def idxK (x y : D) (k : Nat → Prop) : Prop := match x with
  | .list ds => (flatD y = true ∧ ds.all flatD = true) ∧ opt (ixOf y ds) k
  | _ => False
theorem opt_and {α : Type} {o : Option α} {f : α → Prop} {R : Prop} : (opt o f ∧ R) = opt o fun x => f x ∧ R := by cases o <;> simp [opt]
theorem spotK_and {f : D → Prop} {s : Slot} {R : Prop} : (spotK s f ∧ R) = spotK s fun x => f x ∧ R := by
  cases s with
  | ov o => exact opt_and
  | _ => simp [spotK]
theorem getK_and {f : D → Prop} {b : BV} {R : Prop} : (getK ρ b f ∧ R) = getK ρ b fun x => f x ∧ R := by
  cases b with
  | d x => rfl
  | v i => exact spotK_and
  | pl i π p => exact opt_and.trans (congrArg (opt _) (funext fun c => opt_and))
theorem e_index : dIndex' ta tb ρ Q = ta ρ fun a ρ1 => getK ρ1 a fun x0 => extK x0 fun _ => tb ρ1 fun b ρ2 => getK ρ2 a fun x => getK ρ2 b fun y => idxK x y fun j => Q (.fz (.int (j : Nat))) ρ2 := by
  unfold dIndex'
  refine congrArg (ta ρ) (funext fun a => funext fun ρ1 => ?_)
  simp only [opt_get, isLst]
  rw [getK_and]
  refine congrArg (getK ρ1 a) (funext fun x0 => ?_)
  cases x0 with
  | list ds =>
    simp only [true_and, extK]
    refine congrArg (tb ρ1) (funext fun b => funext fun ρ2 => congrArg (getK ρ2 a) (funext fun x => congrArg (getK ρ2 b) (funext fun y => ?_)))
    cases x <;> rfl
  | _ => exact propext ⟨fun h => h.1.elim, fun h => h.elim⟩

theorem ite_dec {p : Prop} [Decidable p] {A B : Prop} : (if decide p = true then A else B) = if p then A else B := by
  by_cases h : p <;> simp [h]
theorem ite_ndec {p : Prop} [Decidable p] {A B : Prop} : (if (!decide p) = true then A else B) = if p then B else A := by
  by_cases h : p <;> simp [h]
theorem ite_tr {A B : Prop} : (if true = true then A else B) = A := if_pos rfl
theorem ite_fa {A B : Prop} : (if false = true then A else B) = B := if_neg Bool.false_ne_true
theorem ite_nt {b : Bool} {A B : Prop} : (if (!b) = true then A else B) = if b = true then B else A := by cases b <;> rfl
theorem uns_0 : uns 0 = [] := rfl
theorem uns_s : uns (n + 1) = .un :: uns n := rfl
end
end DL

set_option Elab.async false
set_option linter.all false
set_option maxRecDepth 100000
set_option maxHeartbeats 2000000
namespace Lz
open PySem PySem.Calls PyProof.Rows PyProof.V PySem.Spec PySem.W
open Sem (wp)
section
variable {prog : Program} {w : World} {A : Around} {E : Value → Shared → Prop} {s : Shared} {z TI TO T i1 i2 : Addr} {fp1 fp2 : List Addr} {n1 n2 i : Nat} {P1 P2 : Nat → Value → Prop} {St1 St2 : Nat → Heap → Prop} {f : Bool} {oT : Obj}
theorem item_held0 {Q : Value → Shared → Prop} (S : ZipSep2 z TI TO i1 i2 fp1 fp2) (D1 : Draws prog w A i1 fp1 n1 P1 St1) (D2 : Draws prog w A i2 fp2 n2 P2 St2)
    (hz : IsZipHeld s.heap z TI TO T f) (hT : s.heap.get? T = some oT) (hTI : IsTupOf2 s.heap TI (.ref i1) (.ref i2)) (st1 : St1 i s.heap) (st2 : St2 i s.heap) (hlt1 : i < n1) (hlt2 : i < n2)
    (hQ : ∀ x1 x2 h' tk, P1 i x1 → P2 i x2 → IsZipHeld h' z TI TO T true → St1 (i + 1) h' → St2 (i + 1) h' → IsTupOf2 h' s.heap.objs.size x1 x2 → h'.objs.size = s.heap.objs.size + 1 →
      (∀ c o, c ≠ z → c ≠ i1 → c ≠ i2 → s.heap.get? c = some o → h'.get? c = some o) → Q (.ref s.heap.objs.size) { s with heap := h', toks := tk }) :
    wpAny (model prog w) A (Builtin.«zip.__next__» ⟨[.ref z], []⟩) (fun fin s' => ∃ v, fin = .done (.ret v) ∧ Q v s') E s := by
  obtain ⟨hp, g, d, tk0, os⟩ := s
  show wpAny _ _ (field (.ref z) 2 >>= _) _ _ _
  refine wpAny_bind (wpAny_field hz rfl (x := .bool false) rfl ?_)
  show wpAny _ _ (field (.ref z) 3 >>= _) _ _ _
  refine wpAny_bind (wpAny_field hz rfl (x := .ref TI) rfl ?_)
  refine wpAny_bind (wpAny_seqItems hTI rfl ?_)
  show wpAny _ _ (Builtin.SmallTypes.ownedTupleIsFree (.ref z) >>= _) _ _ _
  refine wpAny_bind (wpAny_tupleHeld_zip hz hT fun h₁ hz₁ hs₁ => ?_)
  replace hs₁ : Heap.SameBut z hp h₁ := hs₁
  simp only [Bool.false_eq_true, if_false]
  refine wpAny_bind ?_
  rw [← Array.forIn_toList]
  simp only [List.forIn_cons, List.forIn_nil]
  refine wpAny_bind (wpAny_bind (wpAny_holding ?_))
  show wpAny _ _ (Builtin.SmallTypes.nextOf (.ref i1) >>= _) _ _ ⟨h₁, g, d, tk0, os⟩
  refine wpAny_bind (D1.item i ⟨h₁, g, d, tk0, os⟩ _ _ hlt1 (D1.over st1 hs₁ S.zf1) fun x1 p1 tk1 hx1 sn1 hp1 => wpAny_pure ?_)
  replace hp1 : Heap.SameBut i1 h₁ p1 := hp1
  refine wpAny_pure ?_
  refine wpAny_bind (wpAny_bind (wpAny_holding ?_))
  show wpAny _ _ (Builtin.SmallTypes.nextOf (.ref i2) >>= _) _ _ ⟨p1, g, d, tk1, os⟩
  refine wpAny_bind (D2.item i ⟨p1, g, d, tk1, os⟩ _ _ hlt2 (D2.over (D2.over st2 hs₁ S.zf2) hp1 S.sep1_2) fun x2 p2 tk2 hx2 sn2 hp2 => wpAny_pure ?_)
  replace hp2 : Heap.SameBut i2 p1 p2 := hp2
  refine wpAny_pure (wpAny_pure ?_)
  show wpAny _ _ (newTuple [x1, x2] >>= _) _ _ ⟨p2, g, d, tk2, os⟩
  refine wpAny_bind (wpAny_newTuple ?_)
  have hsz : p2.objs.size = hp.objs.size := by rw [hp2.1, hp1.1, hs₁.1]
  have hz₃ : IsZipHeld p2 z TI TO T true := hp2.extBut _ _ S.zi2 (hp1.extBut _ _ S.zi1 hz₁)
  have hk : ∀ c o, c ≠ z → c ≠ i1 → c ≠ i2 → hp.get? c = some o → p2.get? c = some o := fun c o c1 c2 c3 e => hp2.extBut _ _ c3 (hp1.extBut _ _ c2 (hs₁.extBut _ _ c1 e))
  have hj1 : St1 (i + 1) p2 := D1.over sn1 hp2 S.sep2_1
  refine wpAny_pure ⟨_, rfl, ?_⟩
  show Q (.ref p2.objs.size) _
  have hpr : IsTupOf2 (p2.push { cls := .type "tuple", data := .seq #[x1, x2] }) p2.objs.size x1 x2 := Heap.get?_push_size _ rfl
  have hz4 : (p2.push { cls := .type "tuple", data := .seq #[x1, x2] }).objs.size = p2.objs.size + 1 := Heap.size_push ..
  rw [hsz] at hpr hz4 ⊢
  exact hQ x1 x2 _ tk2 hx1 hx2 (Heap.get?_push_of_some _ hz₃) (D1.frame _ _ _ hj1 fun b _ o e => Heap.get?_push_of_some _ e) (D2.frame _ _ _ sn2 fun b _ o e => Heap.get?_push_of_some _ e) hpr hz4 fun c o c1 c2 c3 e => Heap.get?_push_of_some _ (hk c o c1 c2 c3 e)

theorem end_held0 {Q : Fin → Shared → Prop} (S : ZipSep2 z TI TO i1 i2 fp1 fp2) (D1 : Draws prog w A i1 fp1 n1 P1 St1) (D2 : Draws prog w A i2 fp2 n2 P2 St2)
    (hz : IsZipHeld s.heap z TI TO T f) (hT : s.heap.get? T = some oT) (hTI : IsTupOf2 s.heap TI (.ref i1) (.ref i2)) (st1 : St1 i s.heap) (st2 : St2 i s.heap) (hle1 : i ≤ n1) (hle2 : i ≤ n2) (hend : i = n1 ∨ i = n2)
    (hE : ∀ h' tk e, (∀ c o, c ≠ z → c ≠ i1 → c ≠ i2 → s.heap.get? c = some o → h'.get? c = some o) → (∃ o, h'.get? e = some o ∧ o.cls = .type "StopIteration") → E (.ref e) { s with heap := h', toks := tk }) :
    wpAny (model prog w) A (Builtin.«zip.__next__» ⟨[.ref z], []⟩) Q E s := by
  obtain ⟨hp, g, d, tk0, os⟩ := s
  show wpAny _ _ (field (.ref z) 2 >>= _) _ _ _
  refine wpAny_bind (wpAny_field hz rfl (x := .bool false) rfl ?_)
  show wpAny _ _ (field (.ref z) 3 >>= _) _ _ _
  refine wpAny_bind (wpAny_field hz rfl (x := .ref TI) rfl ?_)
  refine wpAny_bind (wpAny_seqItems hTI rfl ?_)
  show wpAny _ _ (Builtin.SmallTypes.ownedTupleIsFree (.ref z) >>= _) _ _ _
  refine wpAny_bind (wpAny_tupleHeld_zip hz hT fun h₁ hz₁ hs₁ => ?_)
  replace hs₁ : Heap.SameBut z hp h₁ := hs₁
  simp only [Bool.false_eq_true, if_false]
  refine wpAny_bind ?_
  rw [← Array.forIn_toList]
  simp only [List.forIn_cons, List.forIn_nil]
  refine wpAny_bind (wpAny_bind (wpAny_holding ?_))
  show wpAny _ _ (Builtin.SmallTypes.nextOf (.ref i1) >>= _) _ _ ⟨h₁, g, d, tk0, os⟩
  by_cases h1 : i = n1
  · subst h1
    refine wpAny_bind (D1.done ⟨h₁, g, d, tk0, os⟩ _ _ (D1.over st1 hs₁ S.zf1) fun h₂ e hs₂ he => ?_)
    replace hs₂ : Heap.ExtBut i1 h₁ h₂ := hs₂
    exact hE h₂ tk0 e (fun c o c1 c2 _ x => hs₂ _ _ c2 (hs₁.extBut _ _ c1 x)) he
  · refine wpAny_bind (D1.item i ⟨h₁, g, d, tk0, os⟩ _ _ (by omega) (D1.over st1 hs₁ S.zf1) fun x1 p1 tk1 hx1 sn1 hp1 => wpAny_pure ?_)
    replace hp1 : Heap.SameBut i1 h₁ p1 := hp1
    have h2 : i = n2 := by omega
    subst h2
    refine wpAny_pure ?_
    refine wpAny_bind (wpAny_bind (wpAny_holding ?_))
    show wpAny _ _ (Builtin.SmallTypes.nextOf (.ref i2) >>= _) _ _ ⟨p1, g, d, tk1, os⟩
    refine wpAny_bind (D2.done ⟨p1, g, d, tk1, os⟩ _ _ (D2.over (D2.over st2 hs₁ S.zf2) hp1 S.sep1_2) fun h₃ e hs₃ he => ?_)
    replace hs₃ : Heap.ExtBut i2 p1 h₃ := hs₃
    exact hE h₃ tk1 e (fun c o c1 c2 c3 x => hs₃ _ _ c3 (hp1.extBut _ _ c2 (hs₁.extBut _ _ c1 x))) he

/-- a zip on its way, the tuple given out before still there or none yet -/
structure Zst (h : Heap) (S z TI TO i1 i2 : Addr) (St1 St2 : Nat → Heap → Prop) (i : Nat) : Prop where
  ti : IsTupOf2 h TI (.ref i1) (.ref i2)
  s1 : St1 i h
  s2 : St2 i h
  zz : (IsZip h z TI TO .none ∧ ∃ a b, IsTupOf2 h TO a b) ∨ ∃ T f oT, IsZipHeld h z TI TO T f ∧ h.get? T = some oT ∧ T ≠ z ∧ T ≠ i1 ∧ T ≠ i2 ∧ T ≠ S
theorem zst_item {S : Addr} {Q : Option Value → Shared → Prop} (Sp : ZipSep2 z TI TO i1 i2 fp1 fp2) (D1 : Draws prog w A.in1 i1 fp1 n1 P1 St1) (D2 : Draws prog w A.in1 i2 fp2 n2 P2 St2) (hS : S < s.heap.objs.size)
    (st : Zst s.heap S z TI TO i1 i2 St1 St2 i) (hlt1 : i < n1) (hlt2 : i < n2)
    (hQ : ∀ x1 x2 h' tk, P1 i x1 → P2 i x2 → Zst h' S z TI TO i1 i2 St1 St2 (i + 1) → IsTupOf2 h' s.heap.objs.size x1 x2 → h'.objs.size = s.heap.objs.size + 1 →
      (∀ c o, c ≠ z → c ≠ TO → c ≠ i1 → c ≠ i2 → s.heap.get? c = some o → h'.get? c = some o) → Q (some (.ref s.heap.objs.size)) { s with heap := h', toks := tk }) :
    wpAny (model prog w) A (pyNext (.ref z)) Q E s := by
  obtain ⟨hTI, st1, st2, hz⟩ := st
  have lt : ∀ {c o}, s.heap.get? c = some o → s.heap.objs.size ≠ c := fun e => Nat.ne_of_gt (Heap.lt_size e)
  have l1 : s.heap.objs.size ≠ i1 := by obtain ⟨_, e⟩ := D1.live _ _ st1; exact lt e
  have l2 : s.heap.objs.size ≠ i2 := by obtain ⟨_, e⟩ := D2.live _ _ st2; exact lt e
  rcases hz with ⟨hz, a, b, hTO⟩ | ⟨T, f, oT, hz, hT, r1, r2, r3, r4⟩
  · refine wpAny_pyNext_zipD2_item Sp D1 D2 hz hTI hTO st1 st2 hlt1 hlt2 fun x1 x2 h' tk y1 y2 b1 b2 d1 d2 b5 b6 hk => ?_
    exact hQ x1 x2 h' tk y1 y2 ⟨hk _ _ Sp.TIz Sp.TITO Sp.TIi1 Sp.TIi2 hTI, d1, d2, .inr ⟨s.heap.objs.size, false, _, b1, b5, lt hz, l1, l2, Nat.ne_of_gt hS⟩⟩ b5 b6 hk
  · have hTy : s.TypeIs (.ref z) "zip" := ⟨_, hz, rfl⟩
    unfold pyNext
    exact wpAny_bind (wpAny_attempt (wpAny_callSpecial?_slot (name := Str.ofString "__next__") hTy F.slot_zip_next
      (wpAny_call_entry F.slot_zip_next hTy F.entry_zip_next
        (item_held0 Sp D1 D2 hz hT hTI st1 st2 hlt1 hlt2 fun x1 x2 h' tk y1 y2 a1 a3 a4 a5 a6 a7 => wpAny_pure (hQ x1 x2 h' tk y1 y2
          ⟨a7 _ _ Sp.TIz Sp.TIi1 Sp.TIi2 hTI, a3, a4, .inr ⟨T, true, oT, a1, a7 _ _ r1 r2 r3 hT, r1, r2, r3, r4⟩⟩ a5 a6 fun c o c1 _ c3 c4 e => a7 c o c1 c3 c4 e)) (F.args_zip_next_1 _))))
theorem zst_done {S : Addr} {Q : Option Value → Shared → Prop} (Sp : ZipSep2 z TI TO i1 i2 fp1 fp2) (D1 : Draws prog w A.in1 i1 fp1 n1 P1 St1) (D2 : Draws prog w A.in1 i2 fp2 n2 P2 St2)
    (st : Zst s.heap S z TI TO i1 i2 St1 St2 i) (hle1 : i ≤ n1) (hle2 : i ≤ n2) (hend : i = n1 ∨ i = n2)
    (hQ : ∀ h' tk, (∀ c o, c ≠ z → c ≠ TO → c ≠ i1 → c ≠ i2 → s.heap.get? c = some o → h'.get? c = some o) → Q none { s with heap := h', toks := tk }) : wpAny (model prog w) A (pyNext (.ref z)) Q E s := by
  obtain ⟨hTI, st1, st2, hz⟩ := st
  rcases hz with ⟨hz, a, b, hTO⟩ | ⟨T, f, oT, hz, hT, r1, r2, r3, r4⟩
  · exact wpAny_pyNext_zipD2_end Sp D1 D2 hz hTI hTO st1 st2 hle1 hle2 hend hQ
  · have hTy : s.TypeIs (.ref z) "zip" := ⟨_, hz, rfl⟩
    unfold pyNext
    refine wpAny_bind (wpAny_attempt (wpAny_callSpecial?_slot (name := Str.ofString "__next__") hTy F.slot_zip_next
      (wpAny_call_entry F.slot_zip_next hTy F.entry_zip_next (end_held0 Sp D1 D2 hz hT hTI st1 st2 hle1 hle2 hend fun h' tk e hk he => ?_) (F.args_zip_next_1 _))))
    obtain ⟨o, ho, hc⟩ := he
    refine wpAny_bind (wpAny_isInstance (T := "StopIteration") (b := true) ⟨o, ho, hc⟩ isSubtype_stop ?_)
    exact wpAny_pure (hQ _ _ fun c o c1 _ c3 c4 x => hk c o c1 c3 c4 x)
theorem Zst.keep {h h' : Heap} {S : Addr} (Sp : ZipSep2 z TI TO i1 i2 fp1 fp2) (D1 : Draws prog w A i1 fp1 n1 P1 St1) (D2 : Draws prog w A i2 fp2 n2 P2 St2) (st : Zst h S z TI TO i1 i2 St1 St2 i)
    (hSz : z ≠ S) (hSI : TI ≠ S) (hSO : TO ≠ S) (h1 : S ∉ fp1) (h2 : S ∉ fp2) (up : ∀ b o, b ≠ S → h.get? b = some o → h'.get? b = some o) : Zst h' S z TI TO i1 i2 St1 St2 i := by
  obtain ⟨hTI, st1, st2, hz⟩ := st
  refine ⟨up _ _ hSI hTI, D1.frame _ _ _ st1 fun b hb o e => up b o (fun q => h1 (q ▸ hb)) e, D2.frame _ _ _ st2 fun b hb o e => up b o (fun q => h2 (q ▸ hb)) e, ?_⟩
  rcases hz with ⟨hz, a, b, hTO⟩ | ⟨T, f, oT, hz, hT, r1, r2, r3, r4⟩
  · exact .inl ⟨up _ _ hSz hz, a, b, up _ _ hSO hTO⟩
  · exact .inr ⟨T, f, oT, up _ _ hSz hz, up _ _ r4 hT, r1, r2, r3, r4⟩
end
/-- the pairs made, above lo, rising -/
structure Pg (P1 P2 : Nat → Value → Prop) (lo : Addr) (h : Heap) (as : List Addr) : Prop where
  rise : as.Pairwise (· < ·)
  above : ∀ a ∈ as, lo < a
  pairs : ∀ (j : Nat) (a : Addr), as[j]? = some a → ∃ x y, P1 j x ∧ P2 j y ∧ h.get? a = some { cls := .type "tuple", data := .seq #[x, y] }
theorem Pg.there {P1 P2 : Nat → Value → Prop} {lo : Addr} {h : Heap} {as : List Addr} (g : Pg P1 P2 lo h as) {a : Addr} (ha : a ∈ as) : a < h.objs.size := by
  obtain ⟨j, hj⟩ := List.mem_iff_getElem?.mp ha
  obtain ⟨x, y, _, _, e⟩ := g.pairs j a hj
  exact Heap.lt_size e
section
variable {prog : Program} {w : World} {A : Around} {s : Shared} {R : Result → Shared → Prop} {z TI TO i1 i2 : Addr} {fp1 fp2 : List Addr} {n1 n2 : Nat} {P1 P2 : Nat → Value → Prop} {St1 St2 : Nat → Heap → Prop}
/-- S lies apart from, and above, all of the zip -/
structure Ab (S z TI TO i1 i2 : Addr) (fp1 fp2 : List Addr) : Prop where
  z : z < S
  TI : TI < S
  TO : TO < S
  i1 : i1 < S
  i2 : i2 < S
  f1 : S ∉ fp1
  f2 : S ∉ fp2
theorem dz_loop {S : Addr} (Sp : ZipSep2 z TI TO i1 i2 fp1 fp2) (D1 : Draws prog w A.in1.in1 i1 fp1 n1 P1 St1) (D2 : Draws prog w A.in1.in1 i2 fp2 n2 P2 St2) (ab : Ab S z TI TO i1 i2 fp1 fp2) (hn : min n1 n2 ≤ sizeLine) (res : Value) {h₁ : Heap}
    (hR : ∀ h' tk acc c as, (∀ b o, b ≠ S → b ≠ z → b ≠ TO → b ≠ i1 → b ≠ i2 → h₁.get? b = some o → h'.get? b = some o) → h'.get? S = some { cls := .type "list", dict := none, data := .seq acc c, slots := #[] } → as.length = min n1 n2 → Pg P1 P2 S h' as →
      acc.toList = as.map Value.ref → R (.ok (.ret res)) { s with heap := h', toks := tk }) :
    ∀ (k i : Nat) (h : Heap) (tk c : Nat) (acc : Array Value) (as : List Addr), min n1 n2 - i = k → i ≤ min n1 n2 → Zst h S z TI TO i1 i2 St1 St2 i → (∀ b o, b ≠ S → b ≠ z → b ≠ TO → b ≠ i1 → b ≠ i2 → h₁.get? b = some o → h.get? b = some o) →
      h.get? S = some { cls := .type "list", dict := none, data := .seq acc c, slots := #[] } → acc.toList = as.map Value.ref → as.length = i → Pg P1 P2 S h as →
      codeAny (model prog w) A (.builtin "list.extend.loop" ⟨[.ref S, .ref z, res], []⟩) R { s with heap := h, toks := tk } := by
  have zS := Nat.ne_of_lt ab.z
  intro k
  induction k with
  | zero =>
    intro i h tk c acc as hk hi hst hkeep hS hacc hal hG
    have hin : i = min n1 n2 := by omega
    refine codeAny_builtin PySem.F.entry_extend_loop ?_
    rw [Around.under_plainId PySem.F.plain_extend_loop _]
    show wpAny _ A.in1 (pyNext (.ref z) >>= _) _ _ _
    refine wpAny_bind (zst_done (s := { s with heap := h, toks := tk }) (A := A.in1) Sp D1 D2 hst (by omega) (by omega) (by omega) fun h' tk' he => ?_)
    refine wpAny_pure (hR h' tk' acc c as (fun b o h1 h2 h3 h4 h5 e => he b o h2 h3 h4 h5 (hkeep b o h1 h2 h3 h4 h5 e)) (he S _ (Nat.ne_of_gt ab.z) (Nat.ne_of_gt ab.TO) (Nat.ne_of_gt ab.i1) (Nat.ne_of_gt ab.i2) hS) (by omega) ⟨hG.rise, hG.above, fun j a hj => ?_⟩ hacc)
    obtain ⟨x, y, p1, p2, e3⟩ := hG.pairs j a hj
    have hb := hG.above a (List.mem_of_getElem? hj)
    exact ⟨x, y, p1, p2, he a _ (Nat.ne_of_gt (Nat.lt_trans ab.z hb)) (Nat.ne_of_gt (Nat.lt_trans ab.TO hb)) (Nat.ne_of_gt (Nat.lt_trans ab.i1 hb)) (Nat.ne_of_gt (Nat.lt_trans ab.i2 hb)) e3⟩
  | succ k ih =>
    intro i h tk c acc as hk hi hst hkeep hS hacc hal hG
    have hlt : i < min n1 n2 := by omega
    have hsz : acc.size = i := by rw [← Array.length_toList, hacc, List.length_map, hal]
    refine codeAny_builtin PySem.F.entry_extend_loop ?_
    rw [Around.under_plainId PySem.F.plain_extend_loop _]
    show wpAny _ A.in1 (pyNext (.ref z) >>= _) _ _ _
    refine wpAny_bind (zst_item (s := { s with heap := h, toks := tk }) (A := A.in1) (S := S) Sp D1 D2 (Heap.lt_size hS) hst (by omega) (by omega) fun x1 x2 h' tk' p1 p2 hst' ht hz hkp => ?_)
    dsimp only at ht hz hkp ⊢
    have hS' := hkp S _ (Nat.ne_of_gt ab.z) (Nat.ne_of_gt ab.TO) (Nat.ne_of_gt ab.i1) (Nat.ne_of_gt ab.i2) hS
    have up : ∀ b o, b ≠ S → h'.get? b = some o → (h'.update S (Obj.mapSeq (·.push (Value.ref h.objs.size)))).get? b = some o := fun b o hb e => (Heap.get?_update_other _ _ (Ne.symm hb)).trans e
    have hSl : S < h.objs.size := Heap.lt_size hS
    show wpAny _ A.in1 (updateSeq S (·.push (Value.ref h.objs.size)) >>= _) _ _ _
    refine wpAny_bind ?_
    refine wpAny_updateSeq hS' rfl (wpAny_pure ⟨plainId_quiet PySem.F.plain_extend_loop _, ih (i + 1) _ tk' _ (acc.push (Value.ref h.objs.size)) (as ++ [h.objs.size]) (by omega) hlt (hst'.keep Sp D1 D2 zS (Nat.ne_of_lt ab.TI) (Nat.ne_of_lt ab.TO) ab.f1 ab.f2 up)
      (fun b o h1 h2 h3 h4 h5 e => up b o h1 (hkp b o h2 h3 h4 h5 (hkeep b o h1 h2 h3 h4 h5 e))) (Heap.get?_update_self _ hS' rfl) (by rw [Array.toList_push, hacc, List.map_append]; rfl) (by rw [List.length_append, hal]; rfl) ⟨?_, ?_, ?_⟩⟩) (by rw [hsz]; omega) (by show (acc.push (Value.ref h.objs.size)).size ≤ sizeLine + 1; rw [Array.size_push, hsz]; omega)
    · refine List.pairwise_append.mpr ⟨hG.rise, List.pairwise_singleton _ _, fun a ha b hb => ?_⟩
      rw [List.mem_singleton.mp hb]
      exact hG.there ha
    · intro a ha
      rcases List.mem_append.mp ha with ha | ha
      · exact hG.above a ha
      · rw [List.mem_singleton.mp ha]; exact hSl
    · intro j b hj
      rcases Nat.lt_trichotomy j as.length with h1 | h1 | h1
      · rw [List.getElem?_append_left h1] at hj
        obtain ⟨x, y, q1, q2, e3⟩ := hG.pairs j b hj
        have hb := hG.above b (List.mem_of_getElem? hj)
        exact ⟨x, y, q1, q2, up b _ (Nat.ne_of_gt hb) (hkp b _ (Nat.ne_of_gt (Nat.lt_trans ab.z hb)) (Nat.ne_of_gt (Nat.lt_trans ab.TO hb)) (Nat.ne_of_gt (Nat.lt_trans ab.i1 hb)) (Nat.ne_of_gt (Nat.lt_trans ab.i2 hb)) e3)⟩
      · subst h1
        have hb : h.objs.size = b := by simpa using hj
        subst hb
        subst hal
        exact ⟨x1, x2, p1, p2, up _ _ (Nat.ne_of_gt hSl) ht⟩
      · have hnone : (as ++ [h.objs.size])[j]? = none := List.getElem?_eq_none (by rw [List.length_append, List.length_singleton]; omega)
        rw [hnone] at hj; cases hj
end
theorem zip_no_len : typeLookup (.type "zip") "__len__" = pure none := am_miss_of_fast (by decide +kernel)
theorem zip_no_hint : typeLookup (.type "zip") "__length_hint__" = pure none := am_miss_of_fast (by decide +kernel)
section
variable {prog : Program} {w : World} {A : Around} {E : Value → Shared → Prop} {s : Shared} {z TI TO i1 i2 : Addr} {fp1 fp2 : List Addr} {n1 n2 : Nat} {P1 P2 : Nat → Value → Prop} {St1 St2 : Nat → Heap → Prop}
theorem dz_hint {r : Addr} {Q : Bool → Shared → Prop} (hT : s.TypeIs (.ref r) "zip") (h : Q true s) : wpAny (model prog w) A (Builtin.List.listLengthHint (.ref r)) Q E s := by
  unfold Builtin.List.listLengthHint
  refine wpAny_bind (wpAny_specialOf hT zip_no_len ?_)
  show wpAny _ A (specialOf (Value.ref r) (Str.ofString "__length_hint__") >>= _) _ _ _
  refine wpAny_bind (wpAny_specialOf hT zip_no_hint ?_)
  exact wpAny_pure h
theorem dz_extend {R : Result → Shared → Prop} {S : Addr} (Sp : ZipSep2 z TI TO i1 i2 fp1 fp2) (D1 : Draws prog w A.in1.in1 i1 fp1 n1 P1 St1) (D2 : Draws prog w A.in1.in1 i2 fp2 n2 P2 St2) (ab : Ab S z TI TO i1 i2 fp1 fp2) (hn : min n1 n2 ≤ sizeLine)
    (st : Zst s.heap S z TI TO i1 i2 St1 St2 0) (hz : IsZip s.heap z TI TO .none) (res : Value) (c₀ : Nat) (hS : s.heap.get? S = some { cls := .type "list", data := .seq #[] c₀ })
    (hR : ∀ h' tk acc c as, (∀ b o, b ≠ S → b ≠ z → b ≠ TO → b ≠ i1 → b ≠ i2 → s.heap.get? b = some o → h'.get? b = some o) → h'.get? S = some { cls := .type "list", dict := none, data := .seq acc c, slots := #[] } → as.length = min n1 n2 → Pg P1 P2 S h' as →
      acc.toList = as.map Value.ref → R (.ok (.ret res)) { s with heap := h', toks := tk }) :
    wpAny (model prog w) A.in1 (Builtin.List.listExtendWith (.ref S) (.ref z) res)
      (fun fin s' => match fin with | .done f => R (.ok f) s' | .again c' => c'.quiet = true ∧ codeAny (model prog w) A c' R s') (fun e s' => R (.error e) s') s := by
  have key : ∀ (h : Heap) (c₁ tk : Nat), (∀ b o, b ≠ S → s.heap.get? b = some o → h.get? b = some o) →
      h.get? S = some { cls := .type "list", data := .seq #[] c₁ } → codeAny (model prog w) A (.builtin "list.extend.loop" ⟨[.ref S, .ref z, res], []⟩) R { s with heap := h, toks := tk } := by
    intro h c₁ tk hk hS₁
    refine dz_loop (s := s) (h₁ := s.heap) Sp D1 D2 ab hn res hR
      (min n1 n2) 0 h tk c₁ #[] [] (Nat.sub_zero _) (Nat.zero_le _) (st.keep Sp D1 D2 (Nat.ne_of_lt ab.z) (Nat.ne_of_lt ab.TI) (Nat.ne_of_lt ab.TO) ab.f1 ab.f2 hk) (fun b o hb _ _ _ _ e => hk b o hb e) hS₁ rfl rfl
      ⟨List.Pairwise.nil, (fun _ ha => nomatch ha), (fun j a hj => by simp at hj)⟩
  have hSz : S ≠ z := Nat.ne_of_gt ab.z
  unfold Builtin.List.listExtendWith
  refine wpAny_bind (wpAny_typeOf (T := "zip") ⟨_, hz, rfl⟩ ?_)
  have h1 : Builtin.List.listSameRef (.ref S) (.ref z) = false := by simp [Builtin.List.listSameRef, hSz]
  have h2 : (Value.type "zip" == Value.type "list") = false := by decide
  have h3 : (Value.type "zip" == Value.type "tuple") = false := by decide
  simp only [h1, h2, h3, Bool.or_false, Bool.false_eq_true, if_false]
  refine wpAny_bind (wpAny_pyIter_zip hz ?_)
  refine wpAny_bind (wpAny_holding (dz_hint ⟨_, hz, rfl⟩ ?_))
  refine wpAny_ite_split (fun _ => ?_) (fun _ => wpAny_pure ⟨plainId_quiet PySem.F.plain_extend_loop _, key _ c₀ _ (fun b o _ e => e) hS⟩)
  refine wpAny_bind (wpAny_rule ?_)
  refine wpAny_bind ?_
  show wpAny _ _ (updateSeq S (·.push .none) >>= fun _ => updateSeq S (·.pop)) _ _ _
  refine wpAny_bind (wpAny_updateSeq hS rfl ?_)
  have hS₂ := Heap.get?_update_self (Obj.mapSeq (·.push Value.none)) hS rfl
  refine wpAny_updateSeq (hz := by seq_fits) hS₂ rfl ?_
  have hS₃ := Heap.get?_update_self (Obj.mapSeq (·.pop)) hS₂ rfl
  refine wpAny_pure ⟨plainId_quiet PySem.F.plain_extend_loop _, key _ _ _ (fun b o hb e => ?_) hS₃⟩
  exact (Heap.get?_update_other _ _ (Ne.symm hb)).trans ((Heap.get?_update_other _ _ (Ne.symm hb)).trans e)
theorem dz_init {R : Result → Shared → Prop} {S : Addr} (Sp : ZipSep2 z TI TO i1 i2 fp1 fp2) (D1 : Draws prog w A.in1.in1 i1 fp1 n1 P1 St1) (D2 : Draws prog w A.in1.in1 i2 fp2 n2 P2 St2) (ab : Ab S z TI TO i1 i2 fp1 fp2) (hn : min n1 n2 ≤ sizeLine)
    (st : Zst s.heap S z TI TO i1 i2 St1 St2 0) (hz : IsZip s.heap z TI TO .none) (hS : s.heap.get? S = some { cls := .type "list", data := .seq #[] })
    (hR : ∀ h' tk acc c as, (∀ b o, b ≠ S → b ≠ z → b ≠ TO → b ≠ i1 → b ≠ i2 → s.heap.get? b = some o → h'.get? b = some o) → h'.get? S = some { cls := .type "list", dict := none, data := .seq acc c, slots := #[] } → as.length = min n1 n2 → Pg P1 P2 S h' as →
      acc.toList = as.map Value.ref → R (.ok (.ret .none)) { s with heap := h', toks := tk }) :
    wpAny (model prog w) A.in1 (Builtin.«list.__init__» ⟨[.ref S, .ref z], []⟩)
      (fun fin s' => match fin with | .done f => R (.ok f) s' | .again c' => c'.quiet = true ∧ codeAny (model prog w) A c' R s') (fun e s' => R (.error e) s') s := by
  show wpAny _ _ (do let old ← Builtin.List.listItems (.ref S); Builtin.List.listUpdate (.ref S) (fun _ => #[]); letGo old.toList.reverse; Builtin.List.listExtendWith (.ref S) (.ref z) .none) _ _ s
  refine wpAny_bind ?_
  unfold Builtin.List.listItems
  refine wpAny_bind (wpAny_seqItems hS rfl (wpAny_pure ?_))
  show wpAny _ _ (updateSeq S (fun _ => #[]) >>= fun _ => letGo (#[] : Array Value).toList.reverse >>= fun _ => Builtin.List.listExtendWith (.ref S) (.ref z) .none) _ _ s
  refine wpAny_bind (wpAny_updateSeq hS rfl ?_)
  have hS₂ := Heap.get?_update_self (Obj.mapSeq (fun _ => (#[] : Array Value))) hS rfl
  have oth : ∀ b o, b ≠ S → s.heap.get? b = some o → (s.heap.update S (Obj.mapSeq (fun _ => (#[] : Array Value)))).get? b = some o :=
    fun b o hb e => (Heap.get?_update_other _ _ (Ne.symm hb)).trans e
  refine wpAny_bind (wpAny_letGo ?_)
  refine dz_extend (s := { s with heap := _ }) Sp D1 D2 ab hn (st.keep Sp D1 D2 (Nat.ne_of_lt ab.z) (Nat.ne_of_lt ab.TI) (Nat.ne_of_lt ab.TO) ab.f1 ab.f2 oth) (oth _ _ (Nat.ne_of_lt ab.z) hz) .none _ hS₂ fun h' tk acc c as hk hS' hl hG hacc => ?_
  exact hR h' tk acc c as (fun b o hb h1 h2 h3 h4 e => hk b o hb h1 h2 h3 h4 (oth b o hb e)) hS' hl hG hacc
/-- list(zip(v1, v2)), the zip just made: five cells, then the list -/
theorem dz_call {v1 v2 : Value} {o1 o2 : Obj} {H1 H2 : Heap → Prop} {c1 c2 : Addr} {Q : Value → Shared → Prop} (B1 : Begins v1 o1 H1) (B2 : Begins v2 o2 H2) (h1 : H1 s.heap) (h2 : H2 s.heap)
    (D1 : Draws prog w A.in1.in1.in1 s.heap.objs.size [s.heap.objs.size, c1] n1 P1 St1) (D2 : Draws prog w A.in1.in1.in1 (s.heap.objs.size + 1) [s.heap.objs.size + 1, c2] n2 P2 St2) (l1 : c1 < s.heap.objs.size) (l2 : c2 < s.heap.objs.size)
    (b1 : ∀ h : Heap, H1 h → h.get? s.heap.objs.size = some o1 → St1 0 h) (b2 : ∀ h : Heap, H2 h → h.get? (s.heap.objs.size + 1) = some o2 → St2 0 h) (hn : min n1 n2 ≤ sizeLine)
    (hQ : ∀ h' tk acc c as, (∀ b o, s.heap.get? b = some o → h'.get? b = some o) → h'.get? (s.heap.objs.size + 5) = some { cls := .type "list", dict := none, data := .seq acc c, slots := #[] } → as.length = min n1 n2 → Pg P1 P2 (s.heap.objs.size + 5) h' as →
      acc.toList = as.map Value.ref → Q (.ref (s.heap.objs.size + 5)) { s with heap := h', toks := tk }) :
    wpAny (model prog w) A (call (.type "zip") [v1, v2]) (fun v s' => wpAny (model prog w) A (call (.type "list") [v]) Q E s') E s := by
  refine zip_begins2 B1 B2 h1 h2 fun h' hz hTI hTO g1 g2 hsz hk => ?_
  have l1' : (c1 : Nat) < (s.heap.objs.size : Nat) := l1
  have l2' : (c2 : Nat) < (s.heap.objs.size : Nat) := l2
  have k1 := B1.keeps _ _ h1 hk
  have k2 := B2.keeps _ _ h2 hk
  have Sp : ZipSep2 (s.heap.objs.size + 4) (s.heap.objs.size + 2) (s.heap.objs.size + 3) s.heap.objs.size (s.heap.objs.size + 1) [s.heap.objs.size, c1] [s.heap.objs.size + 1, c2] := by
    refine ⟨?_, ?_, ?_, ?_, ?_, ?_, ?_, ?_, ?_, ?_, ?_, ?_, ?_⟩ <;> simp <;> (try apply Nat.ne_of_gt) <;> (try omega)
    all_goals first | exact Nat.lt_of_lt_of_le l1 (Nat.le_add_right _ _) | exact Nat.lt_of_lt_of_le l2 (Nat.le_add_right _ _)
  have ab : Ab (s.heap.objs.size + 5) (s.heap.objs.size + 4) (s.heap.objs.size + 2) (s.heap.objs.size + 3) s.heap.objs.size (s.heap.objs.size + 1) [s.heap.objs.size, c1] [s.heap.objs.size + 1, c2] := by
    constructor <;> first | (simp; done) | (simp; exact Nat.ne_of_gt (Nat.lt_of_lt_of_le l1 (Nat.le_add_right _ _))) | (simp; exact Nat.ne_of_gt (Nat.lt_of_lt_of_le l2 (Nat.le_add_right _ _)))
  refine callType_codes (Q₁ := fun obj s₁ => obj = .ref (s.heap.objs.size + 5) ∧ s₁ = { s with heap := h'.push { cls := .type "list", data := .seq #[] } }) PySem.F.called_list (PySem.F.typeCall_list_1 _) PySem.F.entry_list_init
    (code_list_new _ ⟨by rw [← hsz], rfl⟩) fun obj s₁ h₁ => ?_
  obtain ⟨rfl, rfl⟩ := h₁
  have hS : (h'.push { cls := .type "list", data := .seq #[] }).get? (s.heap.objs.size + 5) = some { cls := .type "list", data := .seq #[] } := by rw [← hsz]; exact Heap.get?_push_size _ rfl
  have up : ∀ b o, h'.get? b = some o → (h'.push { cls := .type "list", data := .seq #[] }).get? b = some o := fun b o e => Heap.get?_push_of_some _ e
  refine ⟨⟨_, hS, rfl⟩, PySem.F.args_list_init_2 _ _, dz_init (A := A.in1) Sp D1 D2 ab hn ⟨up _ _ hTI, D1.frame _ _ _ (b1 _ k1 g1) fun b _ o e => up b o e, D2.frame _ _ _ (b2 _ k2 g2) fun b _ o e => up b o e, .inl ⟨up _ _ hz, _, _, up _ _ hTO⟩⟩ (up _ _ hz) hS (fun h'' tk acc c as hk' hS' hl hG hacc => ?_)⟩
  exact ⟨rfl, hQ h'' tk acc c as (fun b o e => by
    have lt := Heap.lt_size e
    have ne : ∀ k, b ≠ s.heap.objs.size + k := fun k => Nat.ne_of_lt (Nat.lt_of_lt_of_le lt (Nat.le_add_right _ _))
    exact hk' b o (ne 5) (ne 4) (ne 3) (ne 0) (ne 1) (up _ _ (hk b o e))) hS' hl hG hacc⟩
end
end Lz

set_option Elab.async false
set_option linter.all false
set_option maxRecDepth 100000
set_option maxHeartbeats 2000000
namespace DL
open PySem PySem.Spec L2
open PyProof.Rows hiding St
def putP : Hp → List Addr → List (V × V) → Hp
  | H, a :: as, p :: ps => putP (upd H a (.tup [p.1, p.2])) as ps
  | H, _, _ => H
theorem putP_off {b : Addr} : ∀ (as : List Addr) (ps : List (V × V)) (H : Hp), b ∉ as → putP H as ps b = H b
  | [], _, _, _ => rfl
  | _ :: _, [], _, _ => rfl
  | a :: as, p :: ps, H, h => by
    show putP (upd H a (.tup [p.1, p.2])) as ps b = H b
    rw [putP_off as ps _ (fun z => h (List.mem_cons_of_mem _ z)), upd_ne (fun z => h (by rw [z]; exact List.mem_cons_self))]
theorem putP_at : ∀ (as : List Addr) (ps : List (V × V)) (H : Hp), as.length = ps.length → as.Nodup → Paired (fun (t : Addr) (p : V × V) => putP H as ps t = some (.tup [p.1, p.2])) as ps
  | [], [], _, _, _ => .nil
  | [], _ :: _, _, h, _ => by cases h
  | _ :: _, [], _, h, _ => by cases h
  | a :: as, p :: ps, H, h, hn => by
    have hn' := List.nodup_cons.mp hn
    have ih := putP_at as ps (upd H a (.tup [p.1, p.2])) (Nat.succ.inj h) hn'.2
    refine .cons ?_ ih
    show putP (upd H a (.tup [p.1, p.2])) as ps a = some (.tup [p.1, p.2])
    rw [putP_off as ps _ hn'.1, upd_same]
def rListZip (K : PySem.W.Frag) : List V → Hp → VK → Prop := fun vs H Q => ∃ a b xs ys, vs = [.ref a, .ref b] ∧ ((SqL K H a xs ∧ SqL K H b ys) ∨ (SqT K H a xs ∧ SqT K H b ys)) ∧
  ∀ (p : Addr) (ts : List Addr), H p = none → (∀ t ∈ ts, H t = none) → p ∉ ts → ts.Nodup → ts.length = (xs.zip ys).length → Q (.ref p) (upd (putP H ts (xs.zip ys)) p (.lst (ts.map V.ref)))
def tListZip (K : PySem.W.Frag) (ta : TA) : TE := fun σ H Q => ta σ H fun vs H1 => rListZip K vs H1 Q
section
variable {X : Cx}
theorem zip_laid {pins : List (Addr × Obj)} {σ : L2.St} {H : Hp} {s : Shared} {h' : Heap} {tk : Nat} {xs ys : List V} {us ws : List Value} {acc : Array Value} {c : Nat} {as : List Addr} {S : Addr} (I : Inv X pins σ H s) (hSs : s.heap.objs.size ≤ S) (hz : (xs.zip ys).length ≤ sizeLine) (rx : Vals xs us) (ry : Vals ys ws)
    (hk : ∀ b o, s.heap.get? b = some o → h'.get? b = some o) (hS : h'.get? S = some { cls := .type "list", dict := none, data := .seq acc c, slots := #[] }) (hl : as.length = (xs.zip ys).length) (hG : Lz.Pg (fun i v => us.toArray[i]? = some v) (fun i v => ws.toArray[i]? = some v) S h' as) (hacc : acc.toList = as.map Value.ref) :
    H S = none ∧ (∀ t ∈ as, H t = none) ∧ S ∉ as ∧ as.Nodup ∧ Inv X pins σ (upd (putP H as (xs.zip ys)) S (.lst (as.map V.ref))) { s with heap := h', toks := tk } := by
  have hSn : S ∉ as := fun z => Nat.lt_irrefl _ (hG.above _ z)
  have nd : as.Nodup := List.Pairwise.imp (fun {a b} (h : a < b) => Nat.ne_of_lt h) hG.rise
  have new : ∀ t ∈ as, H t = none := fun t ht => I.hok.fresh (Nat.le_trans hSs (Nat.le_of_lt (hG.above t ht)))
  have newS : H S = none := I.hok.fresh hSs
  have atP := putP_at as (xs.zip ys) H hl nd
  have off : ∀ b, b ∉ as → b ≠ S → upd (putP H as (xs.zip ys)) S (.lst (as.map V.ref)) b = H b := fun b h1 h2 => by rw [upd_ne h2, putP_off as _ _ h1]
  have low : ∀ b o, s.heap.get? b = some o → b ∉ as ∧ b ≠ S := fun b o e => ⟨fun z => absurd (Heap.lt_size e) (Nat.not_lt.mpr (Nat.le_trans hSs (Nat.le_of_lt (hG.above b z)))), Nat.ne_of_lt (Nat.lt_of_lt_of_le (Heap.lt_size e) hSs)⟩
  have kp : ∀ b u, H b = some u → upd (putP H as (xs.zip ys)) S (.lst (as.map V.ref)) b = some u := fun b u e => by
    rw [off b (fun z => by rw [new b z] at e; cases e) (fun z => by rw [z, newS] at e; cases e)]
    exact e
  refine ⟨newS, new, hSn, nd, ?_⟩
  refine I.call' (ch := []) rfl ⟨fun b o q _ _ _ => hk b o q, fun b o q _ _ _ => ⟨o.slots, hk b o q⟩, fun b o q n _ => ?_, fun b o q _ => ⟨o, hk b o q⟩, fun b xs q => kp b _ q, fun b o u q => kp b _ q, fun b ps q => ⟨#[], by rw [kp b _ q]; simp⟩⟩ (fun b u q => ?_) I.bare fun b z => by simp at z
  · obtain ⟨z1, z2⟩ := low b o q
    rw [off b z1 z2]
    exact n
  · by_cases hb2 : b = S
    · rw [hb2] at q ⊢
      rw [upd_same] at q
      cases q
      refine ⟨by rw [List.length_map]; omega, acc.toList, c, by rw [hacc]; exact LiI.vals_refs as, ?_⟩
      rw [Array.toArray_toList]
      exact hS
    · by_cases hb : b ∈ as
      · obtain ⟨j, pk, e1, e2, e3⟩ := LiI.paired_ix atP hb
        rw [upd_ne hb2, e3] at q
        cases q
        obtain ⟨x, y, p1, p2, f3⟩ := hG.pairs j b e1
        obtain ⟨g1, g2⟩ := List.getElem?_zip_eq_some.mp e2
        obtain ⟨u1, k1, r1⟩ := LiI.paired_get rx g1
        obtain ⟨u2, k2, r2⟩ := LiI.paired_get ry g2
        have q1 : us[j]? = some x := by simpa using p1
        have q2 : ws[j]? = some y := by simpa using p2
        rw [k1] at q1
        rw [k2] at q2
        cases q1
        cases q2
        exact ⟨by show 2 ≤ sizeLine; decide, [x, y], .cons r1 (.cons r2 .nil), ⟨_, f3, rfl, _, rfl⟩⟩
      · rw [off b hb hb2] at q
        exact (I.hok b u q).stay (fun d v _ y => hk d v y) (fun d y => kp d _ y) fun d xs y => kp d _ y
variable {e e2 : Expr} {ta : TA} {p p2 pos pos2 : Pos}
theorem pe_listZip (hc : X.calm = true) (hg : Gl X "list") (hm : X.mg "list" = none) (hg2 : Gl X "zip") (hm2 : X.mg "zip" = none) (ha : PA X [e, e2] ta)
    (hs2 : starEach [e, e2] X.env = (false, eval e X.env) :: starEach [e2] X.env := by rfl) (hpl : (backTo pos2 (starEach [e2] X.env)).any (·.1) = false := by rfl)
    (hs : starEach [.Call (.Name "zip" p2) [e, e2] [] pos2] X.env = (false, eval (.Call (.Name "zip" p2) [e, e2] [] pos2) X.env) :: starEach [] X.env := by rfl) :
    PE X (.Call (.Name "list" p) [.Call (.Name "zip" p2) [e, e2] [] pos2] [] pos) (tListZip X.K ta) := by
  refine ⟨fun pins s σ H Q I h => ?_⟩
  refine Call_ (ld_blt I hg hm boot_list ?_)
  refine PyProof.Rows.callWith_type1 ?_ hs rfl
  rw [hs]
  show wpAny _ _ (spliced ((false, eval (.Call (.Name "zip" p2) [e, e2] [] pos2) X.env) :: backTo pos (starEach [] X.env))) _ _ s
  refine Calls.spliced_cons ?_
  refine Call_ (ld_blt I hg2 hm2 PyProof.Rows.boot_zip (PyProof.Rows.callWith_type1 (thn (ha.run pos2 pins s σ H _ I h) fun us s1 ⟨vs, H1, I1, r1, q1⟩ => ?_) hs2 hpl))
  obtain ⟨a, b, xs, ys, ex, hq, q⟩ := q1
  subst ex
  cases r1 with
  | cons r rr =>
    cases rr with
    | cons r' rr =>
      cases rr
      cases r
      cases r'
      have hh := I1.ok.hd hc
      have fin : ∀ {us ws : List Value}, Vals xs us → Vals ys ws → us.length ≤ sizeLine → ∀ (h' : Heap) (tk : Nat) (acc : Array Value) (c : Nat) (as : List Addr), (∀ b o, s1.heap.get? b = some o → h'.get? b = some o) → h'.get? (s1.heap.objs.size + 5) = some { cls := .type "list", dict := none, data := .seq acc c, slots := #[] } → as.length = min us.toArray.size ws.toArray.size → Lz.Pg (fun i v => us.toArray[i]? = some v) (fun i v => ws.toArray[i]? = some v) (s1.heap.objs.size + 5) h' as →
          acc.toList = as.map Value.ref → (∃ (x : V) (H' : Hp), Inv X pins σ H' { s1 with heap := h', toks := tk } ∧ RelV x (.ref (s1.heap.objs.size + 5)) ∧ Q x H') := by
        intro us ws rx ry hn h' tk acc c as hk hS hl hG hacc
        have l1 := rx.length
        have l2 := ry.length
        have hl' : as.length = (xs.zip ys).length := by rw [List.length_zip, l1, l2]; simpa using hl
        obtain ⟨k2, k3, k4, k5, J⟩ := zip_laid (tk := tk) I1 (Nat.le_add_right _ 5) (by rw [List.length_zip]; omega) rx ry hk hS hl' hG hacc
        exact ⟨.ref _, _, J, rfl, q _ as k2 k3 k4 k5 hl'⟩
      rcases hq with ⟨hqx, hqy⟩ | ⟨hqx, hqy⟩
      · obtain ⟨us, rx, p1, hz1⟩ := I1.list hqx
        obtain ⟨ws, ry, p2, hz2⟩ := I1.list hqy
        have ln := rx.length
        exact wpAny_mono (Lz.dz_call (Q := fun v s' => ∃ x H', Inv X pins σ H' s' ∧ RelV x v ∧ Q x H') (begins_list a us.toArray) (begins_list b ws.toArray) p1.isList p2.isList (Draws.list (A := X.A.in1.in1.in1) hh s1.heap.objs.size a (Nat.ne_of_lt p1.lt) us.toArray) (Draws.list (A := X.A.in1.in1.in1) hh (s1.heap.objs.size + 1) b (Nat.ne_of_lt (Nat.lt_succ_of_lt p2.lt)) ws.toArray) p1.lt p2.lt
          (fun h i e => ⟨⟨_, e, rfl, rfl⟩, i⟩) (fun h i e => ⟨⟨_, e, rfl, rfl⟩, i⟩) (by simp; omega) (fin rx ry (by omega))) (fun v s' h => Calls.spliced_nil h) fun _ _ h => h
      · obtain ⟨us, rx, p1, hz1⟩ := I1.tuple hqx
        obtain ⟨ws, ry, p2, hz2⟩ := I1.tuple hqy
        have ln := rx.length
        obtain ⟨o1, ho1, _⟩ := id p1
        obtain ⟨o2, ho2, _⟩ := id p2
        exact wpAny_mono (Lz.dz_call (Q := fun v s' => ∃ x H', Inv X pins σ H' s' ∧ RelV x v ∧ Q x H') (begins_tuple a us.toArray) (begins_tuple b ws.toArray) p1 p2 (Draws.tuple (A := X.A.in1.in1.in1) hh s1.heap.objs.size a (Nat.ne_of_lt (Heap.lt_size ho1)) us.toArray) (Draws.tuple (A := X.A.in1.in1.in1) hh (s1.heap.objs.size + 1) b (Nat.ne_of_lt (Nat.lt_succ_of_lt (Heap.lt_size ho2))) ws.toArray) (Heap.lt_size ho1) (Heap.lt_size ho2)
          (fun h i e => ⟨⟨_, e, rfl, rfl⟩, i⟩) (fun h i e => ⟨⟨_, e, rfl, rfl⟩, i⟩) (by simp; omega) (fin rx ry (by omega))) (fun v s' h => Calls.spliced_nil h) fun _ _ h => h

theorem zip_born {F : Fx} {ρ : DEnv} {own : Addr → Option Nat} {σ : L2.St} : ∀ {I H : Hp} (ts : List Addr) (xs ys : List V) (ds es : List D), Rel F ρ I own σ H → RepL I xs ds → RepL I ys es → (∀ t ∈ ts, H t = none) → ts.Nodup → ts.length = (xs.zip ys).length →
    ∃ I', Rel F ρ I' own σ (putP H ts (xs.zip ys)) ∧ Sub I I' ∧ RepL I' (ts.map V.ref) (zipD ds es)
  | I, H, [], [], ys, ds, es, R, rx, ry, _, _, _ => by cases rx; exact ⟨I, R, Sub.refl _, .nil⟩
  | I, H, [], x :: xs, [], ds, es, R, rx, ry, _, _, _ => by cases rx; cases ry; exact ⟨I, R, Sub.refl _, .nil⟩
  | I, H, [], x :: xs, y :: ys, ds, es, R, rx, ry, _, _, h => by simp at h
  | I, H, t :: ts, [], ys, ds, es, R, rx, ry, _, _, h => by simp at h
  | I, H, t :: ts, x :: xs, [], ds, es, R, rx, ry, _, _, h => by simp at h
  | I, H, t :: ts, x :: xs, y :: ys, ds, es, R, rx, ry, hf, hn, h => by
    cases rx with
    | cons r1 rx =>
      cases ry with
      | cons r2 ry =>
        have hn' := List.nodup_cons.mp hn
        obtain ⟨R2, s2⟩ := R.born (o := .tup [x, y]) (hf t List.mem_cons_self)
        obtain ⟨I', R3, s3, r3⟩ := zip_born ts xs ys _ _ R2 (rx.mono s2) (ry.mono s2) (fun u hu => by rw [upd_ne (fun z => hn'.1 (by rw [← z]; exact hu))]; exact hf u (List.mem_cons_of_mem _ hu)) hn'.2 (by simpa using h)
        exact ⟨I', R3, s2.trans s3, .cons (.tup (s3 _ _ upd_same) (.cons (r1.mono (s2.trans s3)) (.cons (r2.mono (s2.trans s3)) .nil))) r3⟩
theorem putP_none {b : Addr} {ts : List Addr} {ps : List (V × V)} {H : Hp} (h : H b = none) (hb : b ∉ ts) : putP H ts ps b = none := by rw [putP_off _ _ _ hb]; exact h
def lzK (ds : List D) (Q : Slot → Prop) : Prop := match ds with
  | [.list xs, .list ys] => Q (.lst (zipD xs ys))
  | [.tuple xs, .tuple ys] => Q (.lst (zipD xs ys))
  | _ => False
theorem lzK_l {xs ys : List D} {Q : Slot → Prop} : lzK [.list xs, .list ys] Q = Q (.lst (zipD xs ys)) := rfl
theorem lzK_t {xs ys : List D} {Q : Slot → Prop} : lzK [.tuple xs, .tuple ys] Q = Q (.lst (zipD xs ys)) := rfl
def dListZip (t : DTA) : DTE := fun ρ Q => t ρ fun bs ρ1 => opt (allD bs) fun ds => lzK ds fun s => Q s ρ1
theorem e_listZip {tas : DTA} {ρ : DEnv} {Q : Slot → DEnv → Prop} : dListZip tas ρ Q = tas ρ fun bs ρ1 => allK bs fun ds => lzK ds fun s => Q s ρ1 := by
  unfold dListZip; simp only [opt_all]
theorem de_listZip {L : List Nat} {tas : DTA} (hc : X.calm = true) (hg : Gl X "list") (hm : X.mg "list" = none) (hg2 : Gl X "zip") (hm2 : X.mg "zip" = none) (ha : DA X L [e, e2] ta tas)
    (hs2 : starEach [e, e2] X.env = (false, eval e X.env) :: starEach [e2] X.env := by rfl) (hpl : (backTo pos2 (starEach [e2] X.env)).any (·.1) = false := by rfl)
    (hs : starEach [.Call (.Name "zip" p2) [e, e2] [] pos2] X.env = (false, eval (.Call (.Name "zip" p2) [e, e2] [] pos2) X.env) :: starEach [] X.env := by rfl) :
    DE X L (.Call (.Name "list" p) [.Call (.Name "zip" p2) [e, e2] [] pos2] [] pos) (tListZip X.K ta) (dListZip tas) :=
  ⟨pe_listZip hc hg hm hg2 hm2 ha.pe hs2 hpl hs, fun F ρ I own σ H Qd Q fo Rl h k => ha.snd F ρ I own σ H _ _ fo Rl h fun bs ρ1 I1 own1 H1 vs R1 s1 r1 h1 => by
    obtain ⟨ds, ed, h1⟩ := opt_elim h1
    have rd := allD_rep r1 ed
    unfold lzK at h1
    split at h1
    · rename_i xs ys
      cases rd with
      | cons rv rn =>
        cases rn with
        | cons rw' rn =>
          cases rn
          cases rv with
          | lst hp rp =>
            rename_i q ws
            cases rw' with
            | lst hp' rp' =>
              rename_i q' ws'
              refine ⟨q, q', ws, ws', rfl, .inl ⟨.of (R1.sub _ _ hp), .of (R1.sub _ _ hp')⟩, fun a ts n1 n2 n3 n4 n5 => ?_⟩
              obtain ⟨I2, R2, s2, r2⟩ := zip_born ts ws ws' xs ys R1 rp rp' n2 n4 n5
              have n6 := putP_none (ps := ws.zip ws') n1 n3
              exact k _ ρ1 I2 own1 _ _ (R2.laid n6) (s1.trans s2) (ResOk.new R2 n6 r2) h1
    · rename_i xs ys
      cases rd with
      | cons rv rn =>
        cases rn with
        | cons rw' rn =>
          cases rn
          cases rv with
          | tup hp rp =>
            rename_i q ws
            cases rw' with
            | tup hp' rp' =>
              rename_i q' ws'
              refine ⟨q, q', ws, ws', rfl, .inr ⟨.of (R1.sub _ _ hp), .of (R1.sub _ _ hp')⟩, fun a ts n1 n2 n3 n4 n5 => ?_⟩
              obtain ⟨I2, R2, s2, r2⟩ := zip_born ts ws ws' xs ys R1 rp rp' n2 n4 n5
              have n6 := putP_none (ps := ws.zip ws') n1 n3
              exact k _ ρ1 I2 own1 _ _ (R2.laid n6) (s1.trans s2) (ResOk.new R2 n6 r2) h1
    · exact h1.elim⟩
end
end DL

set_option Elab.async false
set_option linter.all false
set_option maxRecDepth 100000
namespace DL
open PySem PySem.Spec L2
open PyProof.Rows hiding St
section
variable {ρ : DEnv} {i n : Nat} {Z : DEnds} {x y z u d : D} {xs : List D} {k : D → Prop} {kl : List D → Prop}
theorem at_0 : atK (x :: xs) 0 k = k x := by
  have h : ixN (x :: xs).length 0 = some 0 := by unfold ixN; rw [if_pos (by decide), if_pos (by simp only [List.length_cons]; omega)]; rfl
  unfold atK atI; rw [h]; rfl
theorem at_1 : atK (x :: y :: xs) 1 k = k y := by
  have h : ixN (x :: y :: xs).length 1 = some 1 := by unfold ixN; rw [if_pos (by decide), if_pos (by simp only [List.length_cons]; omega)]; rfl
  unfold atK atI; rw [h]; rfl
theorem at_2 : atK (x :: y :: z :: xs) 2 k = k z := by
  have h : ixN (x :: y :: z :: xs).length 2 = some 2 := by unfold ixN; rw [if_pos (by decide), if_pos (by simp only [List.length_cons]; omega)]; rfl
  unfold atK atI; rw [h]; rfl
theorem at_3 : atK (x :: y :: z :: u :: xs) 3 k = k u := by
  have h : ixN (x :: y :: z :: u :: xs).length 3 = some 3 := by unfold ixN; rw [if_pos (by decide), if_pos (by simp only [List.length_cons]; omega)]; rfl
  unfold atK atI; rw [h]; rfl
def ogK (ds : List D) (n : Int) (k : D → Prop) : Prop := opt ds[n.toNat]? k
theorem og_0 : ogK (x :: xs) 0 k = k x := rfl
theorem og_1 : ogK (x :: y :: xs) 1 k = k y := rfl
theorem og_2 : ogK (x :: y :: z :: xs) 2 k = k z := rfl
theorem og_3 : ogK (x :: y :: z :: u :: xs) 3 k = k u := rfl
def isK (ds : List D) (n : Int) (d : D) (k : List D → Prop) : Prop := ixK ds.length n fun j => k (ds.set j d)
theorem is_0 : isK (x :: xs) 0 d kl = kl (d :: xs) := by
  have h : ixN (x :: xs).length 0 = some 0 := by unfold ixN; rw [if_pos (by decide), if_pos (by simp only [List.length_cons]; omega)]; rfl
  unfold isK ixK; rw [h]; rfl
theorem is_1 : isK (x :: y :: xs) 1 d kl = kl (x :: d :: xs) := by
  have h : ixN (x :: y :: xs).length 1 = some 1 := by unfold ixN; rw [if_pos (by decide), if_pos (by simp only [List.length_cons]; omega)]; rfl
  unfold isK ixK; rw [h]; rfl
theorem is_2 : isK (x :: y :: z :: xs) 2 d kl = kl (x :: y :: d :: xs) := by
  have h : ixN (x :: y :: z :: xs).length 2 = some 2 := by unfold ixN; rw [if_pos (by decide), if_pos (by simp only [List.length_cons]; omega)]; rfl
  unfold isK ixK; rw [h]; rfl
theorem is_3 : isK (x :: y :: z :: u :: xs) 3 d kl = kl (x :: y :: z :: d :: xs) := by
  have h : ixN (x :: y :: z :: u :: xs).length 3 = some 3 := by unfold ixN; rw [if_pos (by decide), if_pos (by simp only [List.length_cons]; omega)]; rfl
  unfold isK ixK; rw [h]; rfl
def augOk (n : Int) : Prop := 0 ≤ n ∧ n < 1000000
theorem aug_0 : augOk 0 = True := eq_true ⟨by decide, by decide⟩
theorem aug_1 : augOk 1 = True := eq_true ⟨by decide, by decide⟩
theorem aug_2 : augOk 2 = True := eq_true ⟨by decide, by decide⟩
theorem aug_3 : augOk 3 = True := eq_true ⟨by decide, by decide⟩
theorem e_setI2 {tb : DTB} {t : DTE} : dSetI i tb t Z ρ = t ρ fun s ρ1 => frzK s fun d => slotK ρ1 i fun s0 => lstK s0 fun _ => tb ρ1 fun b ρ2 => getK ρ2 b fun y => negK y fun n => slotK ρ2 i fun s1 => lstK s1 fun ds => isK ds n d fun ds' => setK ρ2 i (.lst ds') Z.nx := e_setI
theorem e_augI2 {f : Int → Int → Int} {ta tb : DTB} : dAugI i f ta tb Z ρ = slotK ρ i fun s0 => lstK s0 fun _ => ta ρ fun b ρ1 => getK ρ1 b fun y => negK y fun n => slotK ρ1 i fun s1 => lstK s1 fun ds => augOk n ∧ ogK ds n fun old => negK old fun m =>
    tb ρ1 fun b2 ρ2 => getK ρ2 b2 fun z => negK z fun w => slotK ρ2 i fun s2 => lstK s2 fun ds2 => isK ds2 n (.int (f m w)) fun ds' => setK ρ2 i (.lst ds') Z.nx := e_augI
theorem mulOk_r {a b : Int} (h1 : -(2 ^ 64) < b) (h2 : b < 2 ^ 64) : mulOk a b := .inr ⟨h1, h2⟩
theorem mulOk_l {a b : Int} (h1 : -(2 ^ 64) < a) (h2 : a < 2 ^ 64) : mulOk a b := .inl ⟨h1, h2⟩
theorem e_neNN {Qs : Slot → Prop} : dNe .none .none Qs = Qs (.fz (.bool false)) := by
  have e : PyData.eqv .none .none = true := by first | rfl | simp [PyData.eqv] | decide +kernel
  show (_ ∧ Qs (.fz (.bool (!PyData.eqv .none .none)))) = _
  rw [e]
  exact propext ⟨fun h => h.2, fun h => ⟨⟨by decide +kernel, by decide +kernel⟩, h⟩⟩
theorem ite_T {P Q : Prop} : (if True then P else Q) = P := if_pos trivial
theorem ite_F {P Q : Prop} : (if False then P else Q) = Q := if_neg id
theorem Wk.mk {P : DEnv → Prop} {ρ : DEnv} (h : P ρ) : Wk P ρ := ⟨ρ, Wkr.refl ρ, h⟩
theorem tpK_2' : tpK (0 + 1 + 1) (.tuple [x, y]) kl = kl [x, y] := propext ⟨fun h => h.2, fun h => ⟨rfl, h⟩⟩
theorem tpK_3' : tpK (0 + 1 + 1 + 1) (.tuple [x, y, z]) kl = kl [x, y, z] := propext ⟨fun h => h.2, fun h => ⟨rfl, h⟩⟩
theorem tpK_4' : tpK (0 + 1 + 1 + 1 + 1) (.tuple [x, y, z, u]) kl = kl [x, y, z, u] := propext ⟨fun h => h.2, fun h => ⟨rfl, h⟩⟩
theorem tpK_2 {e1 e2 : Expr} : tpK [e1, e2].length (.tuple [x, y]) kl = kl [x, y] := by
  exact propext ⟨fun h => h.2, fun h => ⟨rfl, h⟩⟩
theorem tpK_3 {e1 e2 e3 : Expr} : tpK [e1, e2, e3].length (.tuple [x, y, z]) kl = kl [x, y, z] := by
  exact propext ⟨fun h => h.2, fun h => ⟨rfl, h⟩⟩
theorem tpK_4 {e1 e2 e3 e4 : Expr} : tpK [e1, e2, e3, e4].length (.tuple [x, y, z, u]) kl = kl [x, y, z, u] := by
  exact propext ⟨fun h => h.2, fun h => ⟨rfl, h⟩⟩
end
end DL
namespace DL
open PySem PySem.Spec L2
open PyProof.Rows hiding St
section
variable {ρ : DEnv} {Z : DEnds} {t : DTE} {ta : DTA} {g : DTG} {tb : DTS} {tt : DTT} {te : DTE} {it : DTI} {vs : List Nat} {Q : Slot → DEnv → Prop} {Qi : List D → DEnv → Prop} {ds : List D}
def lsK (d : D) (k : List D → Prop) : Prop := match d with
  | .list ds => k ds
  | _ => False
theorem lsK_l {k : List D → Prop} : lsK (.list ds) k = k ds := rfl
def tsK (d : D) (k : List D → Prop) : Prop := match d with
  | .tuple ds => k ds
  | _ => False
theorem tsK_t {k : List D → Prop} : tsK (.tuple ds) k = k ds := rfl
theorem e_iLst : iLst t ρ Qi = t ρ fun s ρ1 => frzK s fun d => lsK d fun ds => Qi ds ρ1 := by
  unfold iLst; simp only [opt_frz]; rfl
theorem e_iTpl : iTpl t ρ Qi = t ρ fun s ρ1 => frzK s fun d => tsK d fun ds => Qi ds ρ1 := by
  unfold iTpl; simp only [opt_frz]; rfl
def rg1K (ds : List D) (k : List D → Prop) : Prop := match ds with
  | [.int j] => rgO j ∧ k (rangeD 0 j.toNat)
  | _ => False
theorem rg1K_i {j : Int} {k : List D → Prop} : rg1K [.int j] k = (rgO j ∧ k (rangeD 0 j.toNat)) := rfl
theorem e_iRg1 : iRg1 ta ρ Qi = ta ρ fun bs ρ1 => getsK ρ1 bs fun ds => rg1K ds fun ds => Qi ds ρ1 := by
  unfold iRg1; simp only [opt_gets]; refine congrArg (ta ρ) (funext fun bs => funext fun ρ1 => congrArg (getsK ρ1 bs) (funext fun ds => ?_)); 
  cases ds with
  | nil => rfl
  | cons a r => cases r with
    | nil => cases a <;> rfl
    | cons b r => cases a <;> rfl
def rg2K (ds : List D) (k : List D → Prop) : Prop := match ds with
  | [.int i, .int j] => (rgO i ∧ rgO j) ∧ k (rangeD i (j - i).toNat)
  | _ => False
theorem rg2K_i {i j : Int} {k : List D → Prop} : rg2K [.int i, .int j] k = ((rgO i ∧ rgO j) ∧ k (rangeD i (j - i).toNat)) := rfl
theorem e_iRg2 : iRg2 ta ρ Qi = ta ρ fun bs ρ1 => getsK ρ1 bs fun ds => rg2K ds fun ds => Qi ds ρ1 := by
  unfold iRg2; simp only [opt_gets]; refine congrArg (ta ρ) (funext fun bs => funext fun ρ1 => congrArg (getsK ρ1 bs) (funext fun ds => ?_)); 
  cases ds with
  | nil => rfl
  | cons a r => cases r with
    | nil => cases a <;> rfl
    | cons b r => cases r with
      | nil => cases a <;> cases b <;> rfl
      | cons c r => cases a <;> cases b <;> rfl
def en1K (ds : List D) (k : List D → Prop) : Prop := match ds with
  | [.list xs] => k (enumD 0 xs)
  | _ => False
theorem en1K_l {xs : List D} {k : List D → Prop} : en1K [.list xs] k = k (enumD 0 xs) := rfl
theorem e_iEnm : iEnm ta ρ Qi = ta ρ fun bs ρ1 => allK bs fun ds => en1K ds fun ds => Qi ds ρ1 := by
  unfold iEnm; simp only [opt_all]; refine congrArg (ta ρ) (funext fun bs => funext fun ρ1 => congrArg (allK bs) (funext fun ds => ?_)); 
  cases ds with
  | nil => rfl
  | cons a r => cases r with
    | nil => cases a <;> rfl
    | cons b r => cases a <;> rfl
def zpK (ds : List D) (k : List D → Prop) : Prop := match ds with
  | [.list xs, .list ys] => k (zipD xs ys)
  | _ => False
theorem zpK_l {xs ys : List D} {k : List D → Prop} : zpK [.list xs, .list ys] k = k (zipD xs ys) := rfl
theorem e_iZp : iZp ta ρ Qi = ta ρ fun bs ρ1 => allK bs fun ds => zpK ds fun ds => Qi ds ρ1 := by
  unfold iZp; simp only [opt_all]; refine congrArg (ta ρ) (funext fun bs => funext fun ρ1 => congrArg (allK bs) (funext fun ds => ?_)); 
  cases ds with
  | nil => rfl
  | cons a r => cases r with
    | nil => cases a <;> rfl
    | cons b r => cases r with
      | nil => cases a <;> cases b <;> rfl
      | cons c r => cases a <;> cases b <;> rfl

def LC (g : DTG) (tt : DTT) (te : DTE) (vs : List Nat) (ds : List D) (ρ0 : DEnv) (Q : Slot → DEnv → Prop) : Prop := ∃ Inv : Nat → List D → DEnv → Prop, Inv 0 [] ρ0 ∧
  (∀ i d acc ρ, ds[i]? = some d → acc.length ≤ i → Inv i acc ρ → g d ρ fun ρ2 => tt ρ2 fun b ρ3 => if b = true then te ρ3 fun s ρ4 => opt (frzS s) fun x => acc.length < sizeLine ∧ Inv (i + 1) (acc ++ [x]) (wipeD ρ4 vs) else Inv (i + 1) acc (wipeD ρ3 vs)) ∧
  ∀ acc ρ, Inv ds.length acc ρ → Q (.lst acc) ρ
def wipeK (ρ : DEnv) (vs : List Nat) (k : DEnv → Prop) : Prop := k (wipeD ρ vs)
theorem wipeK_n {k : DEnv → Prop} : wipeK ρ (List.map (fun x : Str × Nat => x.snd) []) k = k ρ := rfl
theorem wipeK_c {x : Str} {i : Nat} {r : List (Str × Nat)} {k : DEnv → Prop} : wipeK ρ (List.map (fun x : Str × Nat => x.snd) ((x, i) :: r)) k = wipeK ρ (List.map (fun x : Str × Nat => x.snd) r) fun ρ' => setK ρ' i .un k := rfl
theorem e_lc : dLc it g tt te vs ρ Q = it ρ fun ds ρ1 => wipeK ρ1 vs fun ρ0 => LC g tt te vs ds ρ0 Q := rfl
/-- each thing handed out gives what F tells; the rest of the places stays -/
theorem LC.fm {ρ0 : DEnv} (F : D → Option D) (hl : ds.length ≤ sizeLine)
    (h : ∀ d ∈ ds, ∀ (Kt : D → DEnv → Prop) (Kf : DEnv → Prop), (∀ x, F d = some x → ∀ ρ4, wipeD ρ4 vs = ρ0 → Kt x ρ4) → (F d = none → ∀ ρ3, wipeD ρ3 vs = ρ0 → Kf ρ3) → g d ρ0 fun ρ2 => tt ρ2 fun b ρ3 => if b = true then te ρ3 fun s ρ4 => frzK s fun x => Kt x ρ4 else Kf ρ3)
    (hQ : Q (.lst (ds.filterMap F)) ρ0) : LC g tt te vs ds ρ0 Q := by
  refine ⟨fun i acc ρ => ρ = ρ0 ∧ acc = (ds.take i).filterMap F, ⟨rfl, by simp⟩, ?_, ?_⟩
  · rintro i d acc ρ e hi ⟨rfl, rfl⟩
    obtain ⟨hlt, ed⟩ := List.getElem?_eq_some_iff.mp e
    have et : ds.take (i + 1) = ds.take i ++ [d] := by rw [List.take_succ, e]; rfl
    simp only [opt_frz]
    exact h d (List.mem_of_getElem? e) _ _ (fun x e1 ρ4 e2 => ⟨by omega, e2, by rw [et, List.filterMap_append]; simp [e1]⟩) fun e1 ρ3 e2 => ⟨e2, by rw [et, List.filterMap_append]; simp [e1]⟩
  · rintro acc ρ ⟨rfl, rfl⟩
    rw [List.take_length]
    exact hQ
theorem fm_ints (f : Int → Int) (F : D → Option D) (hF : ∀ n, F (.int n) = some (.int (f n))) : ∀ ns : List Int, (ns.map PyData.int).filterMap F = (ns.map f).map .int
  | [] => rfl
  | n :: ns => by
    have := fm_ints f F hF ns
    simp only [List.map_cons, List.filterMap_cons, hF]
    rw [this]
theorem LC.ints {ρ0 : DEnv} {ns : List Int} (f : Int → Int) (hl : ns.length ≤ sizeLine)
    (h : ∀ n ∈ ns, ∀ (Kt : D → DEnv → Prop) (Kf : DEnv → Prop), (∀ ρ4, wipeD ρ4 vs = ρ0 → Kt (.int (f n)) ρ4) → g (.int n) ρ0 fun ρ2 => tt ρ2 fun b ρ3 => if b = true then te ρ3 fun s ρ4 => frzK s fun x => Kt x ρ4 else Kf ρ3)
    (hQ : Q (.lst ((ns.map f).map .int)) ρ0) : LC g tt te vs (ns.map .int) ρ0 Q := by
  let F : D → Option D := fun d => match d with
    | .int n => some (.int (f n))
    | _ => none
  refine LC.fm F (by simpa using hl) (fun d hd Kt Kf ht hf => ?_) (by rw [fm_ints f F (fun _ => rfl)]; exact hQ)
  obtain ⟨n, hn, rfl⟩ := List.mem_map.mp hd
  exact h n hn Kt Kf fun ρ4 e => ht _ rfl ρ4 e
/-- the same over any things, each gives one -/
theorem LC.all {α : Type} {ρ0 : DEnv} {xs : List α} (c : α → D) (f : α → D) (hl : xs.length ≤ sizeLine)
    (h : ∀ x ∈ xs, ∀ (Kt : D → DEnv → Prop) (Kf : DEnv → Prop), (∀ ρ4, wipeD ρ4 vs = ρ0 → Kt (f x) ρ4) → g (c x) ρ0 fun ρ2 => tt ρ2 fun b ρ3 => if b = true then te ρ3 fun s ρ4 => frzK s fun x => Kt x ρ4 else Kf ρ3)
    (hQ : Q (.lst (xs.map f)) ρ0) : LC g tt te vs (xs.map c) ρ0 Q := by
  refine ⟨fun i acc ρ => ρ = ρ0 ∧ acc = (xs.take i).map f, ⟨rfl, by simp⟩, ?_, ?_⟩
  · rintro i d acc ρ e hi ⟨rfl, rfl⟩
    rw [List.getElem?_map, Option.map_eq_some_iff] at e
    obtain ⟨x, e, rfl⟩ := e
    obtain ⟨hlt, ed⟩ := List.getElem?_eq_some_iff.mp e
    have et : xs.take (i + 1) = xs.take i ++ [x] := by rw [List.take_succ, e]; rfl
    simp only [opt_frz]
    exact h x (List.mem_of_getElem? e) _ _ fun ρ4 e2 => ⟨by simp at hi ⊢; omega, e2, by rw [et]; simp⟩
  · rintro acc ρ ⟨rfl, rfl⟩
    rw [List.length_map, List.take_length]
    exact hQ
theorem fm_filt (p : Int → Bool) (c : Int → Int) (F : D → Option D) (hF : ∀ n, F (.int n) = if p n = true then some (.int (c n)) else none) : ∀ ns : List Int, (ns.map PyData.int).filterMap F = ((ns.filter p).map c).map .int
  | [] => rfl
  | n :: ns => by
    have := fm_filt p c F hF ns
    simp only [List.map_cons, List.filterMap_cons, hF, List.filter_cons]
    cases p n <;> simp [this]
theorem LC.filt {ρ0 : DEnv} {ns : List Int} (p : Int → Bool) (c : Int → Int) (hl : ns.length ≤ sizeLine)
    (h : ∀ n ∈ ns, ∀ (Kt : D → DEnv → Prop) (Kf : DEnv → Prop), (p n = true → ∀ ρ4, wipeD ρ4 vs = ρ0 → Kt (.int (c n)) ρ4) → (p n = false → ∀ ρ3, wipeD ρ3 vs = ρ0 → Kf ρ3) → g (.int n) ρ0 fun ρ2 => tt ρ2 fun b ρ3 => if b = true then te ρ3 fun s ρ4 => frzK s fun x => Kt x ρ4 else Kf ρ3)
    (hQ : Q (.lst (((ns.filter p).map c).map .int)) ρ0) : LC g tt te vs (ns.map .int) ρ0 Q := by
  let F : D → Option D := fun d => match d with
    | .int n => if p n = true then some (.int (c n)) else none
    | _ => none
  refine LC.fm F (by simpa using hl) (fun d hd Kt Kf ht hf => ?_) (by rw [fm_filt p c F (fun _ => rfl)]; exact hQ)
  obtain ⟨n, hn, rfl⟩ := List.mem_map.mp hd
  refine h n hn Kt Kf (fun hp ρ4 e => ht _ ?_ ρ4 e) fun hp ρ3 e => hf ?_ ρ3 e
  · show (if p n = true then some (PyData.int (c n)) else none) = _
    rw [if_pos hp]
  · show (if p n = true then some (PyData.int (c n)) else none) = _
    rw [if_neg (by rw [hp]; decide)]
def FR (g : DTG) (tb : DTS) (Z : DEnds) (ds : List D) (ρ1 : DEnv) : Prop := ∃ Inv : Nat → DEnv → Prop, Inv 0 ρ1 ∧
  (∀ i d ρ, ds[i]? = some d → Inv i ρ → g d ρ fun ρ2 => tb { nx := Wk (Inv (i + 1)), ct := Wk (Inv (i + 1)), bk := Z.nx, rt := Z.rt } ρ2) ∧ ∀ ρ, Inv ds.length ρ → Z.nx ρ
theorem e_for : dFor it g tb Z ρ = it ρ fun ds ρ1 => FR g tb Z ds ρ1 := rfl
/-- the same stands behind each thing -/
theorem FR.mem {ρ1 : DEnv} (Inv : DEnv → Prop) (h0 : Inv ρ1) (h : ∀ d ∈ ds, ∀ ρ, Inv ρ → g d ρ fun ρ2 => tb { nx := Wk Inv, ct := Wk Inv, bk := Z.nx, rt := Z.rt } ρ2) (he : ∀ ρ, Inv ρ → Z.nx ρ) : FR g tb Z ds ρ1 :=
  ⟨fun _ => Inv, h0, fun _ d ρ e q => h d (List.mem_of_getElem? e) ρ q, he⟩
/-- over things x of xs, written c x; Inv over the things done and those to come -/
theorem FR.all {α : Type} {ρ1 : DEnv} {xs : List α} (c : α → D) (Inv : List α → List α → DEnv → Prop) (h0 : Inv [] xs ρ1)
    (h : ∀ (pre : List α) (x : α) (post : List α) (ρ : DEnv), xs = pre ++ x :: post → Inv pre (x :: post) ρ → g (c x) ρ fun ρ2 => tb { nx := Wk (Inv (pre ++ [x]) post), ct := Wk (Inv (pre ++ [x]) post), bk := Z.nx, rt := Z.rt } ρ2)
    (he : ∀ ρ, Inv xs [] ρ → Z.nx ρ) : FR g tb Z (xs.map c) ρ1 := by
  refine ⟨fun i ρ => Inv (xs.take i) (xs.drop i) ρ, by simpa using h0, fun i d ρ e q => ?_, fun ρ q => he ρ (by rw [List.length_map, List.take_length, List.drop_length] at q; exact q)⟩
  rw [List.getElem?_map, Option.map_eq_some_iff] at e
  obtain ⟨x, e, rfl⟩ := e
  obtain ⟨hlt, ed⟩ := List.getElem?_eq_some_iff.mp e
  have e1 : xs.take (i + 1) = xs.take i ++ [x] := by rw [List.take_succ, e]; rfl
  have e2 : xs.drop i = x :: xs.drop (i + 1) := by rw [List.drop_eq_getElem_cons hlt, ed]
  simp only [e1]
  rw [e2] at q
  exact h (xs.take i) x (xs.drop (i + 1)) ρ (by rw [← e2, List.take_append_drop]) q
end
end DL
namespace DL
open PySem PySem.Spec L2
open PyProof.Rows hiding St
section
variable {ρ : DEnv} {Z : DEnds} {g : DTG} {tb : DTS} {k : D → Prop} {kb : Bool → Prop} {kl : List D → Prop} {Qt : Bool → DEnv → Prop} {xs : List D} {x : D}
theorem e_yes : dYes ρ Qt = Qt true ρ := rfl
theorem FR.range {lo : Int} {n : Nat} {ρ1 : DEnv} (Inv : Nat → DEnv → Prop) (h0 : Inv 0 ρ1)
    (h : ∀ (i : Nat) (ρ : DEnv), i < n → Inv i ρ → g (.int (lo + (i : Nat))) ρ fun ρ2 => tb { nx := Wk (Inv (i + 1)), ct := Wk (Inv (i + 1)), bk := Z.nx, rt := Z.rt } ρ2)
    (he : ∀ ρ, Inv n ρ → Z.nx ρ) : FR g tb Z (rangeD lo n) ρ1 := by
  refine ⟨Inv, h0, fun i d ρ e q => ?_, fun ρ q => he ρ (by unfold rangeD at q; rw [List.length_map, List.length_range] at q; exact q)⟩
  unfold rangeD at e
  rw [List.getElem?_map, Option.map_eq_some_iff] at e
  obtain ⟨j, ej, rfl⟩ := e
  obtain ⟨hl, ej⟩ := List.getElem?_eq_some_iff.mp ej
  rw [List.getElem_range] at ej
  rw [List.length_range] at hl
  subst ej
  exact h i ρ hl q
theorem FR.range0 {n : Nat} {ρ1 : DEnv} (Inv : Nat → DEnv → Prop) (h0 : Inv 0 ρ1)
    (h : ∀ (i : Nat) (ρ : DEnv), i < n → Inv i ρ → g (.int (i : Nat)) ρ fun ρ2 => tb { nx := Wk (Inv (i + 1)), ct := Wk (Inv (i + 1)), bk := Z.nx, rt := Z.rt } ρ2)
    (he : ∀ ρ, Inv n ρ → Z.nx ρ) : FR g tb Z (rangeD 0 n) ρ1 :=
  FR.range Inv h0 (fun i ρ hi q => by rw [Int.zero_add]; exact h i ρ hi q) he
theorem intsInj {ns ms : List Int} : (ns.map PyData.int = ms.map PyData.int) = (ns = ms) := propext (List.map_inj_right fun _ _ h => PyData.int.inj h)
theorem rep_int {n : Nat} {m : Int} : (List.replicate n [PyData.int m]).flatten = (List.replicate n m).map PyData.int := by
  induction n with
  | zero => rfl
  | succ n ih => rw [List.replicate_succ, List.flatten_cons, ih, List.replicate_succ]; rfl
theorem eqv_nil {xs : List D} : PyData.eqv (.list xs) (.list []) = decide (xs = []) := by
  cases xs <;> simp [PyData.eqv, PyData.eqvAll]
theorem canAll_ints : ∀ ns : List Int, PyData.canLayAll0 (ns.map .int) = true
  | [] => rfl
  | n :: ns => by simp [PyData.canLayAll0, PyData.canLay0, canAll_ints ns]
theorem depth_ints : ∀ ns : List Int, PyData.depthAll (ns.map .int) = 0
  | [] => rfl
  | n :: ns => by simp [PyData.depthAll, PyData.depth, depth_ints ns]
theorem gd_ints {ns : List Int} : gd 60 (.list (ns.map .int)) = true := by
  unfold gd; simp [PyData.canLay0, PyData.depth, canAll_ints, depth_ints]
theorem canAll_pairs : ∀ ns : List (Int × Int), PyData.canLayAll0 (ns.map pD) = true
  | [] => rfl
  | n :: ns => by simp [PyData.canLayAll0, PyData.canLay0, canAll_pairs ns, pD]
theorem depth_pairs : ∀ ns : List (Int × Int), PyData.depthAll (ns.map pD) ≤ 1
  | [] => by simp [PyData.depthAll]
  | n :: ns => by have := depth_pairs ns; simp [PyData.depthAll, PyData.depth, pD]; omega
theorem gd_pairs {ns : List (Int × Int)} : gd 60 (.list (ns.map pD)) = true := by
  have := depth_pairs ns
  unfold gd; simp [PyData.canLay0, PyData.depth, canAll_pairs]; omega
theorem eqv_ints : ∀ ns ms : List Int, PyData.eqvAll (ns.map .int) (ms.map .int) = decide (ns = ms)
  | [], [] => by simp [PyData.eqvAll]
  | [], _ :: _ => by simp [PyData.eqvAll]
  | _ :: _, [] => by simp [PyData.eqvAll]
  | n :: ns, m :: ms => by
    simp only [List.map_cons, PyData.eqvAll, PyData.eqv, eqv_ints ns ms]
    by_cases h : n = m <;> by_cases h2 : ns = ms <;> simp [h, h2]
theorem gd_nil : gd 60 (.list []) = true := gd_ints (ns := [])
theorem eqK_nilI {ns : List Int} : eqK (.list (ns.map .int)) (.list []) kb = kb (decide (ns = [])) := by
  unfold eqK; rw [eqv_nil]; simp [gd_ints, gd_nil]
theorem eqK_nilP {ns : List (Int × Int)} : eqK (.list (ns.map pD)) (.list []) kb = kb (decide (ns = [])) := by
  unfold eqK; rw [eqv_nil]; simp [gd_pairs, gd_nil]
theorem eqK_ints {ns ms : List Int} : eqK (.list (ns.map .int)) (.list (ms.map .int)) kb = kb (decide (ns = ms)) := by
  unfold eqK; simp [gd_ints, PyData.eqv, eqv_ints]
theorem eqK_Ni {i : Int} : eqK .none (.int i) kb = kb false := by
  unfold eqK
  have e : PyData.eqv .none (.int i) = false := by simp [PyData.eqv]
  have e1 : gd 60 .none = true := by decide +kernel
  have e2 : gd 60 (.int i) = true := by simp [gd, PyData.canLay0, PyData.depth]
  rw [e, e1, e2]; simp
theorem atK_ints {ns : List Int} {i : Int} (h1 : 0 ≤ i) (h2 : i < ns.length) : atK (ns.map .int) i k = k (.int (ns.getD i.toNat 0)) := by
  have h3 : i.toNat < ns.length := by omega
  have e : atI (ns.map PyData.int) i = some (.int (ns.getD i.toNat 0)) := by
    unfold atI ixN
    rw [if_pos h1, if_pos (by simpa using h2)]
    simp [List.getElem?_eq_getElem h3, List.getD]
  unfold atK
  rw [e]; rfl
theorem isK_ints {ns : List Int} {i v : Int} (h1 : 0 ≤ i) (h2 : i < ns.length) : isK (ns.map .int) i (.int v) kl = kl ((ns.set i.toNat v).map .int) := by
  have e : ixN (ns.map PyData.int).length i = some i.toNat := by
    unfold ixN
    rw [if_pos h1, if_pos (by simpa using h2)]
  unfold isK ixK
  rw [e]
  show kl ((ns.map PyData.int).set i.toNat (PyData.int v)) = _
  rw [← List.map_set]
theorem atK_last : atK (xs ++ [x]) (-1) k = k x := by
  have e : atI (xs ++ [x]) (-1) = some x := by
    unfold atI ixN
    rw [if_neg (by decide), if_pos (by simp; omega)]
    have : (-1 + ((xs ++ [x]).length : Int)).toNat = xs.length := by simp; omega
    simp only [Option.bind_some, this]
    simp
  unfold atK
  rw [e]; rfl
theorem ixOf_ints {m : Int} : ∀ {ns : List Int}, m ∈ ns → ixOf (.int m) (ns.map .int) = some (ns.idxOf m)
  | n :: ns, h => by
    rw [List.map_cons, List.idxOf_cons]
    unfold ixOf
    by_cases e : n = m
    · subst e; simp [PyData.eqv]
    · have : m ∈ ns := by exact (List.mem_cons.mp h).resolve_left fun h => e h.symm
      have e' : (n == m) = false := by simpa using e
      rw [ixOf_ints this, e']
      simp [PyData.eqv, e]
theorem idxK_ints {ns : List Int} {m : Int} {kn : Nat → Prop} (h : m ∈ ns) : idxK (.list (ns.map .int)) (.int m) kn = kn (ns.idxOf m) := by
  show ((_ ∧ _) ∧ _) = _
  rw [ixOf_ints h]
  have : (ns.map PyData.int).all flatD = true := by simp [List.all_map, flatD, Function.comp_def]
  simp [this, flatD, opt]
theorem zipD_ints : ∀ ns ms : List Int, zipD (ns.map .int) (ms.map .int) = (ns.zip ms).map pD
  | [], _ => by simp [zipD]
  | _ :: _, [] => by simp [zipD]
  | n :: ns, m :: ms => by simp [zipD, zipD_ints ns ms, pD]
end
end DL

set_option Elab.async false
set_option linter.all false
set_option maxRecDepth 100000
namespace L2
open PySem PySem.Spec
open PyProof.Rows hiding St
/-- a list's iterator as it stands at i, drawn on or at its end -/
theorem drawsAt {prog : Program} {w : World} {A : Around} (hh : A.handled = none) {it l : Addr} (hne : l ≠ it) {items : Array Value} {i : Nat} {h : Heap} (h1 : h.IsListIter it l i) (h2 : h.IsList l items) :
    ∃ (n : Nat) (P : Nat → Value → Prop) (St : Nat → Heap → Prop), Draws prog w A it [it, l] n P St ∧ St i h ∧ i ≤ n ∧ (items.size ≤ i → i = n) := by
  by_cases hi : i < items.size
  · exact ⟨_, _, _, Draws.list hh it l hne items, ⟨h1, h2⟩, by omega, by omega⟩
  · refine ⟨i, fun _ _ => False, fun j h => (h.IsListIter it l j ∧ h.IsList l items) ∧ j = i, ?_, ⟨⟨h1, h2⟩, rfl⟩, Nat.le_refl _, fun _ => rfl⟩
    exact
      { live := fun _ _ st => let ⟨o, ho, _⟩ := st.1.1; ⟨o, ho⟩
        frame := fun _ _ _ st hk => ⟨⟨st.1.1.at fun o e => hk it (by simp) o e, st.1.2.at fun o e => hk l (by simp) o e⟩, st.2⟩
        item := fun j s Q E hj st _ => absurd st.2 (by omega)
        done := fun s Q E st hE => wpAny_nextOf_list_end hh st.1.1 st.1.2 (by simp; omega) hE }
/-- the lists at a, b and c as they stand at each turn, the items in new tuples -/
def Itz3 (K : PySem.W.Frag) (a b c : Addr) : It :=
  ⟨fun i H => ∃ (xs ys zs : List V) (x y z : V), (SqL K H a xs ∧ SqL K H b ys ∧ SqL K H c zs) ∧ xs[i]? = some x ∧ ys[i]? = some y ∧ zs[i]? = some z,
    fun i H v H' => ∃ T x y z, v = .ref T ∧ H T = none ∧ H' = upd H T (.tup [x, y, z]) ∧ (∀ l, SqL K H a l → l[i]? = some x) ∧ (∀ l, SqL K H b l → l[i]? = some y) ∧ ∀ l, SqL K H c l → l[i]? = some z,
    fun i H => ∃ xs ys zs : List V, (SqL K H a xs ∧ SqL K H b ys ∧ SqL K H c zs) ∧ (xs.length ≤ i ∨ ys.length ≤ i ∨ zs.length ≤ i)⟩
/-- the cells, from N on -/
theorem turn_zip3 {P : Program} {w : World} {K : PySem.W.Frag} {elts : List Expr} {kk : Nat} {tpos : Pos} {a b c z TI TO i1 i2 i3 : Addr} (D : ZipSep3 z TI TO i1 i2 i3 [i1, a] [i2, b] [i3, c]) (na : a ≠ i1) (nb : b ≠ i2) (nc : c ≠ i3) :
    Turn P w K (.Tuple elts kk tpos) (Itz3 K a b c) [z, TI, TO, i1, i2, i3] z (fun i h => IsZip h z TI TO .none ∧ IsTupOf3 h TI (.ref i1) (.ref i2) (.ref i3) ∧ (∃ x y u, IsTupOf3 h TO x y u) ∧ h.IsListIter i1 a i ∧ h.IsListIter i2 b i ∧ h.IsListIter i3 c i) where
  mem := List.mem_cons_self ..
  obj := fun i h st q hq => by
    obtain ⟨hz, hTI, ⟨x, y, u, hTO⟩, ⟨o1, e1, _, d1⟩, ⟨o2, e2, _, d2⟩, ⟨o3, e3, _, d3⟩⟩ := st
    have e' : q = z ∨ q = TI ∨ q = TO ∨ q = i1 ∨ q = i2 ∨ q = i3 := by simpa using hq
    rcases e' with r | r | r | r | r | r <;> rw [r]
    · exact ⟨_, hz, fun v q => nomatch q⟩
    · exact ⟨_, hTI, fun v q => nomatch q⟩
    · exact ⟨_, hTO, fun v q => nomatch q⟩
    · exact ⟨o1, e1, fun v q => by rw [d1] at q; cases q⟩
    · exact ⟨o2, e2, fun v q => by rw [d2] at q; cases q⟩
    · exact ⟨o3, e3, fun v q => by rw [d3] at q; cases q⟩
  keep := fun i h h' st k => by
    obtain ⟨hz, hTI, ⟨x, y, u, hTO⟩, h1, h2, h3⟩ := st
    exact ⟨k z (by simp) _ hz, k TI (by simp) _ hTI, ⟨x, y, u, k TO (by simp) _ hTO⟩, h1.at fun o q => k i1 (by simp) o q, h2.at fun o q => k i2 (by simp) o q, h3.at fun o q => k i3 (by simp) o q⟩
  item := by
    intro X hP hw hK hc i pins s σ H E I hf st hg
    subst hP hw hK
    obtain ⟨hz, hTI, ⟨x0, y0, u0, hTO⟩, h1, h2, h3⟩ := st
    obtain ⟨xs, ys, zs, x, y, v, ⟨hqx, hqy, hqz⟩, hx, hy, hv⟩ := hg
    obtain ⟨its, rv, p, _⟩ := I.list hqx
    obtain ⟨its2, rv2, p2, _⟩ := I.list hqy
    obtain ⟨its3, rv3, p3, _⟩ := I.list hqz
    obtain ⟨u, hu, ru⟩ := rv.get hx
    obtain ⟨u2, hu2, ru2⟩ := rv2.get hy
    obtain ⟨u3, hu3, ru3⟩ := rv3.get hv
    have hzl : z < s.heap.objs.size := Heap.lt_size hz
    have hh : X.A.in1.handled = none := I.ok.hd hc
    have l1 : i < its.toArray.size := by simpa using (List.getElem?_eq_some_iff.mp hu).1
    have l2 : i < its2.toArray.size := by simpa using (List.getElem?_eq_some_iff.mp hu2).1
    have l3 : i < its3.toArray.size := by simpa using (List.getElem?_eq_some_iff.mp hu3).1
    refine wpAny_pyNext_zipD3_item D (Draws.list hh i1 a na its.toArray) (Draws.list hh i2 b nb its2.toArray) (Draws.list hh i3 c nc its3.toArray) hz hTI hTO ⟨h1, p.isList⟩ ⟨h2, p2.isList⟩ ⟨h3, p3.isList⟩ l1 l2 l3
      fun x1 x2 x3 h' tk g1 g2 g3 z' TO' t1 t2 t3 hT hsz hk => ?_
    have e1 : x1 = u := by
      have : its[i]? = some x1 := by simpa using g1
      rw [hu] at this; exact (Option.some.inj this).symm
    have e2 : x2 = u2 := by
      have : its2[i]? = some x2 := by simpa using g2
      rw [hu2] at this; exact (Option.some.inj this).symm
    have e3 : x3 = u3 := by
      have : its3[i]? = some x3 := by simpa using g3
      rw [hu3] at this; exact (Option.some.inj this).symm
    subst e1 e2 e3
    refine ⟨_, rfl, wpAny_letOwnedTupleGo_zip (s := { s with heap := h', toks := tk }) z' fun h'' z'' sb => ?_⟩
    have hT2 : h''.get? s.heap.objs.size = some { cls := .type "tuple", data := .seq #[x1, x2, x3] } := (sb.2 _ (Nat.ne_of_gt hzl)).trans hT
    have new : ObjOk X.prog X.w (upd H s.heap.objs.size (.tup [x, y, v])) h'' s.heap.objs.size (.tup [x, y, v]) :=
      ⟨by show 3 ≤ sizeLine; decide, [x1, x2, x3], .cons ru (.cons ru2 (.cons ru3 .nil)), ⟨_, hT2, rfl, _, rfl⟩⟩
    have I1 : Inv X pins σ (upd H s.heap.objs.size (.tup [x, y, v])) { s with heap := h'', toks := tk } :=
      I.turnedNew (t' := tk) (ch := [z, TI, TO, i1, i2, i3]) (fun q o hb r => (sb.2 q (fun q' => hb (by simp [q']))).trans (hk q o (fun q' => hb (by simp [q'])) (fun q' => hb (by simp [q'])) (fun q' => hb (by simp [q'])) (fun q' => hb (by simp [q'])) (fun q' => hb (by simp [q'])) r)) hf (Nat.le_refl _) new
    refine ⟨.ref s.heap.objs.size, _, I1, rfl, ⟨_, x, y, v, rfl, I.hok.fresh (Nat.le_refl _), rfl, fun l hl => by rw [I.list_inj hl hqx]; exact hx, fun l hl => by rw [I.list_inj hl hqy]; exact hy, fun l hl => by rw [I.list_inj hl hqz]; exact hv⟩, ⟨z'', ?_, ⟨x1, x2, x3, ?_⟩, ?_, ?_, ?_⟩, fun q hq => ?_⟩
    · exact (sb.2 _ D.TIz).trans (hk _ _ D.TIz D.TITO D.TIi1 D.TIi2 D.TIi3 hTI)
    · exact (sb.2 _ D.TOz).trans TO'
    · exact t1.1.at fun o q => (sb.2 _ D.zi1.symm).trans q
    · exact t2.1.at fun o q => (sb.2 _ D.zi2.symm).trans q
    · exact t3.1.at fun o q => (sb.2 _ D.zi3.symm).trans q
    · have hlt : q < s.heap.objs.size := by
        have e' : q = z ∨ q = TI ∨ q = TO ∨ q = i1 ∨ q = i2 ∨ q = i3 := by simpa using hq
        rcases e' with r | r | r | r | r | r <;> rw [r]
        · exact hzl
        · exact Heap.lt_size hTI
        · exact Heap.lt_size hTO
        · obtain ⟨_, e1, _⟩ := h1; exact Heap.lt_size e1
        · obtain ⟨_, e2, _⟩ := h2; exact Heap.lt_size e2
        · obtain ⟨_, e3, _⟩ := h3; exact Heap.lt_size e3
      rw [upd_ne (Nat.ne_of_lt hlt)]
      exact (hf q hq).1
  done := by
    intro X hP hw hK hc i pins s σ H E I hf st hg
    subst hP hw hK
    obtain ⟨hz, hTI, ⟨x0, y0, u0, hTO⟩, h1, h2, h3⟩ := st
    obtain ⟨xs, ys, zs, ⟨hqx, hqy, hqz⟩, hend⟩ := hg
    obtain ⟨its, rv, p, _⟩ := I.list hqx
    obtain ⟨its2, rv2, p2, _⟩ := I.list hqy
    obtain ⟨its3, rv3, p3, _⟩ := I.list hqz
    have l1 := rv.length
    have l2 := rv2.length
    have l3 := rv3.length
    have hh : X.A.in1.handled = none := I.ok.hd hc
    obtain ⟨n1, P1, S1, D1, t1, m1, g1⟩ := drawsAt (prog := X.prog) (w := X.w) (A := X.A.in1) hh na h1 p.isList
    obtain ⟨n2, P2, S2, D2, t2, m2, g2⟩ := drawsAt (prog := X.prog) (w := X.w) (A := X.A.in1) hh nb h2 p2.isList
    obtain ⟨n3, P3, S3, D3, t3, m3, g3⟩ := drawsAt (prog := X.prog) (w := X.w) (A := X.A.in1) hh nc h3 p3.isList
    have he : i = n1 ∨ i = n2 ∨ i = n3 := by
      rcases hend with r | r | r
      · exact .inl (g1 (by simp; omega))
      · exact .inr (.inl (g2 (by simp; omega)))
      · exact .inr (.inr (g3 (by simp; omega)))
    exact wpAny_pyNext_zipD3_end D D1 D2 D3 hz hTI hTO t1 t2 t3 m1 m2 m3 he fun h' tk hk => ⟨rfl, I.turnedL (t' := tk) (ch := [z, TI, TO, i1, i2, i3]) (fun q o hb r =>
      hk q o (fun q' => hb (by simp [q'])) (fun q' => hb (by simp [q'])) (fun q' => hb (by simp [q'])) (fun q' => hb (by simp [q'])) (fun q' => hb (by simp [q'])) r) hf⟩
  self := fun A i s Q E st h => wpAny_pyIter_zip st.1 h
end L2
namespace L2
open PySem PySem.Spec
open PyProof.Rows hiding St
def iZip3 (K : PySem.W.Frag) (ta : TA) : TI := fun σ H R => ta σ H fun vs H1 => ∃ a b c xs ys zs, vs = [.ref a, .ref b, .ref c] ∧ SqL K H1 a xs ∧ SqL K H1 b ys ∧ SqL K H1 c zs ∧ R (Itz3 K a b c) H1
theorem pi_zip3 {X : Cx} {e e2 e3 : Expr} {ta : TA} {p pos tpos : Pos} {elts : List Expr} {kk : Nat} (hg : Gl X "zip") (hm : X.mg "zip" = none) (ha : PA X [e, e2, e3] ta)
    (hs : starEach [e, e2, e3] X.env = (false, eval e X.env) :: starEach [e2, e3] X.env := by rfl) (hpl : (backTo pos (starEach [e2, e3] X.env)).any (·.1) = false := by rfl) :
    PI X (.Tuple elts kk tpos) (.Call (.Name "zip" p) [e, e2, e3] [] pos) (iZip3 X.K ta) := by
  refine ⟨fun pins s σ H R I h => ?_⟩
  refine Call_ (ld_blt I hg hm PyProof.Rows.boot_zip (PyProof.Rows.callWith_type1 (thn (ha.run pos pins s σ H _ I h) fun us s1 ⟨vs, H1, I1, r1, q1⟩ => ?_) hs hpl))
  obtain ⟨a, b, c, xs, ys, zs, ex, hqx, hqy, hqz, q⟩ := q1
  subst ex
  cases r1 with
  | cons r rr =>
    cases rr with
    | cons r' rr =>
      cases rr with
      | cons r'' rr =>
        cases rr
        cases r
        cases r'
        cases r''
        obtain ⟨its, rv, p1, _⟩ := I1.list hqx
        obtain ⟨its2, rv2, p2, _⟩ := I1.list hqy
        obtain ⟨its3, rv3, p3, _⟩ := I1.list hqz
        have la : a < s1.heap.objs.size := p1.lt
        have lb : b < s1.heap.objs.size := p2.lt
        have lc : c < s1.heap.objs.size := p3.lt
        refine zip_begins3 (begins_list a its.toArray) (begins_list b its2.toArray) (begins_list c its3.toArray) p1.isList p2.isList p3.isList fun h' hz hTI hTO h1 h2 h3 hsz hk => wpAny_pyIter_zip hz ?_
        have I2 : Inv X pins σ H1 { s1 with heap := h' } := I1.kept (t' := s1.toks) hk
        have sep := zip_sep3 (N := s1.heap.objs.size) (fp1 := [a]) (fp2 := [b]) (fp3 := [c]) (by simpa using la) (by simpa using lb) (by simpa using lc)
        refine ⟨s1.heap.objs.size + 5, [s1.heap.objs.size + 5, s1.heap.objs.size + 3, s1.heap.objs.size + 4, s1.heap.objs.size, s1.heap.objs.size + 1, s1.heap.objs.size + 2], _, _, H1, rfl, I2,
          turn_zip3 sep (Nat.ne_of_lt la) (Nat.ne_of_lt (Nat.lt_succ_of_lt lb)) (Nat.ne_of_lt (Nat.lt_of_lt_of_le lc (Nat.le_add_right _ _))), ⟨hz, hTI, ⟨_, _, _, hTO⟩, ⟨_, h1, rfl, rfl⟩, ⟨_, h2, rfl, rfl⟩, ⟨_, h3, rfl, rfl⟩⟩, fun q hq => ?_, q⟩
        have hle : s1.heap.objs.size ≤ q := by
          have e' : q = s1.heap.objs.size + 5 ∨ q = s1.heap.objs.size + 3 ∨ q = s1.heap.objs.size + 4 ∨ q = s1.heap.objs.size ∨ q = s1.heap.objs.size + 1 ∨ q = s1.heap.objs.size + 2 := by simpa using hq
          rcases e' with z | z | z | z | z | z <;> rw [z] <;> first | exact Nat.le_refl _ | exact Nat.le_add_right _ _
        exact I1.fpOk hle (I1.hok.fresh hle)
end L2
namespace DL
open PySem PySem.Spec L2
open PyProof.Rows hiding St
section
variable {X : Cx} {L : List Nat} {e e2 e3 : Expr} {ua : TA} {tas : DTA}
/-- zip(xs, ys, zs) of lists -/
def zip3D : List D → List D → List D → List D
  | a :: as, b :: bs, c :: cs => .tuple [a, b, c] :: zip3D as bs cs
  | _, _, _ => []
theorem zip3D_at : ∀ {as bs cs : List D} {i : Nat} {d : D}, (zip3D as bs cs)[i]? = some d → ∃ a b c, as[i]? = some a ∧ bs[i]? = some b ∧ cs[i]? = some c ∧ d = .tuple [a, b, c]
  | [], _, _, _, _, h => by simp [zip3D] at h
  | _ :: _, [], _, _, _, h => by simp [zip3D] at h
  | _ :: _, _ :: _, [], _, _, h => by simp [zip3D] at h
  | a :: as, b :: bs, c :: cs, 0, d, h => by simp [zip3D] at h; exact ⟨a, b, c, rfl, rfl, rfl, h.symm⟩
  | a :: as, b :: bs, c :: cs, i + 1, d, h => by
    simp only [zip3D, List.getElem?_cons_succ] at h ⊢
    exact zip3D_at h
theorem zip3D_len : ∀ {as bs cs : List D}, (zip3D as bs cs).length = min (min as.length bs.length) cs.length
  | [], _, _ => by simp [zip3D]
  | _ :: _, [], _ => by simp [zip3D]
  | _ :: _, _ :: _, [] => by simp [zip3D]
  | a :: as, b :: bs, c :: cs => by simp only [zip3D, List.length_cons]; rw [zip3D_len]; omega
theorem zip3D_map {α : Type} {c : α → D} : ∀ {xs ys zs : List α}, zip3D (xs.map c) (ys.map c) (zs.map c) = (xs.zip (ys.zip zs)).map fun p => .tuple [c p.1, c p.2.1, c p.2.2]
  | [], _, _ => by simp [zip3D]
  | _ :: _, [], _ => by simp [zip3D]
  | _ :: _, _ :: _, [] => by simp [zip3D]
  | x :: xs, y :: ys, z :: zs => by simp [zip3D, zip3D_map (xs := xs) (ys := ys) (zs := zs)]
/-- its reading -/
def zp3K (ds : List D) (k : List D → Prop) : Prop := match ds with
  | [.list xs, .list ys, .list zs] => k (zip3D xs ys zs)
  | _ => False
theorem zp3K_l {xs ys zs : List D} {k : List D → Prop} : zp3K [.list xs, .list ys, .list zs] k = k (zip3D xs ys zs) := rfl
def iZp3 (ta : DTA) : DTI := fun ρ Q => ta ρ fun bs ρ1 => opt (allD bs) fun ds => zp3K ds fun d => Q d ρ1
theorem e_iZp3 {ta : DTA} {ρ : DEnv} {Q : List D → DEnv → Prop} : iZp3 ta ρ Q = ta ρ fun bs ρ1 => allK bs fun ds => zp3K ds fun d => Q d ρ1 := by
  unfold iZp3; simp only [opt_all]
theorem di_zip3 {p pos tpos : Pos} {elts : List Expr} {kk : Nat} (hg : Gl X "zip") (hm : X.mg "zip" = none) (ha : DA X L [e, e2, e3] ua tas) (hs : starEach [e, e2, e3] X.env = (false, eval e X.env) :: starEach [e2, e3] X.env := by rfl) (hpl : (backTo pos (starEach [e2, e3] X.env)).any (·.1) = false := by rfl) :
    DI X L (.Tuple elts kk tpos) (.Call (.Name "zip" p) [e, e2, e3] [] pos) (iZip3 X.K ua) (iZp3 tas) :=
  ⟨pi_zip3 hg hm ha.pe hs hpl, fun F ρ I own σ H Qd R fo Rl h k => ha.snd F ρ I own σ H _ _ fo Rl h fun bs ρ1 I1 own1 H1 vs R1 s1 r1 h1 => by
    obtain ⟨ds, ed, h1⟩ := opt_elim h1
    have rd := allD_rep r1 ed
    unfold zp3K at h1
    split at h1
    · rename_i xs ys zs
      cases rd with
      | cons rv rn =>
        cases rn with
        | cons rw' rn =>
          cases rn with
          | cons rx rn =>
            cases rn
            cases rv with
            | lst hp rp =>
              rename_i q ws
              cases rw' with
              | lst hp' rp' =>
                rename_i q' ws'
                cases rx with
                | lst hp'' rp'' =>
                  rename_i q'' ws''
                  refine ⟨q, q', q'', ws, ws', ws'', rfl, .of (R1.sub _ _ hp), .of (R1.sub _ _ hp'), .of (R1.sub _ _ hp''), k _ ρ1 I1 own1 H1 _ R1 s1 (fun i I' H' sI sH => ⟨fun d e => ?_, fun hl => ?_⟩) h1⟩
                  · obtain ⟨d1, d2, d3, e1, e2, e3, rfl⟩ := zip3D_at e
                    obtain ⟨u1, eu1, ru1⟩ := rp.get e1
                    obtain ⟨u2, eu2, ru2⟩ := rp'.get e2
                    obtain ⟨u3, eu3, ru3⟩ := rp''.get e3
                    refine ⟨⟨ws, ws', ws'', u1, u2, u3, ⟨.of (sH _ _ (sI _ _ hp)), .of (sH _ _ (sI _ _ hp')), .of (sH _ _ (sI _ _ hp''))⟩, eu1, eu2, eu3⟩, fun x H'' y => .inr ?_⟩
                    obtain ⟨T, y1, y2, y3, rfl, hT, rfl, hy1, hy2, hy3⟩ := y
                    have z1 := hy1 ws (.of (sH _ _ (sI _ _ hp)))
                    have z2 := hy2 ws' (.of (sH _ _ (sI _ _ hp')))
                    have z3 := hy3 ws'' (.of (sH _ _ (sI _ _ hp'')))
                    rw [eu1] at z1; cases z1
                    rw [eu2] at z2; cases z2
                    rw [eu3] at z3; cases z3
                    exact ⟨T, _, _, rfl, rfl, hT, rfl, .cons (ru1.mono sI) (.cons (ru2.mono sI) (.cons (ru3.mono sI) .nil))⟩
                  · rw [zip3D_len] at hl
                    refine ⟨ws, ws', ws'', ⟨.of (sH _ _ (sI _ _ hp)), .of (sH _ _ (sI _ _ hp')), .of (sH _ _ (sI _ _ hp''))⟩, ?_⟩
                    rw [rp.length, rp'.length, rp''.length]; omega
    · exact h1.elim⟩
theorem di_zip3K {K : PySem.W.Frag} (hK : X.K = K) {p pos tpos : Pos} {elts : List Expr} {kk : Nat} (hg : Gl X "zip") (hm : X.mg "zip" = none) (ha : DA X L [e, e2, e3] ua tas) (hs : starEach [e, e2, e3] X.env = (false, eval e X.env) :: starEach [e2, e3] X.env := by rfl) (hpl : (backTo pos (starEach [e2, e3] X.env)).any (·.1) = false := by rfl) :
    DI X L (.Tuple elts kk tpos) (.Call (.Name "zip" p) [e, e2, e3] [] pos) (iZip3 K ua) (iZp3 tas) := by subst hK; exact di_zip3 hg hm ha hs hpl
end
end DL

set_option Elab.async false
set_option linter.all false
set_option maxRecDepth 100000
namespace DL
open PySem PySem.Spec L2
open PyProof.Rows hiding St
section
variable {X : Cx} {L : List Nat} {a b c e : Expr} {es : List Expr} {u1 u2 u3 ue ua : TE} {t1 t2 t3 te : DTE} {ta : DTB} {pos : Pos} {us : TA} {ts : DTA}
/-- x, y = a, b where one of the names is a cell -/
theorem ds_parT (i j : Nat) {x y : Str} {px py pt : Pos} {kt k2 pt2} (hc : X.calm = true) (hN : X.N.Nodup) (h1 : DE X L a u1 t1) (h2 : DE X L b u2 t2) (hLi : i ∉ L := by decide) (hLj : j ∉ L := by decide) (hi : X.N[i]? = some x := by rfl) (hj : X.N[j]? = some y := by rfl)
    (hx : Loc X.env.scope x := by first | exact .inl rfl | exact .inr rfl) (hy : Loc X.env.scope y := by first | exact .inl rfl | exact .inr rfl) (hfx : X.fn x = true ∨ X.env.scope.names.lookup x = some .local := by first | exact .inl rfl | exact .inr rfl) (hfy : X.fn y = true ∨ X.env.scope.names.lookup y = some .local := by first | exact .inl rfl | exact .inr rfl)
    (hw : swappedStores [.Tuple [.Name x px, .Name y py] kt pt] (.Tuple [a, b] k2 pt2) X.env = pure none := by rfl)
    (hs : swapsWithSole [.Tuple [.Name x px, .Name y py] kt pt] (.Tuple [a, b] k2 pt2) pos.line X.env = pure false := by rfl) (hs1 : starEach [a, b] X.env = (false, eval a X.env) :: starEach [b] X.env := by rfl) (hs2 : starEach [b] X.env = (false, eval b X.env) :: starEach [] X.env := by rfl)
    (hA : (assignEach [.Tuple [.Name x px, .Name y py] kt pt] X.env).map (·.2) = [assign (.Tuple [.Name x px, .Name y py] kt pt) X.env] := by rfl) (hst : (assignEach [.Name x px, .Name y py] X.env).findIdx? (·.1) = none := by rfl) :
    DS X L (.Assign [.Tuple [.Name x px, .Name y py] kt pt] (.Tuple [a, b] k2 pt2) pos) (tAsg (tTup (tCons u1 (tCons u2 tNil))) (gTup X.K 2 (gCons (gName i) (gCons (gName j) gNil)))) (dPar i j t1 t2) :=
  ⟨ps_asg (pe_tup (pa_cons h1.pe (pa_cons h2.pe pa_nil hs2) hs1)) (pg_tup hc (pgs_cons (pg_name hN hi hx hfx) (pgs_cons (pg_name hN hj hy hfy) pgs_nil)) (by rfl) hst) hs hw hA,
   fun F ρ I own σ H D Dd fo R h k =>
  h1.snd F ρ I own σ H _ _ fo R h fun s ρ1 I1 own1 H1 v R1 s1 r1 q1 => h2.snd (F.re I1 H1 own1) ρ1 I1 own1 σ H1 _ _ (fo.re R1) R1.rebase q1 fun t ρ2 I2 own2 H2 w R2 s2 r2 q2 => by
    refine ⟨by show 2 ≤ sizeLine; decide, fun p hp => ⟨p, [v, w], rfl, .of upd_same, rfl, v, [w], rfl, w, [], rfl, rfl, ?_⟩⟩
    obtain ⟨S1, g1, v1⟩ := r1.stays fo R1 R2
    obtain ⟨S2, g2, v2⟩ := r2
    have RF := R1.unbase R2
    obtain ⟨own3, R3⟩ := RF.assign2 fo hLi hLj (fun a h => ⟨(g1 a h).1, (g1 a h).2.1, (g1 a h).2.2.1, (g1 a h).2.2.2.1⟩) v1 (fun a h => ⟨(g2 a h).1, (g2 a h).2.1, re_none R1 (g2 a h).2.2.1, (g2 a h).2.2.2⟩) v2 fun a h h' => (g1 a h).2.2.2.2 (g2 a h').2.2.1
    obtain ⟨R4, s4⟩ := R3.born (o := .tup [v, w]) hp
    exact k.nx _ _ own3 _ _ R4 ((s1.trans s2).trans s4) q2⟩
end
end DL

set_option Elab.async false
set_option linter.all false
set_option maxRecDepth 100000
set_option maxHeartbeats 2000000
namespace DL
open PySem PySem.Spec L2
open PyProof.Rows hiding St
mutual
/-- data -/
inductive AL : Nat → D → Prop
  | int (i : Int) : AL 1 (.int i)
  | bool (b : Bool) : AL 1 (.bool b)
  | str (s : Str) : AL 1 (.str s)
  | none : AL 1 .none
  | list {n : Nat} {ds : List D} : ALs n ds → AL (n + 1) (.list ds)
  | tuple {n : Nat} {ds : List D} : ALs n ds → AL (n + 1) (.tuple ds)
inductive ALs : Nat → List D → Prop
  | nil : ALs 0 []
  | cons {n m : Nat} {d : D} {ds : List D} : AL n d → ALs m ds → ALs (n + m) (d :: ds)
end
end DL
namespace DL
open PySem PySem.Spec L2
open PyProof.Rows hiding St
def BagL (L : List D) : Prop := ∃ (b0 b1 b2 : Int) (cs : List Int), L = [.int b0, .int b1, .int b2, .list (cs.map .int)] ∧ 0 ≤ b0 ∧ 0 ≤ b1 ∧ b1 < 2147483647 ∧ 0 ≤ b2 ∧ cs.length ≤ 63 ∧ ∀ c ∈ cs, 0 ≤ c
def p_law_take : PSpec := fun as Q => ∃ L m, as = [.lst L, .fz (.int m)] ∧ BagL L ∧ (0 < m ∧ m < 2 ^ 100) ∧ ∀ v L', BagL L' → 0 ≤ v → v < m → Q (.fz (.int v)) [.lst L', .fz (.int m)]
theorem q_law_take {L : List D} {m : Int} {Q : Slot → List Slot → Prop} : p_law_take [.lst L, .fz (.int m)] Q = (BagL L ∧ (0 < m ∧ m < 2 ^ 100) ∧ ∀ v L', BagL L' → 0 ≤ v → v < m → Q (.fz (.int v)) [.lst L', .fz (.int m)]) :=
  propext ⟨fun ⟨_, _, e, h⟩ => by cases e; exact h, fun h => ⟨_, _, rfl, h⟩⟩
def p_law_some : PSpec := fun as Q => ∃ L xs, as = [.lst L, .fz (.list xs)] ∧ BagL L ∧ (0 < xs.length ∧ xs.length ≤ 16777216) ∧ ∀ x ∈ xs, ∀ L', BagL L' → Q (.fz x) [.lst L', .fz (.list xs)]
theorem q_law_some {L xs : List D} {Q : Slot → List Slot → Prop} : p_law_some [.lst L, .fz (.list xs)] Q = (BagL L ∧ (0 < xs.length ∧ xs.length ≤ 16777216) ∧ ∀ x ∈ xs, ∀ L', BagL L' → Q (.fz x) [.lst L', .fz (.list xs)]) :=
  propext ⟨fun ⟨_, _, e, h⟩ => by cases e; exact h, fun h => ⟨_, _, rfl, h⟩⟩
theorem cutD_map {α β : Type} (f : α → β) (xs : List α) (lo hi : Option Int) : cutD (xs.map f) lo hi = (cutD xs lo hi).map f := by
  unfold cutD; simp [List.map_take, List.map_drop]
theorem cutD_sub {α : Type} {xs : List α} {lo hi : Option Int} {x : α} (h : x ∈ cutD xs lo hi) : x ∈ xs := List.mem_of_mem_drop (List.mem_of_mem_take h)
theorem cutD_len {α : Type} (xs : List α) (lo hi : Option Int) : (cutD xs lo hi).length ≤ xs.length := by
  unfold cutD; rw [List.length_take, List.length_drop]; omega
/-- a cell off the script's rest, 0 behind it -/
theorem take_head {cs : List Int} (hc : ∀ c ∈ cs, 0 ≤ c) (lo hi : Option Int) : ∃ (n : Int) (r : List D), 0 ≤ n ∧ cutD (cs.map PyData.int) lo hi ++ [PyData.int 0] = .int n :: r := by
  rw [cutD_map]
  cases e : cutD cs lo hi with
  | nil => exact ⟨0, [], Int.le_refl _, rfl⟩
  | cons a l => exact ⟨a, l.map .int ++ [.int 0], hc a (cutD_sub (by rw [e]; exact List.mem_cons_self)), rfl⟩
theorem atK_int {ds : List D} {i : Int} {k : D → Prop} (h1 : 0 ≤ i) (h2 : i < ds.length) (h : ∀ x ∈ ds, k x) : atK ds i k := by
  have h3 : i.toNat < ds.length := by omega
  have e : atI ds i = some ds[i.toNat] := by
    unfold atI ixN
    rw [if_pos h1, if_pos h2]
    exact List.getElem?_eq_getElem h3
  unfold atK
  rw [e]
  exact h _ (List.getElem_mem h3)
def kindF : D → Int
  | .bool _ => 0
  | .int _ => 1
  | .str _ => 2
  | .tuple _ => 3
  | .list _ => 4
  | .dict _ => 5
  | .none => -1
def p_law_kind : PSpec := fun as Q => ∃ d, as = [.fz d] ∧ Q (.fz (.int (kindF d))) as
theorem q_law_kind {d : D} {Q : Slot → List Slot → Prop} : p_law_kind [.fz d] Q = Q (.fz (.int (kindF d))) [.fz d] :=
  propext ⟨fun ⟨_, e, h⟩ => by cases e; exact h, fun h => ⟨_, rfl, h⟩⟩
def p_law_alike : PSpec := fun as Q => ∃ d n, as = [.fz d, .fz d] ∧ AL n d ∧ n ≤ 1000000 ∧ Q (.fz (.bool true)) as
theorem q_law_alike2 {d d' : D} {n : Nat} {Q : Slot → List Slot → Prop} (e : d = d') (h1 : AL n d') (h2 : n ≤ 1000000) (h : Q (.fz (.bool true)) [.fz d', .fz d']) : p_law_alike [.fz d, .fz d'] Q := by
  subst e
  exact ⟨_, _, rfl, h1, h2, h⟩
theorem q_law_alike {d d' : D} {n : Nat} {Q : Slot → List Slot → Prop} (e : d' = d) (h1 : AL n d) (h2 : n ≤ 1000000) (h : Q (.fz (.bool true)) [.fz d, .fz d]) : p_law_alike [.fz d, .fz d'] Q := by
  subst e
  exact ⟨_, _, rfl, h1, h2, h⟩
end DL
namespace DL
open PySem PySem.Spec L2
open PyProof.Rows hiding St
def twin (x : D) : D := .tuple [x, x]
theorem zipD_self : ∀ ds : List D, zipD ds ds = ds.map twin
  | [] => rfl
  | x :: xs => by simp [zipD, zipD_self xs, twin]
theorem atK_app {pre r : List D} {x : D} {k : D → Prop} : atK (pre ++ x :: r) (pre.length : Int) k = k x := by
  have e : atI (pre ++ x :: r) (pre.length : Int) = some x := by
    unfold atI ixN
    rw [if_pos (by omega), if_pos (by simp; omega)]
    simp
  unfold atK; rw [e]; rfl
theorem atK_twin {pre r : List D} {x : D} {k : D → Prop} : atK (pre ++ twin x :: r) (pre.length : Int) k = k (.tuple [x, x]) := atK_app
theorem env_s1 {pre r : List D} {x d : D} {s4 s5 : Slot} : ([.fz d, .fz d, .lst (pre ++ twin x :: r.map twin), .fz (.int (pre.length + 1)), s4, s5, .un] : DEnv) = [.fz d, .fz d, .lst ((pre ++ [twin x]) ++ r.map twin), .fz (.int ((pre ++ [twin x]).length : Nat)), s4, s5, .un] := by simp
theorem env_s2 {pre r es : List D} {x d : D} {s4 s5 : Slot} : ([.fz d, .fz d, .lst (pre ++ twin x :: r.map twin ++ es.map twin), .fz (.int (pre.length + 1)), s4, s5, .un] : DEnv) = [.fz d, .fz d, .lst ((pre ++ [twin x]) ++ (r ++ es).map twin), .fz (.int ((pre ++ [twin x]).length : Nat)), s4, s5, .un] := by simp
theorem AL.pos {n : Nat} {d : D} : AL n d → 1 ≤ n
  | .int _ | .bool _ | .str _ | .none => Nat.le_refl _
  | .list _ | .tuple _ => Nat.le_add_left _ _
theorem ALs.len : ∀ {n : Nat} {ds : List D}, ALs n ds → ds.length ≤ n
  | _, _, .nil => Nat.le_refl _
  | _, _, .cons h t => by
    have := h.pos
    have := t.len
    simp only [List.length_cons]; omega
theorem ALs.app : ∀ {n m : Nat} {ds es : List D}, ALs n ds → ALs m es → ALs (n + m) (ds ++ es)
  | _, _, _, _, .nil, h => by simpa using h
  | _, _, _, _, .cons (n := a) (m := b) h t, h2 => by
    have := ALs.cons h (t.app h2)
    rw [← Nat.add_assoc] at this
    exact this
end DL

set_option Elab.async false
set_option linter.all false
set_option maxRecDepth 100000
namespace DL
open PySem PySem.Spec L2
open PyProof.Rows hiding St
def rowsF (m w : Int) : Int := if (m + w - 1) / w > 1 then (m + w - 1) / w else 1
def spillF (ns : List Int) (w : Int) : Int := (ns.map fun n => rowsF n w - 1).sum
def freeF (n w : Int) : Int := w * rowsF n w - n
def needF (n w : Int) : Int := w * rowsF n w + 1 - n
def rawAt (w : Int) (k : Nat) (ns : List Int) : List (Int × Int) := (ns.zipIdx k).filterMap fun p => if 0 < p.1 then some (needF p.1 w, (p.2 : Int)) else none
theorem rawAt_snoc (w : Int) (k : Nat) (ns : List Int) (n : Int) : rawAt w k (ns ++ [n]) = rawAt w k ns ++ if 0 < n then [(needF n w, ((k + ns.length : Nat) : Int))] else [] := by
  unfold rawAt
  rw [List.zipIdx_append, List.filterMap_append]
  congr 1
  by_cases h : 0 < n <;> simp [h, Nat.add_comm]
def needsF (ns : List Int) (w : Int) : List (Int × Int) := srtP (rawAt w 0 ns)
def gStep (s : List Int × Int) (p : Int × Int) : List Int × Int := if p.1 ≤ s.2 then (s.1.set p.2.toNat p.1, s.2 - p.1) else s
def greedyF (ps : List (Int × Int)) (put : List Int) (more : Int) : List Int × Int := ps.foldl gStep (put, more)
def restF (ps : List (Int × Int)) : Int := match ps with
  | [] => 0
  | p :: _ => p.2
def addAt (put : List Int) (i : Int) (v : Int) : List Int := put.set i.toNat (put.getD i.toNat 0 + v)
def gPut (ns : List Int) (w more : Int) : List Int := addAt (greedyF (needsF ns w) (List.replicate ns.length 0) more).1 (restF (needsF ns w)) (greedyF (needsF ns w) (List.replicate ns.length 0) more).2
def lStep (w : Int) (s : List Int × Int) (n : Int) : List Int × Int := (s.1 ++ [if freeF n w < s.2 then freeF n w else s.2], s.2 - if freeF n w < s.2 then freeF n w else s.2)
def lPut (ns : List Int) (w more : Int) : List Int := addAt (ns.foldl (lStep w) ([], more)).1 0 (ns.foldl (lStep w) ([], more)).2
def behindF (ns : List Int) (w : Int) (put : List Int) : Int := spillF ((ns.zip put).map fun p => p.1 + p.2) w
theorem gStep_len (s : List Int × Int) (p : Int × Int) : (gStep s p).1.length = s.1.length := by unfold gStep; split <;> simp
theorem greedy_len (ps : List (Int × Int)) : ∀ s : List Int × Int, (ps.foldl gStep s).1.length = s.1.length := by
  induction ps with
  | nil => intro s; rfl
  | cons p ps ih => intro s; rw [List.foldl_cons, ih, gStep_len]
theorem lStep_len (w : Int) (ns : List Int) : ∀ s : List Int × Int, (ns.foldl (lStep w) s).1.length = s.1.length + ns.length := by
  induction ns with
  | nil => intro s; rfl
  | cons p ps ih => intro s; rw [List.foldl_cons, ih]; simp [lStep]; omega
theorem rawAt_room {w : Int} {k : Nat} {ns : List Int} {p : Int × Int} (h : p ∈ rawAt w k ns) : ∃ i : Nat, p.2 = i ∧ i < k + ns.length := by
  unfold rawAt at h
  obtain ⟨⟨n, i⟩, h1, h2⟩ := List.mem_filterMap.mp h
  have := List.snd_lt_of_mem_zipIdx h1
  dsimp only at h2 this
  split at h2
  · cases h2; exact ⟨i, rfl, by omega⟩
  · cases h2
theorem rawAt_len {w : Int} {k : Nat} {ns : List Int} : (rawAt w k ns).length ≤ ns.length := by
  unfold rawAt
  exact Nat.le_trans (List.length_filterMap_le _ _) (by simp)
theorem needs_room {w : Int} {ns : List Int} {p : Int × Int} (h : p ∈ needsF ns w) : 0 ≤ p.2 ∧ p.2 < ns.length := by
  obtain ⟨i, e, hi⟩ := rawAt_room ((srtP_perm _).mem_iff.mp h)
  omega
theorem needs_len {w : Int} {ns : List Int} : (needsF ns w).length ≤ ns.length := by
  unfold needsF; rw [(srtP_perm _).length_eq]; exact rawAt_len
def isPutF (r : Nat) (more : Int) (ps : List Int) : Bool := decide (ps.length = r) && (ps.all fun p => decide (0 ≤ p)) && decide (ps.sum = more)
def fewF (ns : List Int) (w limit : Int) : Int :=
  let gap := if limit - spillF ns w > 0 then limit - spillF ns w else 0
  let needs := (needsF ns w).map (·.1)
  if gap = 0 then 0 else if needs = [] then gap * w + 1 else (needs.take gap.toNat).sum + w * (if gap - needs.length > 0 then gap - needs.length else 0)
def mostF (ns : List Int) (w limit : Int) : D := if limit - spillF ns w < 0 then .none else .int ((limit - spillF ns w) * w + (ns.map fun n => freeF n w).sum)
end DL
namespace DL
open PySem PySem.Spec L2
open PyProof.Rows hiding St
def Wd (w : Int) : Prop := 0 < w ∧ w ≤ 8
def p_is_whole : PSpec := fun as Q => ∃ i : Int, as = [.fz (.int i)] ∧ Q (.fz (.bool true)) as
theorem q_is_whole {m : Int} {Q : Slot → List Slot → Prop} : p_is_whole [.fz (.int m)] Q = Q (.fz (.bool true)) [.fz (.int m)] :=
  propext ⟨fun ⟨_, e, h⟩ => by cases e; exact h, fun h => ⟨_, rfl, h⟩⟩
def p_rows_for : PSpec := fun as Q => ∃ m w : Int, as = [.fz (.int m), .fz (.int w)] ∧ Wd w ∧ Q (.fz (.int (rowsF m w))) as
theorem q_rows_for {m w : Int} {Q : Slot → List Slot → Prop} : p_rows_for [.fz (.int m), .fz (.int w)] Q = (Wd w ∧ Q (.fz (.int (rowsF m w))) [.fz (.int m), .fz (.int w)]) :=
  propext ⟨fun ⟨_, _, e, h⟩ => by cases e; exact h, fun h => ⟨_, _, rfl, h⟩⟩
def p_free_of : PSpec := fun as Q => ∃ m w : Int, as = [.fz (.int m), .fz (.int w)] ∧ Wd w ∧ Q (.fz (.int (freeF m w))) as
theorem q_free_of {m w : Int} {Q : Slot → List Slot → Prop} : p_free_of [.fz (.int m), .fz (.int w)] Q = (Wd w ∧ Q (.fz (.int (freeF m w))) [.fz (.int m), .fz (.int w)]) :=
  propext ⟨fun ⟨_, _, e, h⟩ => by cases e; exact h, fun h => ⟨_, _, rfl, h⟩⟩
/-- lists of at most a million -/
def Ln {α : Type} (ns : List α) : Prop := ns.length ≤ 1000000
def p_spill : PSpec := fun as Q => ∃ (ns : List Int) (w : Int), as = [.fz (.list (ns.map .int)), .fz (.int w)] ∧ Wd w ∧ Ln ns ∧ Q (.fz (.int (spillF ns w))) as
theorem q_spill {ns : List Int} {w : Int} {Q : Slot → List Slot → Prop} : p_spill [.fz (.list (ns.map .int)), .fz (.int w)] Q = (Wd w ∧ Ln ns ∧ Q (.fz (.int (spillF ns w))) [.fz (.list (ns.map .int)), .fz (.int w)]) :=
  propext ⟨fun ⟨_, _, e, h⟩ => by simp only [List.cons.injEq, Slot.fz.injEq, PyData.list.injEq, intsInj, PyData.int.injEq, and_true] at e; obtain ⟨rfl, rfl⟩ := e; exact h, fun h => ⟨_, _, rfl, h⟩⟩
def p_longest : PSpec := fun as Q => ∃ (ns : List Int) (w : Int), as = [.fz (.list (ns.map .int)), .fz (.int w)] ∧ Wd w ∧ Ln ns ∧ ns ≠ [] ∧ ∀ m, m ∈ ns.map (rowsF · w) → (∀ n ∈ ns, rowsF n w ≤ m) → Q (.fz (.tuple [.int m, .int ((ns.map (rowsF · w)).idxOf m : Nat)])) as
theorem q_longest {ns : List Int} {w : Int} {Q : Slot → List Slot → Prop} : p_longest [.fz (.list (ns.map .int)), .fz (.int w)] Q = (Wd w ∧ Ln ns ∧ ns ≠ [] ∧ ∀ m, m ∈ ns.map (rowsF · w) → (∀ n ∈ ns, rowsF n w ≤ m) → Q (.fz (.tuple [.int m, .int ((ns.map (rowsF · w)).idxOf m : Nat)])) [.fz (.list (ns.map .int)), .fz (.int w)]) :=
  propext ⟨fun ⟨_, _, e, h⟩ => by simp only [List.cons.injEq, Slot.fz.injEq, PyData.list.injEq, intsInj, PyData.int.injEq, and_true] at e; obtain ⟨rfl, rfl⟩ := e; exact h, fun h => ⟨_, _, rfl, h⟩⟩
def p_needs_of : PSpec := fun as Q => ∃ (ns : List Int) (w : Int), as = [.fz (.list (ns.map .int)), .fz (.int w)] ∧ Wd w ∧ Ln ns ∧ Q (.lst ((needsF ns w).map pD)) as
theorem q_needs_of {ns : List Int} {w : Int} {Q : Slot → List Slot → Prop} : p_needs_of [.fz (.list (ns.map .int)), .fz (.int w)] Q = (Wd w ∧ Ln ns ∧ Q (.lst ((needsF ns w).map pD)) [.fz (.list (ns.map .int)), .fz (.int w)]) :=
  propext ⟨fun ⟨_, _, e, h⟩ => by simp only [List.cons.injEq, Slot.fz.injEq, PyData.list.injEq, intsInj, PyData.int.injEq, and_true] at e; obtain ⟨rfl, rfl⟩ := e; exact h, fun h => ⟨_, _, rfl, h⟩⟩
def p_spill_behind : PSpec := fun as Q => ∃ (ns : List Int) (w : Int) (ps : List Int), as = [.fz (.list (ns.map .int)), .fz (.int w), .fz (.list (ps.map .int))] ∧ Wd w ∧ Ln ns ∧ Q (.fz (.int (behindF ns w ps))) as
theorem q_spill_behind {ns ps : List Int} {w : Int} {Q : Slot → List Slot → Prop} : p_spill_behind [.fz (.list (ns.map .int)), .fz (.int w), .fz (.list (ps.map .int))] Q = (Wd w ∧ Ln ns ∧ Q (.fz (.int (behindF ns w ps))) [.fz (.list (ns.map .int)), .fz (.int w), .fz (.list (ps.map .int))]) :=
  propext ⟨fun ⟨_, _, _, e, h⟩ => by simp only [List.cons.injEq, Slot.fz.injEq, PyData.list.injEq, intsInj, PyData.int.injEq, and_true] at e; obtain ⟨rfl, rfl, rfl⟩ := e; exact h, fun h => ⟨_, _, _, rfl, h⟩⟩
def spPut (F : List Int → Int → Int → List Int) : PSpec := fun as Q => ∃ (ns : List Int) (w more : Int), as = [.fz (.list (ns.map .int)), .fz (.int w), .fz (.int more)] ∧ Wd w ∧ Ln ns ∧ ns ≠ [] ∧ Q (.fz (.tuple [.int (behindF ns w (F ns w more)), .list ((F ns w more).map .int)])) as
theorem q_put {F : List Int → Int → Int → List Int} {ns : List Int} {w more : Int} {Q : Slot → List Slot → Prop} : spPut F [.fz (.list (ns.map .int)), .fz (.int w), .fz (.int more)] Q = (Wd w ∧ Ln ns ∧ ns ≠ [] ∧ Q (.fz (.tuple [.int (behindF ns w (F ns w more)), .list ((F ns w more).map .int)])) [.fz (.list (ns.map .int)), .fz (.int w), .fz (.int more)]) :=
  propext ⟨fun ⟨_, _, _, e, h⟩ => by simp only [List.cons.injEq, Slot.fz.injEq, PyData.list.injEq, intsInj, PyData.int.injEq, and_true] at e; obtain ⟨rfl, rfl, rfl⟩ := e; exact h, fun h => ⟨_, _, _, rfl, h⟩⟩
abbrev p_greatest_spill : PSpec := spPut gPut
abbrev p_least_spill : PSpec := spPut lPut
/-- a thing that is asked after: a list of whole numbers, or no list -/
inductive PutArg : D → Prop
  | nums (ps : List Int) : Ln ps → PutArg (.list (ps.map .int))
  | tup (ds : List D) : PutArg (.tuple ds)
  | none : PutArg .none
def intsD : D → Option (List Int)
  | .list ds => intsOf ds
  | _ => Option.none
theorem intsD_l {ps : List Int} : intsD (.list (ps.map .int)) = some ps := intsOf_map ps
def isPutD (r : Nat) (more : Int) (d : D) : Bool := match intsD d with
  | some ps => isPutF r more ps
  | none => false
def p_is_put : PSpec := fun as Q => ∃ (ns : List Int) (more : Int) (d : D), as = [.fz (.list (ns.map .int)), .fz (.int more), .fz d] ∧ PutArg d ∧ Q (.fz (.bool (isPutD ns.length more d))) as
theorem q_is_put {ns : List Int} {more : Int} {d : D} {Q : Slot → List Slot → Prop} : p_is_put [.fz (.list (ns.map .int)), .fz (.int more), .fz d] Q = (PutArg d ∧ Q (.fz (.bool (isPutD ns.length more d))) [.fz (.list (ns.map .int)), .fz (.int more), .fz d]) :=
  propext ⟨fun ⟨_, _, _, e, h⟩ => by simp only [List.cons.injEq, Slot.fz.injEq, PyData.list.injEq, intsInj, PyData.int.injEq, and_true] at e; obtain ⟨rfl, rfl, rfl⟩ := e; exact h, fun h => ⟨_, _, _, rfl, h⟩⟩
def isBestD (F : List Int → Int → Int → List Int) (ns : List Int) (w more : Int) (d : D) : Bool := match intsD d with
  | some ps => isPutF ns.length more ps && decide (behindF ns w ps = behindF ns w (F ns w more))
  | none => false
def spBest (F : List Int → Int → Int → List Int) : PSpec := fun as Q => ∃ (ns : List Int) (w more : Int) (d : D), as = [.fz (.list (ns.map .int)), .fz (.int w), .fz (.int more), .fz d] ∧ Wd w ∧ Ln ns ∧ ns ≠ [] ∧ PutArg d ∧ Q (.fz (.bool (isBestD F ns w more d))) as
theorem q_best {F : List Int → Int → Int → List Int} {ns : List Int} {w more : Int} {d : D} {Q : Slot → List Slot → Prop} : spBest F [.fz (.list (ns.map .int)), .fz (.int w), .fz (.int more), .fz d] Q = (Wd w ∧ Ln ns ∧ ns ≠ [] ∧ PutArg d ∧ Q (.fz (.bool (isBestD F ns w more d))) [.fz (.list (ns.map .int)), .fz (.int w), .fz (.int more), .fz d]) :=
  propext ⟨fun ⟨_, _, _, _, e, h⟩ => by simp only [List.cons.injEq, Slot.fz.injEq, PyData.list.injEq, intsInj, PyData.int.injEq, and_true] at e; obtain ⟨rfl, rfl, rfl, rfl⟩ := e; exact h, fun h => ⟨_, _, _, _, rfl, h⟩⟩
abbrev p_is_greatest : PSpec := spBest gPut
abbrev p_is_least : PSpec := spBest lPut
def p_fewest_for : PSpec := fun as Q => ∃ (ns : List Int) (w l : Int), as = [.fz (.list (ns.map .int)), .fz (.int w), .fz (.int l)] ∧ Wd w ∧ Ln ns ∧ Q (.fz (.int (fewF ns w l))) as
theorem q_fewest_for {ns : List Int} {w l : Int} {Q : Slot → List Slot → Prop} : p_fewest_for [.fz (.list (ns.map .int)), .fz (.int w), .fz (.int l)] Q = (Wd w ∧ Ln ns ∧ Q (.fz (.int (fewF ns w l))) [.fz (.list (ns.map .int)), .fz (.int w), .fz (.int l)]) :=
  propext ⟨fun ⟨_, _, _, e, h⟩ => by simp only [List.cons.injEq, Slot.fz.injEq, PyData.list.injEq, intsInj, PyData.int.injEq, and_true] at e; obtain ⟨rfl, rfl, rfl⟩ := e; exact h, fun h => ⟨_, _, _, rfl, h⟩⟩
def p_most_for : PSpec := fun as Q => ∃ (ns : List Int) (w l : Int), as = [.fz (.list (ns.map .int)), .fz (.int w), .fz (.int l)] ∧ Wd w ∧ Ln ns ∧ Q (.fz (mostF ns w l)) as
theorem q_most_for {ns : List Int} {w l : Int} {Q : Slot → List Slot → Prop} : p_most_for [.fz (.list (ns.map .int)), .fz (.int w), .fz (.int l)] Q = (Wd w ∧ Ln ns ∧ Q (.fz (mostF ns w l)) [.fz (.list (ns.map .int)), .fz (.int w), .fz (.int l)]) :=
  propext ⟨fun ⟨_, _, _, e, h⟩ => by simp only [List.cons.injEq, Slot.fz.injEq, PyData.list.injEq, intsInj, PyData.int.injEq, and_true] at e; obtain ⟨rfl, rfl, rfl⟩ := e; exact h, fun h => ⟨_, _, _, rfl, h⟩⟩
theorem Wd.div {w : Int} (h : Wd w) : divOk w := ⟨h.1, by have := h.2; omega⟩
theorem Wd.mul {w x : Int} (h : Wd w) : mulOk w x := mulOk_l (by have := h.1; omega) (by have := h.2; omega)
theorem Wd.mul' {w x : Int} (h : Wd w) : mulOk x w := mulOk_r (by have := h.1; omega) (by have := h.2; omega)
theorem isPutD_l {r : Nat} {more : Int} {ps : List Int} : isPutD r more (.list (ps.map .int)) = isPutF r more ps := by unfold isPutD; rw [intsD_l]
theorem isBestD_l {F : List Int → Int → Int → List Int} {ns ps : List Int} {w more : Int} : isBestD F ns w more (.list (ps.map .int)) = (isPutF ns.length more ps && decide (behindF ns w ps = behindF ns w (F ns w more))) := by unfold isBestD; rw [intsD_l]
theorem repOk_nat {n : Nat} (h : n ≤ 1000000) : repOk (0 + 1) (n : Int) := ⟨by omega, by omega, by rw [sizeLine_eq]; simp; omega⟩
theorem Ln.sz {α : Type} {ns : List α} (h : Ln ns) : ns.length ≤ sizeLine := by unfold Ln at h; rw [sizeLine_eq]; omega
end DL
namespace DL
open PySem PySem.Spec L2
theorem cutD_take {α : Type} {xs : List α} {g : Int} (h : 0 ≤ g) : cutD xs none (some g) = xs.take g.toNat := by
  unfold cutD
  have e : HT.sIx xs.length 0 none = 0 := rfl
  have e2 : HT.sIx xs.length xs.length (some g) = min g.toNat xs.length := by
    show (if g < 0 then _ else _) = _
    rw [if_neg (by omega)]
  rw [e, e2, List.drop_zero, Nat.sub_zero]
  by_cases hl : g.toNat ≤ xs.length
  · rw [Nat.min_eq_left hl]
  · rw [Nat.min_eq_right (by omega), List.take_length, List.take_of_length_le (by omega)]
end DL
namespace DL
open PySem PySem.Spec L2
open PyProof.Rows hiding St
theorem q_is_put_t {ns : List Int} {more : Int} {ds : List D} {Q : Slot → List Slot → Prop} : p_is_put [.fz (.list (ns.map .int)), .fz (.int more), .fz (.tuple ds)] Q = Q (.fz (.bool false)) [.fz (.list (ns.map .int)), .fz (.int more), .fz (.tuple ds)] := by
  rw [q_is_put]; exact propext ⟨fun h => h.2, fun h => ⟨.tup ds, h⟩⟩
theorem q_is_put_n {ns : List Int} {more : Int} {Q : Slot → List Slot → Prop} : p_is_put [.fz (.list (ns.map .int)), .fz (.int more), .fz .none] Q = Q (.fz (.bool false)) [.fz (.list (ns.map .int)), .fz (.int more), .fz .none] := by
  rw [q_is_put]; exact propext ⟨fun h => h.2, fun h => ⟨.none, h⟩⟩
theorem PutArg.of {d : D} (h : PutArg d) : ∀ ps : List Int, d = .list (ps.map .int) → Ln ps := by
  cases h with
  | nums qs hq => intro ps e; rw [← intsInj.mp (PyData.list.inj e)]; exact hq
  | tup _ => intro ps e; cases e
  | none => intro ps e; cases e
theorem PutArg.len {ps : List Int} (h : PutArg (.list (ps.map .int))) : Ln ps := h.of ps rfl
theorem q_is_put_l {ns ps : List Int} {more : Int} {Q : Slot → List Slot → Prop} : p_is_put [.fz (.list (ns.map .int)), .fz (.int more), .fz (.list (ps.map .int))] Q = (Ln ps ∧ Q (.fz (.bool (isPutF ns.length more ps))) [.fz (.list (ns.map .int)), .fz (.int more), .fz (.list (ps.map .int))]) := by
  rw [q_is_put, isPutD_l]; exact propext ⟨fun h => ⟨h.1.len, h.2⟩, fun h => ⟨.nums ps h.1, h.2⟩⟩
theorem q_best_t {F : List Int → Int → Int → List Int} {ns : List Int} {w more : Int} {ds : List D} {Q : Slot → List Slot → Prop} : spBest F [.fz (.list (ns.map .int)), .fz (.int w), .fz (.int more), .fz (.tuple ds)] Q = (Wd w ∧ Ln ns ∧ ns ≠ [] ∧ Q (.fz (.bool false)) [.fz (.list (ns.map .int)), .fz (.int w), .fz (.int more), .fz (.tuple ds)]) := by
  rw [q_best]; exact propext ⟨fun h => ⟨h.1, h.2.1, h.2.2.1, h.2.2.2.2⟩, fun h => ⟨h.1, h.2.1, h.2.2.1, .tup ds, h.2.2.2⟩⟩
theorem q_best_n {F : List Int → Int → Int → List Int} {ns : List Int} {w more : Int} {Q : Slot → List Slot → Prop} : spBest F [.fz (.list (ns.map .int)), .fz (.int w), .fz (.int more), .fz .none] Q = (Wd w ∧ Ln ns ∧ ns ≠ [] ∧ Q (.fz (.bool false)) [.fz (.list (ns.map .int)), .fz (.int w), .fz (.int more), .fz .none]) := by
  rw [q_best]; exact propext ⟨fun h => ⟨h.1, h.2.1, h.2.2.1, h.2.2.2.2⟩, fun h => ⟨h.1, h.2.1, h.2.2.1, .none, h.2.2.2⟩⟩
theorem q_best_l {F : List Int → Int → Int → List Int} {ns ps : List Int} {w more : Int} {Q : Slot → List Slot → Prop} : spBest F [.fz (.list (ns.map .int)), .fz (.int w), .fz (.int more), .fz (.list (ps.map .int))] Q = (Wd w ∧ Ln ns ∧ ns ≠ [] ∧ Ln ps ∧ Q (.fz (.bool (isPutF ns.length more ps && decide (behindF ns w ps = behindF ns w (F ns w more))))) [.fz (.list (ns.map .int)), .fz (.int w), .fz (.int more), .fz (.list (ps.map .int))]) := by
  rw [q_best, isBestD_l]; exact propext ⟨fun h => ⟨h.1, h.2.1, h.2.2.1, h.2.2.2.1.len, h.2.2.2.2⟩, fun h => ⟨h.1, h.2.1, h.2.2.1, .nums ps h.2.2.2.1, h.2.2.2.2⟩⟩
end DL

set_option Elab.async false
set_option linter.all false
set_option maxRecDepth 100000
namespace DL
open PySem PySem.Spec L2
open PyProof.Rows hiding St
def KList (K : PySem.W.Frag) (a : Addr) (xs : List V) : Prop := ∃ (o : Obj) (its : Array Value) (n : Nat), K.lookup a = some o ∧ o.cls = .type "list" ∧ o.dict = none ∧ o.data = .seq its n ∧ its.size ≤ sizeLine ∧ Vals xs its.toList
/-- the script: a list of whole numbers, tracked or of the module -/
def scr (K : PySem.W.Frag) (ns : List Int) : TP where
  holds := fun S I H v => ∃ a, v = .ref a ∧ ((S a ∧ Rd H a (.lst (ns.map V.int))) ∨ KList K a (ns.map V.int))
  frame := fun S S' I I' H H' v hS hI hH ⟨a, e, h⟩ => ⟨a, e, h.imp (fun ⟨s, r⟩ => ⟨hS a s, by
    have := hH a s
    unfold Rd at r ⊢
    rw [this]; exact r⟩) id⟩
theorem scr_sq {K : PySem.W.Frag} {ns : List Int} {S : Addr → Prop} {I H : Hp} {v : V} (h : (scr K ns).holds S I H v) : ∃ a, v = .ref a ∧ SqL K H a (ns.map V.int) := by
  obtain ⟨a, e, h⟩ := h
  exact ⟨a, e, h.imp (fun z => z.2) id⟩
def dScr (K : PySem.W.Frag) (i : Nat) (hi : Int) : DTE := fun ρ Q => ∃ ns, ρ.at i = .ob (scr K ns) ∧ Q (.lst (cutD (ns.map .int) none (some hi))) ρ
section
variable {X : Cx} {L : List Nat} {pos : Pos}
theorem de_scr (i : Nat) {x : Str} {px p2 pc : Pos} {j : Int} {kk : Nat} (hN : X.N[i]? = some x := by rfl) (hv : Vis X.env.scope x := by first | exact Or.inl rfl | exact Or.inr (Or.inl rfl) | exact Or.inr (Or.inr rfl)) (hd : (x == ("__debug__" : Str)) = false := by decide)
    (hcd : (x == ("__classdict__" : Str)) = false := by decide) :
    DE X L (.Subscript (.Name x px) (.Slice none (some (.Constant (.int j) kk pc)) none p2) pos) (tSl (rSlL X.K) (tVar i) tNoPart (tPart (tC (.int j)))) (dScr X.K i j) :=
  ⟨pe_slice sl_list (pe_var hN hv hd hcd) po_none (po_some pe_int), fun F ρ I own σ H Qd Q fo R h k => by
    obtain ⟨ns, e, h⟩ := h
    rcases R.slots i with z | ⟨v, ev, hv'⟩
    · rw [z] at e; cases e
    · rw [e] at hv'
      obtain ⟨a, rfl, hs⟩ := scr_sq hv'
      refine ⟨_, ev, _, rfl, a, _, rfl, hs, fun p hp => ?_⟩
      have rr : RepL I (ns.map V.int) (ns.map .int) := RepL.ofInts ns
      exact k _ ρ I own _ _ (R.laid hp) (Sub.refl _) (ResOk.new R hp (rr.cut none (some j))) h⟩
theorem e_scr {K : PySem.W.Frag} {ns : List Int} {ρ : DEnv} {hi : Int} {Q : Slot → DEnv → Prop} (h : Q (.lst (cutD (ns.map .int) none (some hi))) (.ob (scr K ns) :: ρ)) : dScr K 0 hi (.ob (scr K ns) :: ρ) Q := ⟨ns, rfl, h⟩
end
def absI (n : Int) : Int := if n < 0 then -n else n
def p_law_bag (K : PySem.W.Frag) : PSpec := fun as Q => ∃ ns : List Int, as = [.ob (scr K ns)] ∧ ns.length ≤ 63 ∧ ∀ L, BagL L → Q (.lst L) [.ob (scr K ns)]
def p_law (K : PySem.W.Frag) : PSpec := fun as Q => ∃ ns : List Int, as = [.ob (scr K ns)] ∧ ns.length ≤ 63 ∧ Q (.fz (.bool true)) [.ob (scr K ns)]
/-- the law, as the end asks for it -/
def spLaw (K : PySem.W.Frag) : Sp := fun vs H Q _ => ∃ (a : Addr) (ns : List Int), vs = [.ref a] ∧ SqL K H a (ns.map V.int) ∧ ns.length ≤ 63 ∧ ∀ H', Q (.bl true) H'
theorem law_sp {K : PySem.W.Frag} {vs : List V} {H : Hp} {Q : VK} {E : XK} (h : spLaw K vs H Q E) : spD 1 [0] (p_law K) vs H Q E := by
  obtain ⟨a, ns, rfl, hs, hn, q⟩ := h
  let own : Addr → Option Nat := fun b => if b = a ∧ H a ≠ none then some 0 else none
  let F : Fx := ⟨fun _ => none, H, own, fun i => if i = 0 then some (.ref a) else none⟩
  have hown : ∀ b, own b ≠ none → b = a ∧ H a ≠ none := fun b hb => by
    by_cases h : b = a ∧ H a ≠ none
    · exact h
    · exact absurd (if_neg h) hb
  refine ⟨rfl, [.ob (scr K ns)], F, own, fun s _ => s = .fz (.bool true), rfl, fun i => ?_, ⟨fun i z => ?_, fun b i z => ?_, fun b z => ?_⟩, fun i z => ?_, ?_, ⟨ns, rfl, hn, rfl⟩, fun s as' I' own' H' v _ _ R r e => ?_⟩
  · show (if i = 0 then _ else _) = _
    by_cases h0 : i = 0
    · subst h0; rfl
    · rw [if_neg h0, if_neg (by simpa using h0)]
  · by_cases h0 : i = 0
    · subst h0; exact List.mem_cons_self
    · exact absurd (if_neg h0) z
  · have := hown b (by show own b ≠ none; rw [show own b = some i from z]; exact fun y => nomatch y)
    have e : own b = some 0 := if_pos this
    rw [show own b = some i from z] at e
    cases e
    exact List.mem_cons_self
  · obtain ⟨rfl, h2⟩ := hown b z
    exact h2
  · cases i with
    | zero => exact absurd List.mem_cons_self z
    | succ i => rfl
  · refine ⟨fun b o e => (nomatch e), fun b o e _ => e, fun b z => z, fun b z => rfl, fun b i z => .inr z, fun b z => by obtain ⟨rfl, h2⟩ := hown b z; exact h2, fun b z => absurd rfl z, fun b o e => e, fun i v e => ?_, Nat.le_refl _, fun i => ?_⟩
    · by_cases h0 : i = 0
      · subst h0
        have e2 : F.fix 0 = some (.ref a) := rfl
        rw [e2] at e
        cases e
        rfl
      · have : F.fix i = none := if_neg h0
        rw [this] at e; cases e
    · cases i with
      | zero =>
        refine .inr ⟨.ref a, rfl, a, rfl, ?_⟩
        rcases hs with h | h
        · refine .inl ⟨?_, h⟩
          have hne : H a ≠ none := by rcases h with h | ⟨o, h⟩ <;> (rw [h]; exact fun y => nomatch y)
          exact if_pos ⟨rfl, hne⟩
        · exact .inr h
      | succ i => exact .inl rfl
  · subst e
    have := r.rep
    cases this
    exact q H'
end DL
namespace DL
open PySem PySem.Spec L2
open PyProof.Rows hiding St
section
variable {P : Program} {w : World} {K : PySem.W.Frag} {mg : Str → Option Value} {base : Heap}
/-- what a def promises, whatever object it is -/
def OkF (P : Program) (w : World) (K : PySem.W.Frag) (mg : Str → Option Value) (base : Heap) (k : Nat) (x : Str) (st : Stmt) (ps : List Str) (n : Nat) (lf : List Nat) (PS : PSpec) : Prop := ∀ f fd, Fun K x x st f fd → FnOk P w K mg base CX0 k f fd ps (spD n lf PS)
theorem OkF.okL {x : Str} {st : Stmt} {N ps : List Str} {k n : Nat} {PS' : PSpec} (S : FnScope N ps (defScope st)) (j : Nat) (hn : ps.length = n) (h0 : 0 < n) (hj : N.length - n = j)
    (hbody : ∀ (f : Addr) (cdv : Value) (A : Around) (outer : List Env) (s : Shared) (H : Hp) (E : XK), Room k (A.deeper (envOfC x (defScope st) s.heap.objs.size f cdv)) →
      ∃ u t, DSs (cxOf CX0 P w K mg base N x (defScope st) f cdv A outer s H E).nox [0] (defBody st) u t ∧
        ∀ (a : Slot) (as : List Slot) (Qd : Slot → List Slot → Prop), PS' (a :: as) Qd → t { nx := fun ρ => Qd (.fz .none) (DEnv.at ρ 0 :: as), rt := fun s ρ => Qd s (DEnv.at ρ 0 :: as) } (a :: (as ++ uns j))) : OkF P w K mg base (k + 1) x st ps n [0] PS' :=
  fun f fd F => Fun.okD F S hn (fun i z => by rw [List.mem_singleton] at z; omega) fun cdv A outer s H E hr => by
    obtain ⟨u, t, h1, h2⟩ := hbody f cdv A outer s H E hr
    refine ⟨u, t, h1, fun as Qd hl hp => ?_⟩
    cases as with
    | nil => simp at hl; omega
    | cons a as =>
      have en : ∀ (as : List Slot) (j : Nat) (ρ : DEnv), 0 < j → exitG [0] ρ j as = as := by
        intro as
        induction as with
        | nil => intro j ρ _; rfl
        | cons b bs ih =>
          intro j ρ hj
          simp only [exitG]
          rw [ih (j + 1) ρ (by omega), if_neg (by simp; omega)]
      have e : ∀ ρ, exitS n [0] (a :: as) ρ = DEnv.at ρ 0 :: as := fun ρ => by
        show (if ([0] : List Nat).contains 0 = true then DEnv.at ρ 0 else a) :: exitG [0] ρ 1 as = _
        rw [en as 1 ρ (by decide), if_pos (by decide)]
      simp only [e]
      rw [hj]
      exact h2 a as Qd hp
theorem DefAt.of {h : Heap} (X : K.In h) (G : h.Ns mainGlobals mg) {x : Str} {st : Stmt} {ps : List Str} {f : Addr} {oc : Value} {od an : Option Addr} {osl : Array (Option Value)} {kV doc pm cdv ct : Value} (a : PySem.W.nsIn K mainGlobals x = some (some (.ref f)))
    (l : K.lookup f = some ⟨oc, od, .func (PySem.W.fnOf x x (defArgs st) (defBody st) (defScope st) .none kV doc pm an cdv ct), osl⟩) (c : PySem.W.codeIn K cdv x = true) (k : PySem.W.keepIn K (.ref f) = true)
    (hb : ∀ (kV doc pm : Value) (an : Option Addr) (cdv ct : Value) (us : List Value), us.length = ps.length → bindArgs (PySem.W.fnOf x x (defArgs st) (defBody st) (defScope st) .none kV doc pm an cdv ct) ⟨us, []⟩ = pure (ps.zip us)) : DefAt K mg x st ps :=
  ⟨f, _, fun_mk l c k, (fun_mk l c k).binds hb, PySem.W.mg_of X G a⟩
/-- the end's demand -/
theorem law_end {l : PySem.W.OpenLaw} {h : Heap} (X : K.In h) (G : h.Ns mainGlobals mg) {st : Stmt} {fa f : Addr} {kk : Nat} (hfa : mg "law" = some (.ref fa)) {oc : Value} {od an : Option Addr} {osl : Array (Option Value)} {kV doc pm cdv ct : Value} (a : PySem.W.nsIn K mainGlobals "law" = some (some (.ref f)))
    (lk : K.lookup f = some ⟨oc, od, .func (PySem.W.fnOf "law" "law" (defArgs st) (defBody st) (defScope st) .none kV doc pm an cdv ct), osl⟩) (c : PySem.W.codeIn K cdv "law" = true) (k : PySem.W.keepIn K (.ref f) = true)
    (hb : ∀ (s : Shared) (v : Value), BindsTo s (PySem.W.fnOf "law" "law" (defArgs st) (defBody st) (defScope st) .none kV doc pm an cdv ct) ⟨[v], []⟩ [("script", v)]) (ok : ∀ base, OkF l.prog w K mg base kk "law" st ["script"] 1 [0] (p_law K)) :
    ∃ fd : FuncData, (∀ (s : Shared) (v : Value), BindsTo s fd ⟨[v], []⟩ [("script", v)]) ∧ ∀ base : Heap, K.In base → base.Ns mainGlobals mg → FnOk l.prog w K mg base CX0 kk fa fd ["script"] (spLaw K) := by
  have e := hfa.symm.trans (PySem.W.mg_of X G a)
  cases e
  exact ⟨_, hb, fun base _ _ => (ok base _ _ (fun_mk lk c k)).imp fun vs H Q E h => law_sp h⟩
end
end DL

set_option Elab.async false
set_option linter.all false
set_option maxRecDepth 100000
namespace DL
open PySem PySem.Spec L2
open PyProof.Rows hiding St

section
variable {α : Type}
def dGet (kvs : List (Key × α)) (k : Key) : Option α := (kvs.find? fun kv => decide (kv.1 = k)).map (·.2)
def dPut (kvs : List (Key × α)) (k : Key) (v : α) : List (Key × α) := if kvs.any (fun kv => decide (kv.1 = k)) then kvs.map fun kv => if kv.1 = k then (kv.1, v) else kv else kvs ++ [(k, v)]
def dDel (kvs : List (Key × α)) (k : Key) : List (Key × α) := kvs.filter fun kv => decide (kv.1 ≠ k)
end
theorem RepK.get {I : Hp} {k : Key} : ∀ {ws : List (Key × V)} {kvs : List (Key × D)}, RepK I ws kvs → (∀ d, dGet kvs k = some d → ∃ v, valV ws k = some v ∧ Rep I v d) ∧ (dGet kvs k = none → valV ws k = none)
  | _, _, .nil => ⟨fun _ e => (nomatch e), fun _ => rfl⟩
  | _, _, .cons (k := j) (v := v) (vs := ws) (d := d) (ds := kvs) h r => by
    have ih := RepK.get (k := k) r
    unfold dGet valV at ih ⊢
    by_cases e : j = k
    · subst e
      refine ⟨fun d' e' => ?_, fun e' => ?_⟩
      · simp at e'; subst e'; exact ⟨v, by simp, h⟩
      · simp at e'
    · simp only [List.find?_cons, e, decide_false]
      exact ih
theorem RepK.keys {I : Hp} : ∀ {ws : List (Key × V)} {kvs : List (Key × D)}, RepK I ws kvs → ws.map (·.1) = kvs.map (·.1)
  | _, _, .nil => rfl
  | _, _, .cons _ r => by simp [RepK.keys r]
theorem RepK.len {I : Hp} {ws : List (Key × V)} {kvs : List (Key × D)} (h : RepK I ws kvs) : ws.length = kvs.length := by
  have := congrArg List.length h.keys; simpa using this
theorem RepK.any {I : Hp} {k : Key} {ws : List (Key × V)} {kvs : List (Key × D)} (h : RepK I ws kvs) : (ws.any fun kv => decide (kv.1 = k)) = kvs.any fun kv => decide (kv.1 = k) := by
  have e := h.keys
  have a : ∀ {β : Type} (l : List (Key × β)), (l.any fun kv => decide (kv.1 = k)) = (l.map (·.1)).any fun x => decide (x = k) := fun l => by rw [List.any_map]; rfl
  rw [a, a, e]
theorem RepK.putM {I : Hp} {k : Key} {v : V} {d : D} (h : Rep I v d) : ∀ {ws : List (Key × V)} {kvs : List (Key × D)}, RepK I ws kvs → RepK I (ws.map fun kv => if kv.1 = k then (kv.1, v) else kv) (kvs.map fun kv => if kv.1 = k then (kv.1, d) else kv)
  | _, _, .nil => .nil
  | _, _, .cons h1 r1 => by
    simp only [List.map_cons]
    split
    · exact .cons h (RepK.putM h r1)
    · exact .cons h1 (RepK.putM h r1)
theorem RepK.putS {I : Hp} {k : Key} {v : V} {d : D} (h : Rep I v d) : ∀ {ws : List (Key × V)} {kvs : List (Key × D)}, RepK I ws kvs → RepK I (ws ++ [(k, v)]) (kvs ++ [(k, d)])
  | _, _, .nil => .cons h .nil
  | _, _, .cons h1 r1 => .cons h1 (RepK.putS h r1)
theorem RepK.put {I : Hp} {k : Key} {v : V} {d : D} (h : Rep I v d) {ws : List (Key × V)} {kvs : List (Key × D)} (r : RepK I ws kvs) : RepK I (putK ws k v) (dPut kvs k d) := by
  unfold putK dPut
  rw [r.any]
  split
  · exact RepK.putM h r
  · exact RepK.putS h r
theorem RepK.drop {I : Hp} {k : Key} : ∀ {ws : List (Key × V)} {kvs : List (Key × D)}, RepK I ws kvs → RepK I (dropK ws k) (dDel kvs k)
  | _, _, .nil => .nil
  | _, _, .cons (k := j) h r => by
    have ih := RepK.drop (k := k) r
    unfold dropK dDel at ih ⊢
    simp only [List.filter_cons]
    split
    · exact .cons h ih
    · exact ih
/-- a whole number or a text as a key -/
def keyOf : D → Option Key
  | .int i => some (.inl i)
  | .str s => some (.inr s)
  | _ => none
theorem keyOf_rep {I H : Hp} {v : V} {d : D} {k : Key} (h : RepH I H v d) (e : keyOf d = some k) : v = kV k := by
  unfold keyOf at e
  split at e
  · cases e; rw [h.int]; rfl
  · cases e; rw [h.str]; rfl
  · cases e

def nodeOf (ρ : DEnv) : BV → Option (Nat × List Nat × OV × OV)
  | .d _ => none
  | .v i => match ρ.at i with
    | .ov o => some (i, [], o, o)
    | _ => none
  | .pl i π p => match ρ.at i with
    | .ov o => match OV.at π o with
      | some c => if c.pinned = some p then some (i, π, o, c) else none
      | none => none
    | _ => none
section
variable {F : Fx} {ρ : DEnv} {I : Hp} {own : Addr → Option Nat} {σ : St} {H : Hp} {v : V} {b : BV} {i : Nat} {π : List Nat} {o c : OV}
theorem nodeOf_at (h : nodeOf ρ b = some (i, π, o, c)) : ρ.at i = .ov o ∧ OV.at π o = some c ∧ (b = .v i ∧ π = [] ∨ ∃ p, b = .pl i π p ∧ c.pinned = some p) := by
  cases b with
  | d _ => cases h
  | v j =>
    simp only [nodeOf] at h
    split at h
    · rename_i o' e; cases h; exact ⟨e, rfl, .inl ⟨rfl, rfl⟩⟩
    · cases h
  | pl j π' p =>
    simp only [nodeOf] at h
    split at h
    · rename_i o' e
      split at h
      · rename_i c' e2
        split at h
        · rename_i e3; cases h; exact ⟨e, e2, .inr ⟨p, rfl, e3⟩⟩
        · cases h
      · cases h
    · cases h
/-- what may come at the place -/
def Chg (F : Fx) (ρ : DEnv) (I : Hp) (own : Addr → Option Nat) (σ : St) (H : Hp) (v : V) (i : Nat) (π : List Nat) (o : OV) (g : List Addr) : Prop :=
  ∀ I' H' c' g', Sub I I' → Sub I' H' → Ov I' H' v c' g' → g'.Nodup → (∀ a ∈ g', a ∈ g ∨ (own a = none ∧ F.H0 a = none)) → (∀ a ∈ g', I' a = none) →
      (∀ a, I' a ≠ none → I a ≠ none ∨ a ∈ g ∨ (own a = none ∧ F.H0 a = none)) → (∀ a, H a ≠ none → a ∉ g → H' a = H a) → (∀ a, H a ≠ none → H' a ≠ none) →
      ∃ own', Rel F (ρ.set i (.ov (OV.put c' π o))) I' own' σ H' ∧ (∀ a, own a = none → a ∉ g' → own' a = none)
theorem Rel.node (R : Rel F ρ I own σ H) (ob : BOk I σ v b) (h : nodeOf ρ b = some (i, π, o, c)) :
    ∃ g, Ov I H v c g ∧ g.Nodup ∧ (∀ a ∈ g, own a = some i) ∧ Chg F ρ I own σ H v i π o g := by
  obtain ⟨h1, h2, h3⟩ := nodeOf_at h
  rcases R.slots i with z | ⟨w0, z, q⟩
  · rw [h1] at z; cases z
  · obtain ⟨w, g, n1, n2, n3, n4, n5⟩ := R.focus h1 z h2
    have e : w = v := by
      rcases h3 with ⟨rfl, rfl⟩ | ⟨p, rfl, hp⟩
      · cases n1
        have ob : σ[i]? = some (some v) := ob
        rw [z] at ob; cases ob; rfl
      · have ob : v = .ref p := ob
        rw [ob, n2.pinned hp]
    subst e
    exact ⟨g, n2, n3, n4, n5⟩
/-- .. with the same addresses -/
theorem Chg.same {g : List Addr} (R : Rel F ρ I own σ H) (h : Chg F ρ I own σ H v i π o g) (hg : ∀ a ∈ g, own a = some i) (nd : g.Nodup) {p : Addr} {x : HO} {c' : OV} (hp : p ∈ g) (ho : Ov I (upd H p x) v c' g) : ∃ own', Rel F (ρ.set i (.ov (OV.put c' π o))) I own' σ (upd H p x) := by
  have im : ∀ a ∈ g, I a = none := fun a m => R.imm a (by rw [hg a m]; exact fun y => nomatch y)
  obtain ⟨own', R', _⟩ := h I (upd H p x) c' g (Sub.refl _) (fun a u e => by
      rw [upd_ne (fun z => by subst z; rw [im a hp] at e; cases e)]; exact R.sub a u e) ho nd (fun a m => .inl m) im (fun a z => .inl z) (fun a z m => upd_ne (fun e => m (e ▸ hp))) (fun a z => by
      by_cases e : a = p
      · subst e; rw [upd_same]; exact fun y => nomatch y
      · rw [upd_ne e]; exact z)
  exact ⟨own', R'⟩
/-- .. nothing changed but what is known -/
theorem Chg.know {g : List Addr} (R : Rel F ρ I own σ H) (h : Chg F ρ I own σ H v i π o g) (hg : ∀ a ∈ g, own a = some i) (nd : g.Nodup) {c' : OV} (ho : Ov I H v c' g) : ∃ own', Rel F (ρ.set i (.ov (OV.put c' π o))) I own' σ H := by
  have im : ∀ a ∈ g, I a = none := fun a m => R.imm a (by rw [hg a m]; exact fun y => nomatch y)
  obtain ⟨own', R', _⟩ := h I H c' g (Sub.refl _) R.sub ho nd (fun a m => .inl m) im (fun a z => .inl z) (fun a z m => rfl) (fun a z => z)
  exact ⟨own', R'⟩
/-- .. it becomes data -/
theorem Chg.froze {g : List Addr} {d : D} (R : Rel F ρ I own σ H) (h : Chg F ρ I own σ H v i π o g) (hg : ∀ a ∈ g, own a = some i) (ho : Ov I H v c g) (e : c.toD = some d) : ∃ I' own', Rel F (ρ.set i (.ov (OV.put (.fz d) π o))) I' own' σ H ∧ Sub I I' ∧ Rep I' v d := by
  classical
  have hn : ∀ a ∈ g, I a = none := fun a m => R.imm a (by rw [hg a m]; exact fun y => nomatch y)
  have s1 : Sub I fun a => if a ∈ g then H a else I a := fun a u e => by
    by_cases m : a ∈ g
    · rw [hn a m] at e; cases e
    · exact (if_neg m).trans e
  have r : Rep (fun a => if a ∈ g then H a else I a) v d := ho.rep s1 (fun a m => if_pos m) e
  obtain ⟨own', R', _⟩ := h _ H (.fz d) [] s1 (fun a u e => by
      by_cases m : a ∈ g
      · exact (if_pos m).symm.trans e
      · exact R.sub a u ((if_neg m).symm.trans e)) (.fz r) List.nodup_nil (fun a m => nomatch m) (fun a m => nomatch m) (fun a z => by
      by_cases m : a ∈ g
      · exact .inr (.inl m)
      · exact .inl fun e => z ((if_neg m).trans e)) (fun a z m => rfl) (fun a z => z)
  exact ⟨_, own', R', s1, r⟩
theorem set_same {α : Type} {vs : List α} {n : Nat} {u : α} (h : vs[n]? = some u) : vs.set n u = vs := by
  apply List.ext_getElem?; intro j
  by_cases hj : n = j
  · subst hj; rw [h, List.getElem?_set_self (List.getElem?_eq_some_iff.mp h).1]
  · rw [List.getElem?_set_ne hj]
theorem Ov.pinIt {x : OV} {g : List Addr} {p : Addr} {u : V} (h : Ov I H u x g) (e : u = .ref p) : Ov I H u (x.pin (some p)) g := by
  have q : Pin (some p) p := fun q z => by cases z; rfl
  cases h with
  | fz h => exact .fz h
  | rf p => exact .rf p
  | dct _ h r => cases e; exact .dct q h r
  | lst _ h r => cases e; exact .lst q h r
  | ins _ h d l r => cases e; exact .ins q h d l r
theorem Ov.isRef {x : OV} {g : List Addr} {u : V} (h : Ov I H u x g) (hn : ∀ d, x ≠ .fz d) : ∃ p, u = .ref p := by
  cases h with
  | fz h => exact absurd rfl (hn _)
  | _ => exact ⟨_, rfl⟩
theorem OvL.len : ∀ {vs : List V} {xs : List OV} {f : List Addr}, OvL I H vs xs f → vs.length = xs.length
  | _, _, _, .nil => rfl
  | _, _, _, .cons _ r => by simp [OvL.len r]
/-- a child of a tree: data, or a place -/
def kidT (ρ : DEnv) (i : Nat) (π : List Nat) (o c : OV) (n : Nat) (Q : BV → DEnv → Prop) : Prop := match c.kids[n]? with
  | none => False
  | some (.fz d) => Q (.d d) ρ
  | some x => ∀ p, Q (.pl i (π ++ [n]) p) (ρ.set i (.ov (OV.put (c.setKids (c.kids.set n (x.pin (some p)))) π o)))
theorem kid_known {g : List Addr} {n : Nat} {x : OV} (ho : Ov I H v c g) (hx : c.kids[n]? = some x) : ∃ u gx, Ov I H u x gx ∧ ((∃ p vs, v = .ref p ∧ H p = some (.lst vs) ∧ vs[n]? = some u ∧ vs.length = c.kids.length) ∨ ∃ (p C dx : Addr) (ns : List Str) (vs : List V), v = .ref p ∧ H p = some (.ins C dx (ns.zip vs)) ∧ ns.length = vs.length ∧ vs[n]? = some u) ∧
    ∀ x', Ov I H u x' gx → Ov I H v (c.setKids (c.kids.set n x')) g := by
  cases ho with
  | fz _ => simp [OV.kids] at hx
  | rf _ => simp [OV.kids] at hx
  | dct _ _ _ => simp [OV.kids] at hx
  | lst q hp r =>
    rename_i a p vs xs f
    obtain ⟨u, g1, gx, g2, h1, h2, h3, h4⟩ := r.at (n := n) hx
    have rl : vs.length = xs.length := r.len
    refine ⟨u, gx, h2, .inl ⟨p, vs, rfl, hp, h1, rl⟩, fun x' hx' => ?_⟩
    have := h4 I H u x' gx (Sub.refl _) (fun _ _ => rfl) hx'
    rw [set_same h1] at this
    subst h3
    exact .lst q hp this
  | ins q hp hd hl r =>
    rename_i a p C dx ns vs xs f
    obtain ⟨u, g1, gx, g2, h1, h2, h3, h4⟩ := r.at (n := n) hx
    refine ⟨u, gx, h2, .inr ⟨p, C, dx, ns, vs, rfl, hp, hl, h1⟩, fun x' hx' => ?_⟩
    have := h4 I H u x' gx (Sub.refl _) (fun _ _ => rfl) hx'
    rw [set_same h1] at this
    subst h3
    exact .ins q hp hd hl this
theorem kid_snd {n : Nat} {Qd : BV → DEnv → Prop} {Q : VK} (R : Rel F ρ I own σ H) (ob : BOk I σ v b) (h : nodeOf ρ b = some (i, π, o, c)) (hk : kidT ρ i π o c n Qd) (k : KtB F I σ Qd Q) :
    ∃ u, ((∃ p vs, v = .ref p ∧ H p = some (.lst vs) ∧ vs[n]? = some u ∧ vs.length = c.kids.length) ∨ ∃ (p C dx : Addr) (ns : List Str) (vs : List V), v = .ref p ∧ H p = some (.ins C dx (ns.zip vs)) ∧ ns.length = vs.length ∧ vs[n]? = some u) ∧ Q u H := by
  obtain ⟨g, h1, h2, h3, h4⟩ := R.node ob h
  unfold kidT at hk
  split at hk
  · exact hk.elim
  · rename_i d hx
    obtain ⟨u, gx, e1, e2, _⟩ := kid_known h1 hx
    refine ⟨u, e2, ?_⟩
    cases e1 with
    | fz r => exact k (.d d) ρ I own H u R (Sub.refl _) r hk
  · rename_i x hn hx
    obtain ⟨u, gx, e1, e2, e3⟩ := kid_known h1 hx
    refine ⟨u, e2, ?_⟩
    obtain ⟨p, rfl⟩ := e1.isRef (fun d z => hn d z)
    obtain ⟨own', R'⟩ := h4.know R h3 h2 (e3 _ (e1.pinIt (p := p) rfl))
    exact k (.pl i (π ++ [n]) p) _ I own' H (.ref p) R' (Sub.refl _) rfl (hk p)
end
end DL

set_option Elab.async false
set_option linter.all false
set_option maxRecDepth 100000
set_option maxHeartbeats 4000000
namespace DL
open PySem PySem.Spec L2
open PyProof.Rows hiding St

def ndK (ρ : DEnv) (b : BV) (k : Nat → List Nat → OV → OV → Prop) : Prop := opt (nodeOf ρ b) fun q => k q.1 q.2.1 q.2.2.1 q.2.2.2
def ovK (s : Slot) (k : OV → Prop) : Prop := match s with
  | .ov o => k o
  | _ => False
def atOK (π : List Nat) (o : OV) (k : OV → Prop) : Prop := opt (OV.at π o) k
def kidK (xs : List OV) (n : Nat) (k : OV → Prop) : Prop := opt xs[n]? k
def dctK (c : OV) (k : Option Addr → List (Key × D) → Prop) : Prop := match c with
  | .dct a kvs => k a kvs
  | _ => False
def olK (c : OV) (k : Option Addr → List OV → Prop) : Prop := match c with
  | .lst a xs => k a xs
  | _ => False
def keyK (y : D) (k : Key → Prop) : Prop := opt (keyOf y) k
def dgK (kvs : List (Key × D)) (k : Key) (f : D → Prop) : Prop := opt (dGet kvs k) f
def ovOf (s : Slot) (k : OV → Prop) : Prop := match s with
  | .fz d => k (.fz d)
  | .lst ds => k (.lst none (ds.map .fz))
  | .ov o => k o
  | _ => False
/-- the tree at the place becomes c' -/
def chK (ρ : DEnv) (i : Nat) (π : List Nat) (o c' : OV) (k : DEnv → Prop) : Prop := setK ρ i (.ov (OV.put c' π o)) k
section
variable {ρ : DEnv} {i n : Nat} {π : List Nat} {p : Addr} {a : Option Addr} {C : Addr} {ns : List Str} {o c x y z u w : OV} {xs : List OV} {kvs : List (Key × D)} {k4 : Nat → List Nat → OV → OV → Prop} {k : OV → Prop} {kd : Option Addr → List (Key × D) → Prop} {kl : Option Addr → List OV → Prop} {kk : Key → Prop} {ke : DEnv → Prop} {d : D} {ds : List D} {s : Slot} {t : Str} {m : Int}
theorem ndK_v : ndK ρ (.v i) k4 = slotK ρ i fun s => ovK s fun o => k4 i [] o o := by
  unfold ndK slotK
  simp only [nodeOf]
  cases ρ.at i <;> rfl
theorem ndK_p : ndK ρ (.pl i π p) k4 = slotK ρ i fun s => ovK s fun o => atOK π o fun c => c.pinned = some p ∧ k4 i π o c := by
  unfold ndK slotK
  simp only [nodeOf]
  cases ρ.at i with
  | ov o =>
    show opt _ _ = opt (OV.at π o) _
    dsimp only
    cases OV.at π o with
    | none => rfl
    | some c =>
      show opt (if c.pinned = some p then some (i, π, o, c) else none) _ = (_ ∧ _)
      by_cases h : c.pinned = some p
      · rw [if_pos h]; exact propext ⟨fun q => ⟨h, q⟩, fun q => q.2⟩
      · rw [if_neg h]; exact propext ⟨fun q => q.elim, fun q => absurd q.1 h⟩
  | _ => rfl
theorem ovK_o : ovK (.ov o) k = k o := rfl
theorem atOK_0 : atOK [] o k = k o := rfl
theorem atOK_l : atOK (n :: π) (.lst a xs) k = kidK xs n fun x => atOK π x k := by
  unfold atOK kidK
  simp only [OV.at, OV.kids]
  cases xs[n]? <;> rfl
theorem atOK_i : atOK (n :: π) (.ins a C ns xs) k = kidK xs n fun x => atOK π x k := by
  unfold atOK kidK
  simp only [OV.at, OV.kids]
  cases xs[n]? <;> rfl
theorem kidK_0 : kidK (x :: xs) 0 k = k x := rfl
theorem kidK_1 : kidK (x :: y :: xs) 1 k = k y := rfl
theorem kidK_2 : kidK (x :: y :: z :: xs) 2 k = k z := rfl
theorem kidK_3 : kidK (x :: y :: z :: u :: xs) 3 k = k u := rfl
theorem put_0 : OV.put c [] o = c := rfl
theorem put_l0 : OV.put c (0 :: π) (.lst a (x :: xs)) = .lst a (OV.put c π x :: xs) := rfl
theorem put_l1 : OV.put c (1 :: π) (.lst a (x :: y :: xs)) = .lst a (x :: OV.put c π y :: xs) := rfl
theorem put_l2 : OV.put c (2 :: π) (.lst a (x :: y :: z :: xs)) = .lst a (x :: y :: OV.put c π z :: xs) := rfl
theorem put_i0 : OV.put c (0 :: π) (.ins a C ns (x :: xs)) = .ins a C ns (OV.put c π x :: xs) := rfl
theorem put_i1 : OV.put c (1 :: π) (.ins a C ns (x :: y :: xs)) = .ins a C ns (x :: OV.put c π y :: xs) := rfl
theorem put_i2 : OV.put c (2 :: π) (.ins a C ns (x :: y :: z :: xs)) = .ins a C ns (x :: y :: OV.put c π z :: xs) := rfl
theorem put_i3 : OV.put c (3 :: π) (.ins a C ns (x :: y :: z :: u :: xs)) = .ins a C ns (x :: y :: z :: OV.put c π u :: xs) := rfl
theorem dctK_d : dctK (.dct a kvs) kd = kd a kvs := rfl
theorem olK_l : olK (.lst a xs) kl = kl a xs := rfl
theorem keyK_i : keyK (.int m) kk = kk (.inl m) := rfl
theorem keyK_s : keyK (.str t) kk = kk (.inr t) := rfl
theorem ovOf_f : ovOf (.fz d) k = k (.fz d) := rfl
theorem ovOf_l : ovOf (.lst ds) k = k (.lst none (ds.map .fz)) := rfl
theorem ovOf_o : ovOf (.ov o) k = k o := rfl
theorem chK_e {c' : OV} : chK ρ i π o c' ke = setK ρ i (.ov (OV.put c' π o)) ke := rfl
theorem node_elim2 {b : BV} (h : ndK ρ b k4) : ∃ i π o c, nodeOf ρ b = some (i, π, o, c) ∧ k4 i π o c := by
  obtain ⟨⟨i, π, o, c⟩, e, h⟩ := opt_elim h
  exact ⟨i, π, o, c, e, h⟩
theorem dct_elim (h : dctK c kd) : ∃ a kvs, c = .dct a kvs ∧ kd a kvs := by
  unfold dctK at h
  split at h
  · exact ⟨_, _, rfl, h⟩
  · exact h.elim
theorem ol_elim (h : olK c kl) : ∃ a xs, c = .lst a xs ∧ kl a xs := by
  unfold olK at h
  split at h
  · exact ⟨_, _, rfl, h⟩
  · exact h.elim
theorem frzK_elim {f : D → Prop} (h : frzK s f) : ∃ d, frzS s = some d ∧ f d := by
  rw [← opt_frz] at h; exact opt_elim h
theorem getK_elim {b : BV} {f : D → Prop} (h : getK ρ b f) : ∃ d, b.get ρ = some d ∧ f d := by
  rw [← opt_get] at h; exact opt_elim h
end

theorem ovl_fz {I H : Hp} : ∀ {vs : List V} {ds : List D}, RepL I vs ds → OvL I H vs (ds.map .fz) []
  | _, _, .nil => .nil
  | _, _, .cons h r => by
    have := OvL.cons (.fz h) (ovl_fz (H := H) r)
    simpa using this
theorem ovl_snoc {I H : Hp} {w : V} {x : OV} {g : List Addr} (h : Ov I H w x g) : ∀ {vs : List V} {xs : List OV} {f : List Addr}, OvL I H vs xs f → OvL I H (vs ++ [w]) (xs ++ [x]) (f ++ g)
  | _, _, _, .nil => by simpa using OvL.cons h .nil
  | _, _, _, .cons h1 r => by
    have := OvL.cons h1 (ovl_snoc h r)
    simpa [List.append_assoc] using this
section
variable {F : Fx} {ρ : DEnv} {I : Hp} {own : Addr → Option Nat} {σ : St} {H : Hp} {v w : V} {s : Slot} {x : OV}
theorem ResOk.tree {k : OV → Prop} (r : ResOk F I own H v s) (h : ovOf s k) : ∃ x g, k x ∧ Ov I H v x g ∧ g.Nodup ∧ ∀ a ∈ g, I a = none ∧ own a = none ∧ F.H0 a = none ∧ H a ≠ none := by
  obtain ⟨S, hS, hv⟩ := r
  cases s with
  | un => exact h.elim
  | ob _ => exact h.elim
  | fz d => exact ⟨.fz d, [], h, .fz hv, List.nodup_nil, fun a m => nomatch m⟩
  | lst ds =>
    obtain ⟨p, vs, rfl, hp, h1, h2⟩ := hv
    refine ⟨_, [p], h, ?_, by simp, fun a m => ?_⟩
    · have := Ov.lst (a := none) (Pin.none p) h1 (ovl_fz (H := H) h2)
      simpa using this
    · rw [List.mem_singleton] at m; subst m; exact hS a hp
  | ov o =>
    obtain ⟨f, h1, h2, h3⟩ := hv
    exact ⟨o, f, h, h1, h2, fun a m => hS a (h3 a m)⟩
theorem ResOk.newD (R : Rel F ρ I own σ H) {p : Addr} {ws : List (Key × V)} {kvs : List (Key × D)} (hp : H p = none) (h : RepK I ws kvs) : ResOk F I own (upd H p (.dK ws)) (.ref p) (.ov (.dct none kvs)) := by
  obtain ⟨n1, n2, n3⟩ := R.fresh hp
  refine ⟨fun a => a = p, fun a e => ?_, [p], .dct (Pin.none p) upd_same h, by simp, fun a m => by simpa using m⟩
  subst e
  exact ⟨n1, n2, n3, by rw [upd_same]; exact fun z => nomatch z⟩
end

section
variable {X : Cx} {L : List Nat} {a b e f : Expr} {ua ub ue uf : TE} {ta tb tf : DTB} {te : DTE} {pos apos cpos p : Pos}
def dNew : DTE := fun ρ Q => Q (.ov (.dct none [])) ρ
theorem de_dnew : DE X L (.Dict [] [] pos) tDNewK dNew := ⟨pe_dnewK, fun F ρ I own σ H Qd Q fo R h k => fun q hq => k _ ρ I own _ _ (R.laid hq) (Sub.refl _) (ResOk.newD R hq .nil) h⟩
def dDGet (ta tb : DTB) : DTE := fun ρ Q => ta ρ fun x ρ1 => tb ρ1 fun y ρ2 => getK ρ2 y fun d => keyK d fun k => ndK ρ2 x fun _ _ _ c => dctK c fun _ kvs => dgK kvs k fun r => Q (.fz r) ρ2
theorem de_dget (hu : X.A.units + 1 < cLine) (ha : DB X L a ua ta) (hb : DB X L b ub tb) (hs : NoSl b := by exact fun _ _ => rfl) : DE X L (.Subscript a b pos) (tDGet ua ub) (dDGet ta tb) :=
  ⟨pe_dget hu ha.pe hb.pe hs, fun F ρ I own σ H Qd Q fo R h k => ha.snd F ρ I own σ H _ _ fo R h fun x ρ1 I1 own1 H1 v R1 s1 r1 q => hb.snd F ρ1 I1 own1 σ H1 _ _ fo R1 q fun y ρ2 I2 own2 H2 w R2 s2 r2 q => by
    obtain ⟨d, ed, q⟩ := getK_elim q
    obtain ⟨kk, ek, q⟩ := opt_elim q
    obtain ⟨i, π, o, c, en, q⟩ := node_elim2 q
    obtain ⟨a, kvs, rfl, q⟩ := dct_elim q
    obtain ⟨r, er, q⟩ := opt_elim q
    have ew := keyOf_rep (r2.rep R2 ed) ek
    subst ew
    obtain ⟨g, n1, _⟩ := R2.node (r1.mono s2) en
    cases n1 with
    | dct _ hp rk =>
      obtain ⟨u, e1, e2⟩ := rk.get.1 r er
      exact ⟨_, u, rfl, e1 ▸ DGet.k hp, k _ ρ2 I2 own2 H2 u R2 (s1.trans s2) (.fz e2) q⟩⟩
def dDIn (f : Bool → Bool) (ta tb : DTB) : DTE := fun ρ Q => ta ρ fun y ρ1 => tb ρ1 fun x ρ2 => getK ρ2 y fun d => keyK d fun k => ndK ρ2 x fun _ _ _ c => dctK c fun _ kvs => Q (.fz (.bool (f (dGet kvs k).isSome))) ρ2
theorem dget_iff {I : Hp} {k : Key} {ws : List (Key × V)} {kvs : List (Key × D)} (h : RepK I ws kvs) : (valV ws k).isSome = (dGet kvs k).isSome := by
  cases e : dGet kvs k with
  | none => rw [h.get.2 e]; rfl
  | some d => obtain ⟨u, e1, _⟩ := h.get.1 d e; rw [e1]; rfl
theorem se_din (ha : SB L ua ta) (hb : SB L ub tb) : SE L (tDIn ua ub) (dDIn id ta tb) := fun F ρ I own σ H Qd Q fo R h k => ha F ρ I own σ H _ _ fo R h fun y ρ1 I1 own1 H1 v R1 s1 r1 q => hb F ρ1 I1 own1 σ H1 _ _ fo R1 q fun x ρ2 I2 own2 H2 w R2 s2 r2 q => by
    obtain ⟨d, ed, q⟩ := getK_elim q
    obtain ⟨kk, ek, q⟩ := opt_elim q
    obtain ⟨i, π, o, c, en, q⟩ := node_elim2 q
    obtain ⟨a, kvs, rfl, q⟩ := dct_elim q
    have ew := keyOf_rep ((r1.mono s2).rep R2 ed) ek
    subst ew
    obtain ⟨g, n1, _⟩ := R2.node r2 en
    cases n1 with
    | dct _ hp rk =>
      refine ⟨_, _, rfl, DGet.k hp, ?_⟩
      rw [dget_iff rk]
      exact k _ ρ2 I2 own2 H2 _ R2 (s1.trans s2) (.fz (.bl _)) q
theorem se_dnin (ha : SB L ua ta) (hb : SB L ub tb) : SE L (tDNotIn ua ub) (dDIn (fun b => !b) ta tb) := fun F ρ I own σ H Qd Q fo R h k => ha F ρ I own σ H _ _ fo R h fun y ρ1 I1 own1 H1 v R1 s1 r1 q => hb F ρ1 I1 own1 σ H1 _ _ fo R1 q fun x ρ2 I2 own2 H2 w R2 s2 r2 q => by
    obtain ⟨d, ed, q⟩ := getK_elim q
    obtain ⟨kk, ek, q⟩ := opt_elim q
    obtain ⟨i, π, o, c, en, q⟩ := node_elim2 q
    obtain ⟨a, kvs, rfl, q⟩ := dct_elim q
    have ew := keyOf_rep ((r1.mono s2).rep R2 ed) ek
    subst ew
    obtain ⟨g, n1, _⟩ := R2.node r2 en
    cases n1 with
    | dct _ hp rk =>
      refine ⟨_, _, rfl, DGet.k hp, ?_⟩
      rw [dget_iff rk]
      exact k _ ρ2 I2 own2 H2 _ R2 (s1.trans s2) (.fz (.bl _)) q
theorem de_din (hu : X.A.units + 1 < cLine) (ha : DB X L a ua ta) (hb : DB X L b ub tb) (h1 : behindInMarks .In b = false := by rfl) : DE X L (.Compare a [.In] [b] pos) (tDIn ua ub) (dDIn id ta tb) := ⟨pe_cmp (pc_din hu ha.pe hb.pe) h1, se_din ha.snd hb.snd⟩
theorem de_dnin (hu : X.A.units + 1 < cLine) (ha : DB X L a ua ta) (hb : DB X L b ub tb) (h1 : behindInMarks .NotIn b = false := by rfl) : DE X L (.Compare a [.NotIn] [b] pos) (tDNotIn ua ub) (dDIn (fun b => !b) ta tb) := ⟨pe_cmp (pc_dnotin hu ha.pe hb.pe) h1, se_dnin ha.snd hb.snd⟩
theorem dt_din (hu : X.A.units + 1 < cLine) (ha : DB X L a ua ta) (hb : DB X L b ub tb) (h1 : behindInMarks .In b = false := by rfl) : DT X L (.Compare a [.In] [b] pos) (tB (tDIn ua ub)) (tBl (dDIn id ta tb)) := ⟨pt_cmp (pc_din hu ha.pe hb.pe) h1, st_bl (se_din ha.snd hb.snd)⟩
theorem dt_dnin (hu : X.A.units + 1 < cLine) (ha : DB X L a ua ta) (hb : DB X L b ub tb) (h1 : behindInMarks .NotIn b = false := by rfl) : DT X L (.Compare a [.NotIn] [b] pos) (tB (tDNotIn ua ub)) (tBl (dDIn (fun b => !b) ta tb)) := ⟨pt_cmp (pc_dnotin hu ha.pe hb.pe) h1, st_bl (se_dnin ha.snd hb.snd)⟩
def dDPut (te : DTE) (ta tb : DTB) : DTS := fun Z ρ => te ρ fun s ρ1 => frzK s fun r => ta ρ1 fun x ρ2 => tb ρ2 fun y ρ3 => getK ρ3 y fun d => keyK d fun k => ndK ρ3 x fun i π o c => dctK c fun l kvs => kvs.length < sizeLine ∧ chK ρ3 i π o (.dct none (dPut kvs k r)) Z.nx
theorem ds_dput {pos' : Pos} (hu : X.A.units + 1 < cLine) (he : DE X L e ue te) (ha : DB X L a ua ta) (hb : DB X L b ub tb) (hs : swapsWith e (some (.Subscript a b pos')) pos.line X.env = pure false := by rfl) : DS X L (.Assign [.Subscript a b pos'] e pos) (sDPut ua ub ue) (dDPut te ta tb) :=
  ⟨ps_dput hu ha.pe hb.pe he.pe hs, fun F ρ I own σ H D Dd fo R h k => he.snd F ρ I own σ H _ _ fo R h fun s ρ1 I1 own1 H1 v R1 s1 r1 q => by
    obtain ⟨r, er, q⟩ := frzK_elim q
    obtain ⟨I1', R1', s1', rr⟩ := r1.freeze R1 er
    refine ha.snd F ρ1 I1' own1 σ H1 _ _ fo R1' q fun x ρ2 I2 own2 H2 w R2 s2 r2 q => hb.snd F ρ2 I2 own2 σ H2 _ _ fo R2 q fun y ρ3 I3 own3 H3 z R3 s3 r3 q => ?_
    obtain ⟨d, ed, q⟩ := getK_elim q
    obtain ⟨kk, ek, q⟩ := opt_elim q
    obtain ⟨i, π, o, c, en, q⟩ := node_elim2 q
    obtain ⟨l, kvs, rfl, hl, q⟩ := dct_elim q
    have ew := keyOf_rep (r3.rep R3 ed) ek
    subst ew
    obtain ⟨g, n1, n2, n3, n4⟩ := R3.node (r2.mono s3) en
    cases n1 with
    | dct pn hp rk =>
      have rv : Rep I3 v r := (rr.mono s2).mono s3
      obtain ⟨own', R'⟩ := n4.same R3 n3 n2 (x := .dK (putK _ kk v)) List.mem_cons_self (.dct (Pin.none _) upd_same (rk.put rv))
      exact ⟨_, _, rfl, DPut.k hp (by rw [rk.len]; exact hl), k.nx _ I3 own' σ _ R' (((s1.trans s1').trans s2).trans s3) q⟩⟩
def dDGet2 (ta tb tf : DTB) : DTE := fun ρ Q => ta ρ fun x ρ1 => ndK ρ1 x fun _ _ _ c0 => dctK c0 fun _ _ => tb ρ1 fun y ρ2 => tf ρ2 fun z ρ3 => getK ρ3 y fun d => keyK d fun k => getK ρ3 z fun m => flK m fun m => ndK ρ3 x fun _ _ _ c => dctK c fun _ kvs => Q (.fz ((dGet kvs k).getD m)) ρ3
where flK (m : D) (k : D → Prop) : Prop := match m with
  | .int i => k (.int i)
  | .none => k .none
  | _ => False
theorem de_dget2 (hu : X.A.units + 1 < cLine) (ha : DB X L a ua ta) (hb : DB X L b ub tb) (hf : DB X L f uf tf) (m : M2 X a "get" apos b f cpos := by exact ⟨rfl, rfl, rfl, rfl⟩) : DE X L (.Call (.Attribute a "get" apos) [b, f] [] cpos) (tDGet2 ua ub uf) (dDGet2 ta tb tf) :=
  ⟨pe_dget2 hu ha.pe hb.pe hf.pe m, fun F ρ I own σ H Qd Q fo R h k => ha.snd F ρ I own σ H _ _ fo R h fun x ρ1 I1 own1 H1 v R1 s1 r1 q => by
    obtain ⟨i0, π0, o0, c0, en0, q⟩ := node_elim2 q
    obtain ⟨l0, kvs0, rfl, q⟩ := dct_elim q
    obtain ⟨g0, n0, _⟩ := R1.node r1 en0
    cases n0 with
    | dct _ hp0 _ =>
      refine ⟨_, rfl, .inl ⟨_, .inl hp0⟩, hb.snd F ρ1 I1 own1 σ H1 _ _ fo R1 q fun y ρ2 I2 own2 H2 w R2 s2 r2 q => hf.snd F ρ2 I2 own2 σ H2 _ _ fo R2 q fun z ρ3 I3 own3 H3 w3 R3 s3 r3 q => ?_⟩
      obtain ⟨d, ed, q⟩ := getK_elim q
      obtain ⟨kk, ek, q⟩ := opt_elim q
      obtain ⟨m, em, q⟩ := getK_elim q
      have ew := keyOf_rep ((r2.mono s3).rep R3 ed) ek
      subst ew
      have rm := r3.rep R3 em
      have key : ∀ m', m = m' → Rep I3 w3 m' → (ndK ρ3 x fun _ _ _ c => dctK c fun _ kvs => Qd (.fz ((dGet kvs kk).getD m')) ρ3) → ∃ o, DGet H3 _ (kV kk) o ∧ Q (o.getD w3) H3 := fun m' em' rm' q => by
        obtain ⟨i, π, o, c, en, q⟩ := node_elim2 q
        obtain ⟨l, kvs, rfl, q⟩ := dct_elim q
        obtain ⟨g, n1, _⟩ := R3.node ((r1.mono s2).mono s3) en
        cases n1 with
        | dct _ hp rk =>
          refine ⟨_, DGet.k hp, ?_⟩
          cases e : dGet kvs kk with
          | none =>
            have q : Qd (.fz ((dGet kvs kk).getD m')) ρ3 := q
            rw [e] at q
            rw [rk.get.2 e]
            exact k _ ρ3 I3 own3 H3 _ R3 ((s1.trans s2).trans s3) (.fz rm') q
          | some r =>
            have q : Qd (.fz ((dGet kvs kk).getD m')) ρ3 := q
            rw [e] at q
            obtain ⟨u, e1, e2⟩ := rk.get.1 r e
            rw [e1]
            exact k _ ρ3 I3 own3 H3 _ R3 ((s1.trans s2).trans s3) (.fz e2) q
      unfold dDGet2.flK at q
      split at q
      · refine key _ rfl ?_ q
        rw [rm.int]; exact .int _
      · refine key _ rfl ?_ q
        rw [rm.non]; exact .non
      · exact q.elim⟩
def dDPop (ta tb : DTB) : DTE := fun ρ Q => ta ρ fun x ρ1 => ndK ρ1 x fun _ _ _ c0 => dctK c0 fun _ _ => tb ρ1 fun y ρ2 => getK ρ2 y fun d => keyK d fun k => ndK ρ2 x fun i π o c => dctK c fun l kvs => dgK kvs k fun r => chK ρ2 i π o (.dct none (dDel kvs k)) fun ρ3 => Q (.fz r) ρ3
theorem de_dpop (ha : DB X L a ua ta) (hb : DB X L b ub tb) (m : M1 X a "pop" apos b cpos := by exact ⟨rfl, rfl, rfl, rfl⟩) : DE X L (.Call (.Attribute a "pop" apos) [b] [] cpos) (tDPop1 ua ub) (dDPop ta tb) :=
  ⟨pe_dpop1 ha.pe hb.pe m, fun F ρ I own σ H Qd Q fo R h k => ha.snd F ρ I own σ H _ _ fo R h fun x ρ1 I1 own1 H1 v R1 s1 r1 q => by
    obtain ⟨i0, π0, o0, c0, en0, q⟩ := node_elim2 q
    obtain ⟨l0, kvs0, rfl, q⟩ := dct_elim q
    obtain ⟨g0, n0, _⟩ := R1.node r1 en0
    cases n0 with
    | dct _ hp0 _ =>
      refine ⟨_, rfl, .inl ⟨_, .inl hp0⟩, hb.snd F ρ1 I1 own1 σ H1 _ _ fo R1 q fun y ρ2 I2 own2 H2 w R2 s2 r2 q => ?_⟩
      obtain ⟨d, ed, q⟩ := getK_elim q
      obtain ⟨kk, ek, q⟩ := opt_elim q
      have ew := keyOf_rep (r2.rep R2 ed) ek
      subst ew
      obtain ⟨i, π, o, c, en, q⟩ := node_elim2 q
      obtain ⟨l, kvs, rfl, q⟩ := dct_elim q
      obtain ⟨r, er, q⟩ := opt_elim q
      obtain ⟨g, n1, n2, n3, n4⟩ := R2.node (r1.mono s2) en
      cases n1 with
      | dct pn hp rk =>
        obtain ⟨u, e1, e2⟩ := rk.get.1 r er
        obtain ⟨own', R'⟩ := n4.same R2 n3 n2 (x := .dK (dropK _ kk)) List.mem_cons_self (.dct (Pin.none _) upd_same rk.drop)
        exact ⟨_, kk, u, hp, rfl, e1, k _ _ I2 own' _ u R' (s1.trans s2) (.fz e2) q⟩⟩
def dDLen (ta : DTB) : DTE := fun ρ Q => ta ρ fun x ρ1 => ndK ρ1 x fun _ _ _ c => dctK c fun _ kvs => Q (.fz (.int kvs.length)) ρ1
theorem de_dlen (hg : Gl X "len") (hm : X.mg "len" = none) (ha : DB X L a ua ta) (hst : starEach [a] X.env = (false, eval a X.env) :: starEach [] X.env := by rfl) (hpl : (backTo pos (starEach [] X.env)).any (·.1) = false := by rfl) :
    DE X L (.Call (.Name "len" p) [a] [] pos) (tCB (fun xs H Q => ∃ a kvs, xs = [V.ref a] ∧ H a = some (.dK kvs) ∧ Q (.int kvs.length) H) (tCons ua tNil)) (dDLen ta) :=
  ⟨pe_callB call_lenD hg hm PySem.boot_len (pa_cons ha.pe pa_nil hst) (he := hst) (hpl := hpl), fun F ρ I own σ H Qd Q fo R h k => ha.snd F ρ I own σ H _ _ fo R h fun x ρ1 I1 own1 H1 v R1 s1 r1 q => by
    obtain ⟨i, π, o, c, en, q⟩ := node_elim2 q
    obtain ⟨l, kvs, rfl, q⟩ := dct_elim q
    obtain ⟨g, n1, _⟩ := R1.node r1 en
    cases n1 with
    | dct pn hp rk =>
      refine ⟨_, _, rfl, hp, ?_⟩
      rw [rk.len]
      exact k _ ρ1 I1 own1 H1 _ R1 s1 (.fz (.int _)) q⟩
def dAppP (ta : DTB) (te : DTE) : DTE := fun ρ Q => ta ρ fun x ρ1 => ndK ρ1 x fun _ _ _ c0 => olK c0 fun _ _ => te ρ1 fun s ρ2 => ovOf s fun t => ndK ρ2 x fun i π o c => olK c fun l xs => xs.length < sizeLine ∧ chK ρ2 i π o (.lst none (xs ++ [t])) fun ρ3 => Q (.fz .none) ρ3
theorem de_appendP (ha : DB X L a ua ta) (he : DE X L e ue te) (hst : starEach [e] X.env = (false, eval e X.env) :: starEach [] X.env := by rfl)
    (hbase : attributeBase a "append" X.env (eval a X.env) = eval a X.env := by rfl)
    (hfew : ((backTo cpos (starEach [e] X.env)).all (fun x => !x.1) && (backToKw cpos (keywordEach [] X.env)).all (fun x => x.1.isSome) && decide (([e] : List Expr).length + ([] : List Keyword).length + (if ([] : List Keyword).isEmpty then 0 else 1) < 30)) = true := by rfl)
    (hline : (apos.endLine == cpos.line) = true := by rfl) (hpl : (backTo cpos (starEach [] X.env)).any (·.1) = false := by rfl) :
    DE X L (.Call (.Attribute a "append" apos) [e] [] cpos) (tBM X.K "list" rAppend ua (tCons ue tNil)) (dAppP ta te) :=
  ⟨pe_bm PySem.F.plainAttrs_list PySem.F.slot_list_append PySem.F.type_list_append mt_append ha.pe (pa_cons he.pe pa_nil hst) hbase hfew hline hst hpl, fun F ρ I own σ H Qd Q fo R h k => ha.snd F ρ I own σ H _ _ fo R h fun x ρ1 I1 own1 H1 v R1 s1 r1 q => by
    obtain ⟨i0, π0, o0, c0, en0, q⟩ := node_elim2 q
    obtain ⟨l0, xs0, rfl, q⟩ := ol_elim q
    obtain ⟨g0, n0, n00⟩ := R1.node r1 en0
    cases n0 with
    | lst pn0 hp0 rl0 =>
      rename_i q0 vs0 f0
      refine ⟨.inl ⟨rfl, _, .of hp0⟩, he.snd F ρ1 I1 own1 σ H1 _ _ fo R1 q fun s ρ2 I2 own2 H2 w R2 s2 r2 q => ?_⟩
      obtain ⟨t, gt, q, t1, t2, t3⟩ := r2.tree q
      obtain ⟨i, π, o, c, en, q⟩ := node_elim2 q
      obtain ⟨l, xs, rfl, hl, q⟩ := ol_elim q
      obtain ⟨g, n1, n2, n3, n4⟩ := R2.node (r1.mono s2) en
      cases n1 with
      | lst pn hp rl =>
        rename_i vs f
        rw [List.nodup_cons] at n2
        have im : ∀ a ∈ q0 :: f, I2 a = none := fun a m => R2.imm a (by rw [n3 a m]; exact fun y => nomatch y)
        have nf : ∀ a ∈ gt, a ∉ q0 :: f := fun a m m2 => by
          have := n3 a m2
          rw [(t3 a m).2.1] at this; cases this
        obtain ⟨own', R', _⟩ := n4 I2 (upd H2 q0 (.lst (vs ++ [w]))) (.lst none (xs ++ [t])) (q0 :: (f ++ gt)) (Sub.refl _) (fun a u e => by
            rw [upd_ne (fun z => by subst z; rw [im _ List.mem_cons_self] at e; cases e)]; exact R2.sub a u e)
          (.lst (Pin.none q0) upd_same (ovl_snoc (t1.frame (Sub.refl _) fun a m => upd_ne fun e => nf a m (e ▸ List.mem_cons_self)) (rl.frame (Sub.refl _) fun a m => upd_ne fun e => n2.1 (e ▸ m))))
          (by
            rw [List.nodup_cons, List.nodup_append]
            refine ⟨fun m => ?_, n2.2, t2, fun a m b m2 e => ?_⟩
            · rcases List.mem_append.mp m with m | m
              · exact n2.1 m
              · exact nf _ m List.mem_cons_self
            · subst e; exact nf a m2 (List.mem_cons_of_mem _ m))
          (fun a m => by
            rcases List.mem_cons.mp m with e | m
            · subst e; exact .inl List.mem_cons_self
            · rcases List.mem_append.mp m with m | m
              · exact .inl (List.mem_cons_of_mem _ m)
              · exact .inr ⟨(t3 a m).2.1, (t3 a m).2.2.1⟩)
          (fun a m => by
            rcases List.mem_cons.mp m with e | m
            · subst e; exact im _ List.mem_cons_self
            · rcases List.mem_append.mp m with m | m
              · exact im a (List.mem_cons_of_mem _ m)
              · exact (t3 a m).1)
          (fun a z => .inl z) (fun a z m => upd_ne fun e => m (e ▸ List.mem_cons_self)) (fun a z => by
            by_cases e : a = q0
            · rw [e, upd_same]; exact fun y => nomatch y
            · rw [upd_ne e]; exact z)
        exact ⟨_, vs, w, rfl, rfl, hp, by rw [rl.len]; exact hl, k _ _ I2 own' _ _ R' (s1.trans s2) (.fz .non) q⟩⟩
def dIxP (ta tb : DTB) : DTB := fun ρ Q => ta ρ fun x ρ1 => tb ρ1 fun y ρ2 => getK ρ2 y fun d => negK d fun m => ndK ρ2 x fun i π o c => olK c fun _ xs => ixK xs.length m fun n => kidT ρ2 i π o c n Q
theorem db_ixP (ha : DB X L a ua ta) (hb : DB X L b ub tb) (hs : PlainIx b := by exact fun _ _ => rfl) : DB X L (.Subscript a b pos) (tOp (rIx X.K) ua ub) (dIxP ta tb) :=
  ⟨pe_ix ix_seq ha.pe hb.pe hs, fun F ρ I own σ H Qd Q fo R h k => ha.snd F ρ I own σ H _ _ fo R h fun x ρ1 I1 own1 H1 v R1 s1 r1 q => hb.snd F ρ1 I1 own1 σ H1 _ _ fo R1 q fun y ρ2 I2 own2 H2 w R2 s2 r2 q => by
    obtain ⟨d, ed, q⟩ := getK_elim q
    have rd := r2.rep R2 ed
    cases d with
    | int m =>
      have ew := rd.int
      subst ew
      have q : ndK ρ2 x fun i π o c => olK c fun _ xs => ixK xs.length m fun n => kidT ρ2 i π o c n Qd := q
      obtain ⟨i, π, o, c, en, q⟩ := node_elim2 q
      obtain ⟨l, xs, rfl, q⟩ := ol_elim q
      obtain ⟨n, ei, q⟩ := opt_elim q
      obtain ⟨u, e1, e2⟩ := kid_snd (Q := Q) R2 (r1.mono s2) en q fun b ρ' I' own' H' v' R' s' r' q' => k b ρ' I' own' H' v' R' ((s1.trans s2).trans s') r' q'
      rcases e1 with ⟨p, vs, rfl, hp, hu, hlen⟩ | ⟨p, C, dx, ns, vs, rfl, hp, _, _⟩
      · refine .inl ⟨p, vs, m, u, rfl, rfl, .of hp, ?_, e2⟩
        have ei' : ixN vs.length m = some n := by rw [hlen]; exact ei
        unfold L2.atI
        rw [ei']
        exact hu
      · obtain ⟨g, n1, _⟩ := R2.node (r1.mono s2) en
        cases n1 with
        | lst _ hp' _ => rw [hp] at hp'; cases hp'
    | _ => exact q.elim⟩
/-- a place's thing as data -/
def dOfB (ta : DTB) : DTE := fun ρ Q => ta ρ fun x ρ1 => match x with
  | .d d => Q (.fz d) ρ1
  | x => ndK ρ1 x fun i π o c => toDK c fun d => chK ρ1 i π o (.fz d) fun ρ2 => Q (.fz d) ρ2
theorem de_ofB (ha : DB X L a ua ta) : DE X L a ua (dOfB ta) := ⟨ha.pe, fun F ρ I own σ H Qd Q fo R h k => ha.snd F ρ I own σ H _ _ fo R h fun x ρ1 I1 own1 H1 v R1 s1 r1 q => by
  have tree : (ndK ρ1 x fun i π o c => toDK c fun d => chK ρ1 i π o (.fz d) fun ρ2 => Qd (.fz d) ρ2) → Q v H1 := fun q => by
    obtain ⟨i, π, o, c, en, q⟩ := node_elim2 q
    obtain ⟨d, ed, q⟩ := opt_elim q
    obtain ⟨g, n1, n2, n3, n4⟩ := R1.node r1 en
    obtain ⟨I2, own2, R2, s2, r2⟩ := n4.froze R1 n3 n1 ed
    exact k _ _ I2 own2 H1 v R2 (s1.trans s2) (.fz r2) q
  cases x with
  | d d => exact k _ ρ1 I1 own1 H1 v R1 s1 (.fz r1) q
  | v j => exact tree q
  | pl j π p => exact tree q⟩
theorem e_ofB {ρ : DEnv} {Q : DK} : dOfB ta ρ Q = ta ρ fun x ρ1 => (match x with
  | .d d => Q (.fz d) ρ1
  | x => ndK ρ1 x fun i π o c => toDK c fun d => chK ρ1 i π o (.fz d) fun ρ2 => Q (.fz d) ρ2) := rfl
end
end DL

set_option Elab.async false
set_option linter.all false
set_option maxRecDepth 100000
set_option maxHeartbeats 4000000
namespace DL
open PySem PySem.Spec L2
open PyProof.Rows hiding St
section
variable {X : Cx} {L : List Nat} {pos : Pos}
/-- addresses that nobody has -/
def Free (F : Fx) (I : Hp) (own : Addr → Option Nat) (H : Hp) (f : List Addr) : Prop := ∀ a ∈ f, I a = none ∧ own a = none ∧ F.H0 a = none ∧ H a ≠ none
theorem Free.stay {F : Fx} {ρ' : DEnv} {I I' : Hp} {own own' : Addr → Option Nat} {σ' : St} {H H' : Hp} {f : List Addr} (fo : FOk F L) (h : Free F I own H f) (R' : Rel (F.re I H own) ρ' I' own' σ' H') : Free F I' own' H' f ∧ ∀ a ∈ f, H' a = H a := by
  have key : ∀ a ∈ f, H' a = H a ∧ own' a = none ∧ I' a = none := fun a m => by
    obtain ⟨i1, i2, i3, i4⟩ := h a m
    cases e : H a with
    | none => exact absurd e i4
    | some o =>
      obtain ⟨e1, e2, e3⟩ := R'.stays fo e i2 i1 i3
      exact ⟨e1, e2, e3⟩
  refine ⟨fun a m => ?_, fun a m => (key a m).1⟩
  obtain ⟨k1, k2, k3⟩ := key a m
  exact ⟨k3, k2, (h a m).2.2.1, by rw [k1]; exact (h a m).2.2.2⟩
theorem Free.apart {F : Fx} {I I' : Hp} {own own' : Addr → Option Nat} {H H' : Hp} {f g : List Addr} (h : Free F I own H f) (h' : Free (F.re I H own) I' own' H' g) : ∀ a ∈ g, a ∉ f := fun a m m2 => by
  obtain ⟨_, i2, _, i4⟩ := h a m2
  have := (h' a m).2.2.1
  rw [re_own i2] at this
  exact i4 this
theorem Free.un {F : Fx} {ρ : DEnv} {I I' : Hp} {own own' : Addr → Option Nat} {σ : St} {H H' : Hp} {g : List Addr} (R : Rel F ρ I own σ H) (h' : Free (F.re I H own) I' own' H' g) : Free F I' own' H' g := fun a m =>
  ⟨(h' a m).1, (h' a m).2.1, re_none R (h' a m).2.2.1, (h' a m).2.2.2⟩
def dLcO (it : DTI) (g : DTG) (tt : DTT) (te : DTE) (vs : List Nat) : DTE := fun ρ Q => it ρ fun ds ρ1 => ∃ Inv : Nat → List OV → DEnv → Prop, Inv 0 [] (wipeD ρ1 vs) ∧
  (∀ i d acc ρ, ds[i]? = some d → acc.length ≤ i → Inv i acc ρ → g d ρ fun ρ2 => tt ρ2 fun b ρ3 => if b = true then te ρ3 fun s ρ4 => ovOf s fun x => acc.length < sizeLine ∧ Inv (i + 1) (acc ++ [x]) (wipeD ρ4 vs) else Inv (i + 1) acc (wipeD ρ3 vs)) ∧
  ∀ acc ρ, Inv ds.length acc ρ → Q (.ov (.lst none acc)) ρ
theorem se_lcO {js vs : List Nat} {wi : TI} {it : DTI} {g : TG} {gd : DTG} {ut : TT} {tt : DTT} {ue : TE} {te : DTE} (hi : SI L wi it) (hg : SG L js g gd) (hjs : ∀ j ∈ js, j ∈ vs) (hL : ∀ v ∈ vs, v ∉ L) (ht : ST L ut tt) (he : SE L ue te) : SE L (tLc wi g ut ue vs) (dLcO it gd tt te vs) := fun F ρ I own σ H Qd Q fo R h k =>
  hi F ρ I own σ H _ _ fo R h fun ds ρ1 I1 own1 H1 J R1 s1 ok h1 => by
    obtain ⟨Inv, h0, step, hend⟩ := h1
    intro P hP
    have wl : (L2.wipe σ vs).length = σ.length := L2.wipe_length σ vs
    have wk : ∀ i, i ∉ vs → (wipe σ vs)[i]? = σ[i]? := fun i hi => wipe_eq hi
    obtain ⟨n1, n2, n3⟩ := R1.fresh hP
    have R1' : Rel F (wipeD ρ1 vs) I1 own1 (wipe σ vs) (upd H1 P (.lst [])) := (R1.laid hP).wipe fo hL wl wk
    refine ⟨fun i m H => i + m = ds.length ∧ ∃ ρ I' own acc vacc f, Rel F ρ I' own (wipe σ vs) H ∧ Sub I1 I' ∧ H P = some (.lst vacc) ∧ OvL I' H vacc acc f ∧ (P :: f).Nodup ∧ Free F I' own H (P :: f) ∧ acc.length ≤ i ∧ Inv i acc ρ,
      ⟨ds.length, by omega, wipeD ρ1 vs, I1, own1, [], [], [], R1', Sub.refl _, upd_same, .nil, by simp, fun a m => ?_, Nat.le_refl _, h0⟩, ?_⟩
    · rw [List.mem_singleton] at m; subst m
      exact ⟨n1, n2, n3, by rw [upd_same]; exact fun y => nomatch y⟩
    rintro i m H2 ⟨em, ρ2, I2, own2, acc, vacc, f, R2, s2, hP2, ra, nd, fr, la, q2⟩
    cases m with
    | zero =>
      have ei : i = ds.length := by omega
      subst ei
      refine .inl ⟨(ok _ I2 H2 s2 R2.sub).2 (Nat.le_refl _), ?_⟩
      have R3 : Rel F ρ2 I2 own2 σ H2 := by
        refine ⟨R2.sub, R2.frame, R2.there, R2.imm, R2.new, R2.live, R2.inew, R2.i0, fun j w e => ?_, by rw [← wl]; exact R2.len, fun j => ?_⟩
        · have := R2.fix j w e
          exact (L2.wipe_some this).1
        · rcases R2.slots j with z | ⟨w, z, q⟩
          · exact .inl z
          · exact .inr ⟨w, (L2.wipe_some z).1, q⟩
      have ro : ResOk F I2 own2 H2 (.ref P) (.ov (.lst none acc)) := ⟨fun a => a ∈ P :: f, fun a e => fr a e, P :: f, .lst (Pin.none P) hP2 ra, nd, fun a m => m⟩
      exact k _ ρ2 I2 own2 H2 _ R3 (s1.trans s2) ro (hend acc ρ2 q2)
    | succ m =>
      have e : ds[i]? = some (ds[i]'(by omega)) := List.getElem?_eq_getElem (by omega)
      refine .inr ⟨((ok i I2 H2 s2 R2.sub).1 _ e).1, fun H' => i + 1 + m = ds.length ∧ ∃ ρ I' own acc vacc f, Rel F ρ I' own (wipe σ vs) H' ∧ Sub I1 I' ∧ H' P = some (.lst vacc) ∧ OvL I' H' vacc acc f ∧ (P :: f).Nodup ∧ Free F I' own H' (P :: f) ∧ acc.length ≤ i + 1 ∧ Inv (i + 1) acc ρ, fun H' q => ⟨m, by omega, q⟩, fun x H' y => ?_⟩
      have Rb := R2.rebase
      have fb := fo.re R2
      obtain ⟨I3, R3, s3, r3⟩ := ItOk.step (F := F.re I2 H2 own2) (fun i I' H sI sH => ok i I' H sI sH) s2 Rb e y
      refine hg.run _ ρ2 I3 own2 (wipe σ vs) H' _ x _ _ fb R3 r3 (step i _ acc ρ2 e la q2) fun ρ4 own4 σ4 R4 l4 k4 q4 => ?_
      have w4 : wipe σ4 vs = wipe σ vs := wipe_same l4 k4 hjs
      have k4' : ∀ j, j ∉ vs → (wipe σ vs)[j]? = σ4[j]? := fun j hj => (k4 j (fun z => hj (hjs j z))).symm
      refine ⟨w4, ht _ ρ4 I3 own4 σ4 H' _ _ fb R4 q4 fun b ρ5 I5 own5 H5 R5 s5 q5 => ?_⟩
      cases b with
      | true =>
        rw [if_pos rfl] at q5 ⊢
        refine he _ ρ5 I5 own5 σ4 H5 _ _ fb R5 q5 fun s ρ6 I6 own6 H6 w R6 s6 r6 q6 => ?_
        obtain ⟨t, gt, q6, t1, t2, t3⟩ := r6.tree q6
        obtain ⟨hl, q6⟩ := q6
        have t3' : Free (F.re I2 H2 own2) I6 own6 H6 gt := t3
        obtain ⟨fr6, st6⟩ := fr.stay fo R6
        have ap := fr.apart t3'
        have t3 := t3'.un R2
        have s26 : Sub I2 I6 := (s3.trans s5).trans s6
        have hP6 : H6 P = some (.lst vacc) := (st6 P List.mem_cons_self).trans hP2
        rw [List.nodup_cons] at nd
        have u1 : ∀ a ∈ f, upd H6 P (.lst (vacc ++ [w])) a = H2 a := fun a m => (upd_ne (fun e => by subst e; exact nd.1 m)).trans (st6 a (List.mem_cons_of_mem _ m))
        have u2 : ∀ a ∈ gt, upd H6 P (.lst (vacc ++ [w])) a = H6 a := fun a m => upd_ne (fun e => ap a m (e ▸ List.mem_cons_self))
        refine ⟨vacc, hP6, by rw [ra.len]; exact hl, by omega, wipeD ρ6 vs, I6, own6, acc ++ [t], vacc ++ [w], f ++ gt, ?_, s2.trans s26, upd_same, ovl_snoc (t1.frame (Sub.refl _) u2) (ra.frame s26 u1), ?_, fun a m => ?_, by simp; omega, q6⟩
        · have R8 : Rel F ρ6 I6 own6 σ4 H6 := R2.unbase R6
          obtain ⟨e3, e2, n3', _⟩ := fr6 P List.mem_cons_self
          have R9 : Rel F ρ6 I6 own6 σ4 (upd H6 P (.lst (vacc ++ [w]))) := by
            have ok' : ∀ a, H6 a ≠ none → upd H6 P (.lst (vacc ++ [w])) a ≠ none := fun a z => by
              by_cases e : a = P
              · subst e; rw [upd_same]; exact fun y => nomatch y
              · rw [upd_ne e]; exact z
            refine ⟨fun a o e => ?_, fun a o e m => ?_, fun a z => ok' a (R8.there a z), R8.imm, R8.new, fun a z => ok' a (R8.live a z), R8.inew, R8.i0, R8.fix, R8.len, fun j => ?_⟩
            · rw [upd_ne (fun z => by subst z; rw [e3] at e; cases e)]; exact R8.sub a o e
            · rw [upd_ne (fun z => by subst z; rw [n3] at e; cases e)]; exact R8.frame a o e m
            · rcases R8.slots j with z | ⟨w', z, q⟩
              · exact .inl z
              · exact .inr ⟨w', z, q.frame (fun _ z => z) (Sub.refl _) fun a z => upd_ne fun y => by subst y; rw [e2] at z; cases z⟩
          exact R9.wipe fo hL l4.symm k4'
        · rw [List.nodup_cons, List.nodup_append]
          refine ⟨fun m => ?_, nd.2, t2, fun a m b m2 e => ?_⟩
          · rcases List.mem_append.mp m with m | m
            · exact nd.1 m
            · exact ap P m List.mem_cons_self
          · subst e; exact ap a m2 (List.mem_cons_of_mem _ m)
        · have l6 : ∀ {a}, H6 a ≠ none → upd H6 P (.lst (vacc ++ [w])) a ≠ none := fun {a} z => by
            by_cases e : a = P
            · subst e; rw [upd_same]; exact fun y => nomatch y
            · rw [upd_ne e]; exact z
          have both : Free F I6 own6 H6 (P :: f ++ gt) := fun a m => by
            rcases List.mem_append.mp m with m | m
            · exact fr6 a m
            · exact t3 a m
          obtain ⟨b1, b2, b3, b4⟩ := both a m
          exact ⟨b1, b2, b3, l6 b4⟩
      | false =>
        rw [if_neg Bool.false_ne_true] at q5 ⊢
        obtain ⟨fr5, st5⟩ := fr.stay fo R5
        have s25 : Sub I2 I5 := s3.trans s5
        exact ⟨by omega, wipeD ρ5 vs, I5, own5, acc, vacc, f, (R2.unbase R5).wipe fo hL l4.symm k4', s2.trans s25, (st5 P List.mem_cons_self).trans hP2, ra.frame s25 (fun a m => st5 a (List.mem_cons_of_mem _ m)), nd, fr5, by omega, q5⟩
theorem de_lcO {elt tg iter : Expr} {ifs : List Expr} {scope : Scope} {own : List (Str × Nat)} {pos : Pos} {wi : TI} {it : DTI} {g : TG} {gd : DTG} {ut : TT} {tt : DTT} {ue : TE} {te : DTE} {js : List Nat} (hc : X.calm = true) (hN : X.N.Nodup) (hi : DI X L tg iter wi it) (ok : BlkOk X.N X.env.scope scope own)
    (hg : ∀ (s : Shared) (H : Hp) (C : Addr) (cl : List (Str × Addr)) (fp : List Addr), DG (X.blk s H scope (compEnvC scope cl C X.env) fp) L js tg g gd) (ht : ∀ (s : Shared) (H : Hp) (C : Addr) (cl : List (Str × Addr)) (fp : List Addr), DTs (X.blk s H scope (compEnvC scope cl C X.env) fp) L ifs ut tt)
    (he : ∀ (s : Shared) (H : Hp) (C : Addr) (cl : List (Str × Addr)) (fp : List Addr), DE (X.blk s H scope (compEnvC scope cl C X.env) fp) L elt ue te) (hjs : ∀ j ∈ js, j ∈ own.map (·.2) := by decide) (hL : ∀ v ∈ own.map (·.2), v ∉ L := by decide) (hs : ∀ x, foldedSetIterable iter X.env x = pure x := by intro _; rfl) :
    DE X L (.ListComp elt [⟨tg, iter, ifs, 0⟩] scope pos) (tLc wi g ut ue (own.map (·.2))) (dLcO it gd tt te (own.map (·.2))) :=
  ⟨pe_lc hc hN hi.pi ok (fun s H C cl fp => (hg s H C cl fp).pg) (fun s H C cl fp => (ht s H C cl fp).pt) (fun s H C cl fp => (he s H C cl fp).pe) hs,
   se_lcO hi.snd (hg X.s_0 X.H_0 0 [] []).snd hjs hL (ht X.s_0 X.H_0 0 [] []).snd (he X.s_0 X.H_0 0 [] []).snd⟩
theorem ds_setLcO (i : Nat) {y : Str} {py : Pos} {elt tg iter : Expr} {ifs : List Expr} {scope : Scope} {own : List (Str × Nat)} {pos spos : Pos} {wi : TI} {it : DTI} {g : TG} {gd : DTG} {ut : TT} {tt : DTT} {ue : TE} {te : DTE} {js : List Nat} (hc : X.calm = true) (hN : X.N.Nodup)
    (hsw : swapsWith (.ListComp elt [⟨tg, iter, ifs, 0⟩] scope pos) (some (.Name y py)) spos.line X.env = pure true) (hi : DI X L tg iter wi it) (ok : BlkOk X.N X.env.scope scope own)
    (hg : ∀ (s : Shared) (H : Hp) (C : Addr) (cl : List (Str × Addr)) (fp : List Addr), DG (X.blk s H scope (compEnvC scope cl C X.env) fp) L js tg g gd) (ht : ∀ (s : Shared) (H : Hp) (C : Addr) (cl : List (Str × Addr)) (fp : List Addr), DTs (X.blk s H scope (compEnvC scope cl C X.env) fp) L ifs ut tt)
    (he : ∀ (s : Shared) (H : Hp) (C : Addr) (cl : List (Str × Addr)) (fp : List Addr), DE (X.blk s H scope (compEnvC scope cl C X.env) fp) L elt ue te) (hLi : i ∉ L := by decide) (hy : X.N[i]? = some y := by rfl) (hyl : X.env.scope.names.lookup y = some .local := by rfl) (hjs : ∀ j ∈ js, j ∈ own.map (·.2) := by decide) (hL : ∀ v ∈ own.map (·.2), v ∉ L := by decide) (hs : ∀ x, foldedSetIterable iter X.env x = pure x := by intro _; rfl) :
    DS X L (.Assign [.Name y py] (.ListComp elt [⟨tg, iter, ifs, 0⟩] scope pos) spos) (tAsg (tLc wi g ut ue (own.map (·.2))) (gName i)) (dSet i (dLcO it gd tt te (own.map (·.2)))) :=
  ⟨ps_setLc hc hN hy hyl hsw hi.pi ok (fun s H C cl fp => (hg s H C cl fp).pg) (fun s H C cl fp => (ht s H C cl fp).pt) (fun s H C cl fp => (he s H C cl fp).pe) hs,
   ss_set hLi (se_lcO hi.snd (hg X.s_0 X.H_0 0 [] []).snd hjs hL (ht X.s_0 X.H_0 0 [] []).snd (he X.s_0 X.H_0 0 [] []).snd)⟩
/-- for the evaluation -/
def LCO (g : DTG) (tt : DTT) (te : DTE) (vs : List Nat) (ds : List D) (ρ0 : DEnv) (Q : Slot → DEnv → Prop) : Prop := ∃ Inv : Nat → List OV → DEnv → Prop, Inv 0 [] ρ0 ∧
  (∀ i d acc ρ, ds[i]? = some d → acc.length ≤ i → Inv i acc ρ → g d ρ fun ρ2 => tt ρ2 fun b ρ3 => if b = true then te ρ3 fun s ρ4 => ovOf s fun x => acc.length < sizeLine ∧ Inv (i + 1) (acc ++ [x]) (wipeD ρ4 vs) else Inv (i + 1) acc (wipeD ρ3 vs)) ∧
  ∀ acc ρ, Inv ds.length acc ρ → Q (.ov (.lst none acc)) ρ
theorem e_lcO {it : DTI} {g : DTG} {tt : DTT} {te : DTE} {vs : List Nat} {ρ : DEnv} {Q : DK} : dLcO it g tt te vs ρ Q = it ρ fun ds ρ1 => wipeK ρ1 vs fun ρ0 => LCO g tt te vs ds ρ0 Q := rfl
theorem LCO.all {α : Type} {g : DTG} {tt : DTT} {te : DTE} {vs : List Nat} {Q : Slot → DEnv → Prop} {ρ0 : DEnv} {xs : List α} (c : α → D) (f : α → OV) (hl : xs.length ≤ sizeLine)
    (h : ∀ x ∈ xs, ∀ (Kt : OV → DEnv → Prop) (Kf : DEnv → Prop), (∀ ρ4, wipeD ρ4 vs = ρ0 → Kt (f x) ρ4) → g (c x) ρ0 fun ρ2 => tt ρ2 fun b ρ3 => if b = true then te ρ3 fun s ρ4 => ovOf s fun x => Kt x ρ4 else Kf ρ3)
    (hQ : Q (.ov (.lst none (xs.map f))) ρ0) : LCO g tt te vs (xs.map c) ρ0 Q := by
  refine ⟨fun i acc ρ => ρ = ρ0 ∧ acc = (xs.take i).map f, ⟨rfl, by simp⟩, ?_, ?_⟩
  · rintro i d acc ρ e hi ⟨rfl, rfl⟩
    rw [List.getElem?_map, Option.map_eq_some_iff] at e
    obtain ⟨x, e, rfl⟩ := e
    obtain ⟨hlt, ed⟩ := List.getElem?_eq_some_iff.mp e
    have et : xs.take (i + 1) = xs.take i ++ [x] := by rw [List.take_succ, e]; rfl
    exact h x (List.mem_of_getElem? e) _ _ fun ρ4 e2 => ⟨by simp at hi ⊢; omega, e2, by rw [et]; simp⟩
  · rintro acc ρ ⟨rfl, rfl⟩
    rw [List.length_map, List.take_length]
    exact hQ

def SO (L : List Nat) (u : TA) (t : DEnv → (List OV → DEnv → Prop) → Prop) : Prop := ∀ F ρ I own σ H Qd Q, FOk F L → Rel F ρ I own σ H → t ρ Qd →
  (∀ xs ρ' I' own' H' vs f, Rel F ρ' I' own' σ H' → Sub I I' → OvL I' H' vs xs f → f.Nodup → Free F I' own' H' f → Qd xs ρ' → Q vs H') → u σ H Q
structure DOs (X : Cx) (L : List Nat) (es : List Expr) (u : TA) (t : DEnv → (List OV → DEnv → Prop) → Prop) : Prop where
  pa : PA X es u
  snd : SO L u t
variable {e : Expr} {es : List Expr} {ue : TE} {te : DTE} {us : TA} {ts : DEnv → (List OV → DEnv → Prop) → Prop}
def oNil : DEnv → (List OV → DEnv → Prop) → Prop := fun ρ Q => Q [] ρ
def oCons (t : DTE) (r : DEnv → (List OV → DEnv → Prop) → Prop) : DEnv → (List OV → DEnv → Prop) → Prop := fun ρ Q => t ρ fun s ρ1 => ovOf s fun x => r ρ1 fun xs ρ2 => Q (x :: xs) ρ2
theorem dos_nil : DOs X L [] tNil oNil := ⟨pa_nil, fun F ρ I own σ H Qd Q _ R h k => k [] ρ I own H [] [] R (Sub.refl _) .nil List.nodup_nil (fun a m => nomatch m) h⟩
theorem ovOf_mono {s : Slot} {k k' : OV → Prop} (hk : ∀ x, k x → k' x) (h : ovOf s k) : ovOf s k' := by
  cases s with
  | un => exact h
  | ob _ => exact h
  | _ => exact hk _ h
theorem dos_cons (he : DE X L e ue te) (hr : DOs X L es us ts) (hs : starEach (e :: es) X.env = (false, eval e X.env) :: starEach es X.env := by rfl) : DOs X L (e :: es) (tCons ue us) (oCons te ts) :=
  ⟨pa_cons he.pe hr.pa hs, fun F ρ I own σ H Qd Q fo R h k => he.snd F ρ I own σ H _ _ fo R h fun s ρ1 I1 own1 H1 v R1 s1 r1 h1 => by
    obtain ⟨x, gx, h1, t1, t2, t3⟩ := r1.tree h1
    have t3 : Free F I1 own1 H1 gx := t3
    refine hr.snd (F.re I1 H1 own1) ρ1 I1 own1 σ H1 _ _ (fo.re R1) R1.rebase h1 fun xs ρ2 I2 own2 H2 vs f R2 s2 r2 nd fr q => ?_
    obtain ⟨fr2, st2⟩ := t3.stay fo R2
    refine k (x :: xs) ρ2 I2 own2 H2 (v :: vs) (gx ++ f) (R1.unbase R2) (s1.trans s2) (.cons (t1.frame s2 st2) r2) ?_ (fun a m => ?_) q
    · rw [List.nodup_append]
      exact ⟨t2, nd, fun a m b m2 e => by subst e; exact t3.apart fr a m2 m⟩
    · rcases List.mem_append.mp m with m | m
      · exact fr2 a m
      · exact fr.un R1 a m⟩
def dLstO (t : DEnv → (List OV → DEnv → Prop) → Prop) : DTE := fun ρ Q => t ρ fun xs ρ1 => xs.length ≤ sizeLine ∧ Q (.ov (.lst none xs)) ρ1
theorem de_lstO (h : DOs X L es us ts) : DE X L (.List es pos) (tLst us) (dLstO ts) := ⟨pe_lst h.pa, fun F ρ I own σ H Qd Q fo R q k =>
  h.snd F ρ I own σ H _ _ fo R q fun xs ρ1 I1 own1 H1 vs f R1 s1 r1 nd fr h1 => by
    refine ⟨by rw [r1.len]; exact h1.1, fun p hp => ?_⟩
    obtain ⟨n1, n2, n3⟩ := R1.fresh hp
    have np : p ∉ f := fun m => (fr p m).2.2.2 hp
    have ok : ∀ a, H1 a ≠ none → upd H1 p (.lst vs) a ≠ none := fun a z => by
      by_cases e : a = p
      · subst e; rw [upd_same]; exact fun y => nomatch y
      · rw [upd_ne e]; exact z
    have ro : ResOk F I1 own1 (upd H1 p (.lst vs)) (.ref p) (.ov (.lst none xs)) := by
      refine ⟨fun a => a ∈ p :: f, fun a m => ?_, p :: f, .lst (Pin.none p) upd_same (r1.frame (Sub.refl _) fun a m => upd_ne fun e => by subst e; exact np m), List.nodup_cons.mpr ⟨np, nd⟩, fun a m => m⟩
      rcases List.mem_cons.mp m with e | m
      · subst e; exact ⟨n1, n2, n3, by rw [upd_same]; exact fun y => nomatch y⟩
      · exact ⟨(fr a m).1, (fr a m).2.1, (fr a m).2.2.1, ok a (fr a m).2.2.2⟩
    exact k _ ρ1 I1 own1 _ _ (R1.laid hp) s1 ro h1.2⟩
theorem OvL.drop {I H : Hp} : ∀ (n : Nat) {vs : List V} {xs : List OV} {f : List Addr}, OvL I H vs xs f → ∃ f', OvL I H (vs.drop n) (xs.drop n) f' ∧ f'.Sublist f
  | 0, _, _, f, h => ⟨f, h, List.Sublist.refl _⟩
  | _ + 1, _, _, _, .nil => ⟨[], .nil, List.Sublist.refl _⟩
  | n + 1, _, _, _, .cons _ r => by
    obtain ⟨f', h1, h2⟩ := OvL.drop n r
    exact ⟨f', h1, h2.trans (List.sublist_append_right _ _)⟩
theorem OvL.take {I H : Hp} : ∀ (n : Nat) {vs : List V} {xs : List OV} {f : List Addr}, OvL I H vs xs f → ∃ f', OvL I H (vs.take n) (xs.take n) f' ∧ f'.Sublist f
  | 0, _, _, _, _ => ⟨[], .nil, List.nil_sublist _⟩
  | _ + 1, _, _, _, .nil => ⟨[], .nil, List.Sublist.refl _⟩
  | n + 1, _, _, _, .cons h r => by
    obtain ⟨f', h1, h2⟩ := OvL.take n r
    exact ⟨_, .cons h h1, List.Sublist.append_left h2 _⟩
def dSlO (t : DTE) (tl th : DEnv → (Option Int → DEnv → Prop) → Prop) : DTE := fun ρ Q => t ρ fun s ρ1 => ovOf s fun x => olK x fun _ xs => tl ρ1 fun l ρ2 => th ρ2 fun h ρ3 => Q (.ov (.lst none (cutD xs l h))) ρ3
theorem de_sliceO {lo hi : Option Expr} {ul uh : TO} {tl th : DEnv → (Option Int → DEnv → Prop) → Prop} {p2 : Pos} (ha : DE X L e ue te) (hl : DO X L lo ul tl) (hh : DO X L hi uh th) :
    DE X L (.Subscript e (.Slice lo hi none p2) pos) (tSl (rSlL X.K) ue ul uh) (dSlO te tl th) :=
  ⟨pe_slice sl_list ha.pe hl.pe hh.pe, fun F ρ I own σ H Qd Q fo R h k => ha.snd F ρ I own σ H _ _ fo R h fun s ρ1 I1 own1 H1 v R1 s1 r1 h1 => by
    obtain ⟨x, gx, h1, t1, t2, t3⟩ := r1.tree h1
    have t3 : Free F I1 own1 H1 gx := t3
    obtain ⟨l0, xs, rfl, h1⟩ := ol_elim h1
    refine hl.snd (F.re I1 H1 own1) ρ1 I1 own1 σ H1 _ _ (fo.re R1) R1.rebase h1 fun l ρ2 I2 own2 H2 R2 s2 h2 => ?_
    obtain ⟨fr2, st2⟩ := t3.stay fo R2
    have t1' := t1.frame s2 st2
    have R2' := R1.unbase R2
    refine hh.snd (F.re I2 H2 own2) ρ2 I2 own2 σ H2 _ _ (fo.re R2') R2'.rebase h2 fun hh ρ3 I3 own3 H3 R3 s3 h3 => ?_
    obtain ⟨fr3, st3⟩ := fr2.stay fo R3
    have t1'' := t1'.frame s3 st3
    have R3' := R2'.unbase R3
    cases t1'' with
    | @lst _ p vs _ f pn hp rl =>
      refine ⟨p, vs, rfl, .of hp, fun q hq => ?_⟩
      obtain ⟨f1, d1, d2⟩ := rl.drop (HT.sIx xs.length 0 l)
      obtain ⟨f2, d3, d4⟩ := d1.take (HT.sIx xs.length xs.length hh - HT.sIx xs.length 0 l)
      have sl : f2.Sublist f := d4.trans d2
      rw [List.nodup_cons] at t2
      obtain ⟨n1, n2, n3⟩ := R3'.fresh hq
      have nq : q ∉ f2 := fun m => (fr3 q (List.mem_cons_of_mem _ (sl.subset m))).2.2.2 hq
      have ok : ∀ a, H3 a ≠ none → upd H3 q (.lst (cutV vs l hh)) a ≠ none := fun a z => by
        by_cases e : a = q
        · subst e; rw [upd_same]; exact fun y => nomatch y
        · rw [upd_ne e]; exact z
      have ec : cutV vs l hh = (vs.drop (HT.sIx xs.length 0 l)).take (HT.sIx xs.length xs.length hh - HT.sIx xs.length 0 l) := by unfold cutV; rw [rl.len]
      suffices ro : ResOk F I3 own3 (upd H3 q (.lst (cutV vs l hh))) (.ref q) (.ov (.lst none (cutD xs l hh))) from k _ ρ3 I3 own3 _ _ (R3'.laid hq) ((s1.trans s2).trans s3) ro h3
      refine ⟨fun a => a ∈ q :: f2, fun a m => ?_, q :: f2, .lst (Pin.none q) upd_same ?_, List.nodup_cons.mpr ⟨nq, sl.nodup t2.2⟩, fun a m => m⟩
      · rcases List.mem_cons.mp m with e | m
        · subst e; exact ⟨n1, n2, n3, by rw [upd_same]; exact fun y => nomatch y⟩
        · obtain ⟨b1, b2, b3, b4⟩ := fr3 a (List.mem_cons_of_mem _ (sl.subset m))
          exact ⟨b1, b2, b3, ok a b4⟩
      · rw [ec]
        exact d3.frame (Sub.refl _) fun a m => upd_ne fun e => by subst e; exact nq m⟩
end
end DL

set_option Elab.async false
set_option linter.all false
set_option maxRecDepth 100000
set_option maxHeartbeats 4000000
namespace DL
open PySem PySem.Spec L2
open PyProof.Rows hiding St
/-- sorted(d), the keys whole numbers, any number of them -/
def rSortD : List V → Hp → VK → Prop := fun xs H Q => ∃ (a : Addr) (kvs : List (Key × V)) (ks : List Int), xs = [.ref a] ∧ Rd H a (.dK kvs) ∧ kvs.map (·.1) = ks.map Sum.inl ∧ ∀ (ys : List Int) (p : Addr), ys.Perm ks → ys.Pairwise (· ≤ ·) → H p = none → Q (.ref p) (upd H p (.lst (ys.map V.int)))
theorem cr_sortD {X : Cx} (hcalm : X.calm = true) : CallR X (.builtin "sorted") rSortD := by
  intro pins s σ H xs us Q I r q; obtain ⟨a, kvs, ks, ex, hd, hks, q⟩ := q
  subst ex; obtain ⟨u, eu, rx⟩ := vals1 r
  subst eu; cases rx
  obtain ⟨z, lo, vs, rel, dd⟩ := dk_rd I.hok hd; obtain ⟨ep, hat⟩ := dd.dictAt
  have hkeys : vs.map (·.1) = ks.map Sum.inl := (rel.keys.symm.trans hks)
  have hl : vs.length = ks.length := by have e := congrArg List.length hkeys; rwa [List.length_map, List.length_map] at e
  have h16 : vs.length ≤ sizeLine := by rw [← rel.length]; exact z
  refine Calls.call_function_entry PyProof.Rows.kind_sorted PyProof.Rows.plain_sorted PyProof.Rows.entry_sorted (PyProof.Rows.args_sorted1 _) ?_; unfold Builtin.«sorted»
  refine wpAny_bind (m := checkCount "sorted" 1 1 _) (wpAny_pure ?_); refine wpAny_bind (PySem.W.kdu_collect (A := X.A.in1) (PySem.W.kdl_dict (knd := mixKind X.prog X.w) (kvs := vs) (ep := ep) lo) (I.ok.hd hcalm) hat h16 fun h' tk acc hk hacc => ?_)
  have hal : acc.toList.length = ks.length := by rw [Array.length_toList, hacc.1]; exact hl
  have hS : IntsAre acc.toList ks := by
    refine ints_each hal fun j v e => ?_
    obtain ⟨k, x, e1, e2⟩ := hacc.2 j v (by rw [← Array.getElem?_toList]; exact e); have e3 : (vs.map (·.1))[j]? = some k := (by rw [List.getElem?_map, e1]; rfl)
    rw [hkeys, List.getElem?_map] at e3; cases e4 : ks[j]? with
    | none => rw [e4] at e3; cases e3
    | some y =>
      rw [e4] at e3; have e5 : Sum.inl y = k := Option.some.inj e3
      subst e5; rcases keyIs_shape (show keyIs (Sum.inl y) v = true from e2) with ⟨i, t, ek, ev⟩ | ⟨z, t, ek, ev⟩
      · cases ek; exact ⟨y, t, rfl, ev⟩
      · cases ek
  have I1 : Inv X pins σ H { s with heap := h', toks := tk } := I.kept hk
  have hz : acc.toList.length ≤ sizeLine := by rw [hal, ← hl]; exact h16
  refine wpAny_bind (wpAny_newList ?_ hz)
  have hoL : (h'.push (seqObj "list" acc.toList.toArray 0)).get? h'.objs.size = some (seqObj "list" acc.toList.toArray 0) := by exact Heap.get?_push_size _ rfl
  show wpAny _ _ _ _ _ { s with heap := h'.push (seqObj "list" acc.toList.toArray 0), toks := tk }; refine wpAny_bind (wpAny_holding (wpAny_call_entry PyProof.Rows.slot_list_sort ⟨_, hoL, rfl⟩ PyProof.Rows.entry_list_sort
    (SrtO.list_sort_ord (s := { s with heap := h'.push (seqObj "list" acc.toList.toArray 0), toks := tk }) SrtO.swo_int hoL hz (fun h2 => SrtO.ints_sortable hS h2) fun out h1 h2 => ⟨_, rfl, ?_⟩) (PyProof.Rows.args_list_sort _)))
  obtain ⟨g1, g2, g3⟩ := SrtO.ints_out hS h1 h2; obtain ⟨e', he'⟩ := PyProof.Rows.sortedHeap_at (vs := acc.toList) (out := out.toArray) hoL
  have hlen : ((out.map SrtO.iv).map V.int).length ≤ sizeLine := by rw [List.length_map, g2.length_eq, ← hal]; exact hz
  refine wpAny_pure ⟨_, rfl, .ref h'.objs.size, upd H h'.objs.size (.lst ((out.map SrtO.iv).map V.int)), I1.laid (t' := tk) (fun b u e => ?_) (Nat.le_refl _) (show ObjOk X.prog X.w _ _ _ (.lst ((out.map SrtO.iv).map V.int)) from ⟨hlen, out, e', vals_of_ints g1, he'⟩), rfl, q _ _ g2 g3 (I1.hok.fresh (Nat.le_refl _))⟩
  have hb : b < h'.objs.size := (Heap.lt_size e)
  rw [PyProof.Rows.sortedHeap_old (Nat.ne_of_lt hb) (by rw [size_push']; exact Nat.lt_succ_of_lt hb)]; exact Heap.get?_push_of_some _ e

def SndK (r : List V → Hp → VK → Prop) (rd : List (Key × D) → (Slot → Prop) → Prop) : Prop := ∀ F ρ I own σ H p ws kvs Qs Q, Rel F ρ I own σ H → H p = some (.dK ws) → RepK I ws kvs → rd kvs Qs →
  (∀ s I' H' z, Rel F ρ I' own σ H' → Sub I I' → ResOk F I' own H' z s → Qs s → Q z H') → r [.ref p] H Q
abbrev RK := List (Key × D) → (Slot → Prop) → Prop
def dCallK (rd : RK) (ta : DTB) : DTE := fun ρ Q => ta ρ fun x ρ1 => ndK ρ1 x fun _ _ _ c => dctK c fun _ kvs => rd kvs fun s => Q s ρ1
def dCallN (rd : RK) (te : DTE) : DTE := fun ρ Q => te ρ fun s ρ1 => ovOf s fun c => dctK c fun _ kvs => rd kvs fun s => Q s ρ1
section
variable {X : Cx} {L : List Nat} {a : Expr} {ua : TE} {ta : DTB} {te : DTE} {pos p : Pos} {x : Str} {r : List V → Hp → VK → Prop} {rd : RK}
theorem se_callK (hr : SndK r rd) (ha : SB L ua ta) : SE L (tCB r (tCons ua tNil)) (dCallK rd ta) := fun F ρ I own σ H Qd Q fo R h k => ha F ρ I own σ H _ _ fo R h fun x ρ1 I1 own1 H1 v R1 s1 r1 q => by
  obtain ⟨i, π, o, c, en, q⟩ := node_elim2 q
  obtain ⟨l, kvs, rfl, q⟩ := dct_elim q
  obtain ⟨g, n1, _⟩ := R1.node r1 en
  cases n1 with
  | dct pn hp rk => exact hr F ρ1 I1 own1 σ H1 _ _ _ _ Q R1 hp rk q fun s I' H' z R' s' r' q => k s ρ1 I' own1 H' z R' (s1.trans s') r' q
theorem se_callN (hr : SndK r rd) (ha : SE L ua te) : SE L (tCB r (tCons ua tNil)) (dCallN rd te) := fun F ρ I own σ H Qd Q fo R h k => ha F ρ I own σ H _ _ fo R h fun s ρ1 I1 own1 H1 v R1 s1 r1 q => by
  obtain ⟨c, g, q, n1, _, _⟩ := r1.tree q
  obtain ⟨l, kvs, rfl, q⟩ := dct_elim q
  cases n1 with
  | dct pn hp rk => exact hr F ρ1 I1 own1 σ H1 _ _ _ _ Q R1 hp rk q fun s I' H' z R' s' r' q => k s ρ1 I' own1 H' z R' (s1.trans s') r' q
theorem de_callK {id : String} (hc : CallR X (.builtin id) r) (hr : SndK r rd) (hg : Gl X x) (hm : X.mg x = none) (hv : bootBuiltins x = some (.builtin id)) (ha : DB X L a ua ta) (hn : x ≠ "__name__" := by decide) (hdb : (x == ("__debug__" : Str)) = false := by decide)
    (he : starEach [a] X.env = (false, eval a X.env) :: starEach [] X.env := by rfl) (hpl : (backTo pos (starEach [] X.env)).any (·.1) = false := by rfl) : DE X L (.Call (.Name x p) [a] [] pos) (tCB r (tCons ua tNil)) (dCallK rd ta) := ⟨pe_callB hc hg hm hv (pa_cons ha.pe pa_nil he) hn hdb he hpl, se_callK hr ha.snd⟩
theorem de_callKT {T : String} (hc : CallR X (.type T) r) (hr : SndK r rd) (hg : Gl X x) (hm : X.mg x = none) (hv : bootBuiltins x = some (.type T)) (ha : DB X L a ua ta) (hn : x ≠ "__name__" := by decide) (hdb : (x == ("__debug__" : Str)) = false := by decide)
    (he : starEach [a] X.env = (false, eval a X.env) :: starEach [] X.env := by rfl) (hpl : (backTo pos (starEach [] X.env)).any (·.1) = false := by rfl) : DE X L (.Call (.Name x p) [a] [] pos) (tCB r (tCons ua tNil)) (dCallK rd ta) := ⟨pe_callTy hc hg hm hv (pa_cons ha.pe pa_nil he) hn hdb he hpl, se_callK hr ha.snd⟩
theorem de_callN {id : String} (hc : CallR X (.builtin id) r) (hr : SndK r rd) (hg : Gl X x) (hm : X.mg x = none) (hv : bootBuiltins x = some (.builtin id)) (ha : DE X L a ua te) (hn : x ≠ "__name__" := by decide) (hdb : (x == ("__debug__" : Str)) = false := by decide)
    (he : starEach [a] X.env = (false, eval a X.env) :: starEach [] X.env := by rfl) (hpl : (backTo pos (starEach [] X.env)).any (·.1) = false := by rfl) : DE X L (.Call (.Name x p) [a] [] pos) (tCB r (tCons ua tNil)) (dCallN rd te) := ⟨pe_callB hc hg hm hv (pa_cons ha.pe pa_nil he) hn hdb he hpl, se_callN hr ha.snd⟩
end
/-- the keys, all whole numbers -/
def intKeys : List (Key × D) → Option (List Int)
  | [] => some []
  | (.inl i, _) :: r => (intKeys r).map (i :: ·)
  | _ => none
theorem intKeys_eq : ∀ {kvs : List (Key × D)} {ks : List Int}, intKeys kvs = some ks → kvs.map (·.1) = ks.map Sum.inl
  | [], _, e => by cases e; rfl
  | (.inl i, _) :: r, _, e => by
    simp only [intKeys, Option.map_eq_some_iff] at e
    obtain ⟨ks, e, rfl⟩ := e
    simp [intKeys_eq e]
  | (.inr _, _) :: _, _, e => by cases e
def kSort : RK := fun kvs Q => opt (intKeys kvs) fun ks => Q (.lst ((srt ks).map .int))
theorem sk_sort : SndK rSortD kSort := fun F ρ I own σ H p ws kvs Qs Q R hp rk h k => by
  obtain ⟨ks, e, h⟩ := opt_elim h
  refine ⟨p, ws, ks, rfl, .inl hp, rk.keys.trans (intKeys_eq e), fun ys q hy hs hq => ?_⟩
  rw [srt_of hy hs]
  exact k _ I _ _ (R.laid hq) (Sub.refl _) (ResOk.new R hq (.ofInts _)) h
def kCopy : RK := fun kvs Q => Q (.ov (.dct none kvs))
theorem sk_copy : SndK (fun xs H Q => ∃ (a : Addr) (kvs : List (Key × V)), xs = [.ref a] ∧ Rd H a (.dK kvs) ∧ ∀ p, H p = none → Q (.ref p) (upd H p (.dK kvs))) kCopy := fun F ρ I own σ H p ws kvs Qs Q R hp rk h k =>
  ⟨p, ws, rfl, .inl hp, fun q hq => k _ I _ _ (R.laid hq) (Sub.refl _) (ResOk.newD R hq rk) h⟩
def keyD : Key → D
  | .inl i => .int i
  | .inr s => .str s
theorem repL_keys {I : Hp} : ∀ {ws : List (Key × V)} {kvs : List (Key × D)}, RepK I ws kvs → RepL I (ws.map fun kv => kV kv.1) (kvs.map fun kv => keyD kv.1)
  | _, _, .nil => .nil
  | _, _, .cons (k := k) _ r => by
    refine .cons ?_ (repL_keys r)
    cases k with
    | inl i => exact .int i
    | inr s => exact .str s
def kList : RK := fun kvs Q => Q (.lst (kvs.map fun kv => keyD kv.1))
theorem sk_list : SndK (fun xs H Q => ∃ (a : Addr) (kvs : List (Key × V)), xs = [.ref a] ∧ Rd H a (.dK kvs) ∧ ∀ p, H p = none → Q (.ref p) (upd H p (.lst (kvs.map fun kv => kV kv.1)))) kList := fun F ρ I own σ H p ws kvs Qs Q R hp rk h k =>
  ⟨p, ws, rfl, .inl hp, fun q hq => k _ I _ _ (R.laid hq) (Sub.refl _) (ResOk.new R hq (repL_keys rk)) h⟩
def kvOf : D → Option (Key × D)
  | .tuple [k, v] => (keyOf k).map fun k => (k, v)
  | _ => none
def kvsOf : List D → Option (List (Key × D))
  | [] => some []
  | x :: xs => match kvOf x, kvsOf xs with
    | some p, some ps => some (p :: ps)
    | _, _ => none
def dMerge (kvs more : List (Key × D)) : List (Key × D) := more.foldl (fun acc kv => dPut acc kv.1 kv.2) kvs
theorem RepK.merge {I : Hp} : ∀ {ms : List (Key × V)} {ns : List (Key × D)} {ws : List (Key × V)} {kvs : List (Key × D)}, RepK I ms ns → RepK I ws kvs → RepK I (mergeK ws ms) (dMerge kvs ns)
  | _, _, _, _, .nil, r => r
  | _, _, _, _, .cons (k := kk) h t, r => by
    have := RepK.merge t (r.put (k := kk) h)
    exact this
theorem kvs_rep {K : PySem.W.Frag} {I H : Hp} (s : Sub I H) : ∀ {vs : List V} {xs : List D} {ns : List (Key × D)}, RepL I vs xs → kvsOf xs = some ns → ∃ (ps : List Addr) (ms : List (Key × V)), vs = ps.map V.ref ∧ Paired (fun p kv => SqT K H p [kV kv.1, kv.2]) ps ms ∧ RepK I ms ns
  | _, _, _, .nil, e => by cases e; exact ⟨[], [], rfl, .nil, .nil⟩
  | _, _, _, .cons h r, e => by
    simp only [kvsOf] at e
    split at e
    · rename_i q qs e1 e2
      cases e
      obtain ⟨ps, ms, rfl, h2, h3⟩ := kvs_rep (K := K) s r e2
      unfold kvOf at e1
      split at e1
      · rw [Option.map_eq_some_iff] at e1
        obtain ⟨k, ek, rfl⟩ := e1
        cases h with
        | tup hp r2 =>
          cases r2 with
          | cons a1 r2 => cases r2 with
            | cons a2 r2 =>
              cases r2
              have := keyOf_rep (H := H) (.inl a1) ek
              subst this
              exact ⟨_ :: ps, (k, _) :: ms, rfl, .cons (.of (s _ _ hp)) h2, .cons a2 h3⟩
      · cases e1
    · cases e
def cDictP : RC := fun ds Q => match ds with
  | [.list xs] => opt (kvsOf xs) fun ns => Q (.ov (.dct none (dMerge [] ns)))
  | _ => False
theorem sc_dictP {K : PySem.W.Frag} : SndC (fun xs H Q => ∃ (a : Addr) (ps : List Addr) (kvs : List (Key × V)), xs = [.ref a] ∧ SqL K H a (ps.map V.ref) ∧ Paired (fun p kv => SqT K H p [kV kv.1, kv.2]) ps kvs ∧ ∀ p, H p = none → Q (.ref p) (upd H p (.dK (mergeK [] kvs)))) cDictP := fun F ρ I own σ H vs ds Qs Q R rx h k => by
  unfold cDictP at h
  split at h
  · obtain ⟨v, rfl, rv⟩ := one_of rx
    obtain ⟨p, ws, rfl, h1, r1⟩ := rv.lst R.sub
    obtain ⟨ns, e, h⟩ := opt_elim h
    obtain ⟨ps, ms, rfl, h2, h3⟩ := kvs_rep (K := K) R.sub r1 e
    exact ⟨p, ps, ms, rfl, .of h1, h2, fun q hq => k _ I _ _ (R.laid hq) (Sub.refl _) (ResOk.newD R hq (RepK.merge h3 .nil)) h⟩
  · exact h.elim
end DL

set_option Elab.async false
set_option linter.all false
set_option maxRecDepth 100000
namespace DL
open PySem PySem.Spec L2
open PyProof.Rows hiding St
section
variable {ρ : DEnv} {i n : Nat} {Z : DEnds} {Q : DK} {Qb : BV → DEnv → Prop} {Qs : Slot → Prop} {ta tb tf : DTB} {te : DTE} {ts : DEnv → (List OV → DEnv → Prop) → Prop} {Qo : List OV → DEnv → Prop} {tl th : DEnv → (Option Int → DEnv → Prop) → Prop} {rd : RK} {kvs : List (Key × D)} {d : D} {xs : List D}
theorem e_dnew : dNew ρ Q = Q (.ov (.dct none [])) ρ := rfl
theorem e_dget : dDGet ta tb ρ Q = ta ρ fun x ρ1 => tb ρ1 fun y ρ2 => getK ρ2 y fun d => keyK d fun k => ndK ρ2 x fun _ _ _ c => dctK c fun _ kvs => dgK kvs k fun r => Q (.fz r) ρ2 := rfl
theorem e_din {f : Bool → Bool} : dDIn f ta tb ρ Q = ta ρ fun y ρ1 => tb ρ1 fun x ρ2 => getK ρ2 y fun d => keyK d fun k => ndK ρ2 x fun _ _ _ c => dctK c fun _ kvs => Q (.fz (.bool (f (dGet kvs k).isSome))) ρ2 := rfl
theorem e_dput : dDPut te ta tb Z ρ = te ρ fun s ρ1 => frzK s fun r => ta ρ1 fun x ρ2 => tb ρ2 fun y ρ3 => getK ρ3 y fun d => keyK d fun k => ndK ρ3 x fun i π o c => dctK c fun _ kvs => kvs.length < sizeLine ∧ chK ρ3 i π o (.dct none (dPut kvs k r)) Z.nx := rfl
def flK (m : D) (k : D → Prop) : Prop := dDGet2.flK m k
theorem flK_i {m : Int} {k : D → Prop} : flK (.int m) k = k (.int m) := rfl
theorem flK_n {k : D → Prop} : flK .none k = k .none := rfl
theorem e_dget2 : dDGet2 ta tb tf ρ Q = ta ρ fun x ρ1 => ndK ρ1 x fun _ _ _ c0 => dctK c0 fun _ _ => tb ρ1 fun y ρ2 => tf ρ2 fun z ρ3 => getK ρ3 y fun d => keyK d fun k => getK ρ3 z fun m => flK m fun m => ndK ρ3 x fun _ _ _ c => dctK c fun _ kvs => Q (.fz ((dGet kvs k).getD m)) ρ3 := rfl
theorem e_dpop : dDPop ta tb ρ Q = ta ρ fun x ρ1 => ndK ρ1 x fun _ _ _ c0 => dctK c0 fun _ _ => tb ρ1 fun y ρ2 => getK ρ2 y fun d => keyK d fun k => ndK ρ2 x fun i π o c => dctK c fun _ kvs => dgK kvs k fun r => chK ρ2 i π o (.dct none (dDel kvs k)) fun ρ3 => Q (.fz r) ρ3 := rfl
theorem e_dlen : dDLen ta ρ Q = ta ρ fun x ρ1 => ndK ρ1 x fun _ _ _ c => dctK c fun _ kvs => Q (.fz (.int kvs.length)) ρ1 := rfl
theorem e_appP : dAppP ta te ρ Q = ta ρ fun x ρ1 => ndK ρ1 x fun _ _ _ c0 => olK c0 fun _ _ => te ρ1 fun s ρ2 => ovOf s fun t => ndK ρ2 x fun i π o c => olK c fun _ xs => xs.length < sizeLine ∧ chK ρ2 i π o (.lst none (xs ++ [t])) fun ρ3 => Q (.fz .none) ρ3 := rfl
theorem e_ixP : dIxP ta tb ρ Qb = ta ρ fun x ρ1 => tb ρ1 fun y ρ2 => getK ρ2 y fun d => negK d fun m => ndK ρ2 x fun i π o c => olK c fun _ xs => ixK xs.length m fun n => kidT ρ2 i π o c n Qb := rfl
theorem e_callK : dCallK rd ta ρ Q = ta ρ fun x ρ1 => ndK ρ1 x fun _ _ _ c => dctK c fun _ kvs => rd kvs fun s => Q s ρ1 := rfl
theorem e_callN : dCallN rd te ρ Q = te ρ fun s ρ1 => ovOf s fun c => dctK c fun _ kvs => rd kvs fun s => Q s ρ1 := rfl
def ikK (kvs : List (Key × D)) (k : List Int → Prop) : Prop := opt (intKeys kvs) k
theorem e_kSort : kSort kvs Qs = ikK kvs fun ks => Qs (.lst ((srt ks).map .int)) := rfl
theorem e_kCopy : kCopy kvs Qs = Qs (.ov (.dct none kvs)) := rfl
theorem e_kList : kList kvs Qs = Qs (.lst (kvs.map fun kv => keyD kv.1)) := rfl
def kvK (xs : List D) (k : List (Key × D) → Prop) : Prop := opt (kvsOf xs) k
theorem e_dictP : cDictP [.list xs] Qs = kvK xs fun ns => Qs (.ov (.dct none (dMerge [] ns))) := rfl
theorem e_oNil : oNil ρ Qo = Qo [] ρ := rfl
theorem e_oCons {r : DEnv → (List OV → DEnv → Prop) → Prop} : oCons te r ρ Qo = te ρ fun s ρ1 => ovOf s fun x => r ρ1 fun xs ρ2 => Qo (x :: xs) ρ2 := rfl
theorem e_lstO : dLstO ts ρ Q = ts ρ fun xs ρ1 => xs.length ≤ sizeLine ∧ Q (.ov (.lst none xs)) ρ1 := rfl
theorem e_slO : dSlO te tl th ρ Q = te ρ fun s ρ1 => ovOf s fun x => olK x fun _ xs => tl ρ1 fun l ρ2 => th ρ2 fun h ρ3 => Q (.ov (.lst none (cutD xs l h))) ρ3 := rfl
def idct (m : List (Int × D)) : List (Key × D) := m.map fun p => (Sum.inl p.1, p.2)
def iGet (m : List (Int × D)) (k : Int) : Option D := (m.find? fun p => decide (p.1 = k)).map (·.2)
theorem idct_get {k : Int} : ∀ {m : List (Int × D)}, dGet (idct m) (.inl k) = iGet m k
  | [] => rfl
  | p :: m => by
    have ih := idct_get (k := k) (m := m)
    unfold dGet iGet idct at ih ⊢
    by_cases e : p.1 = k
    · simp [e]
    · simp only [List.map_cons, List.find?_cons, Sum.inl.injEq, e, decide_false]
      exact ih
theorem idct_nil : ([] : List (Key × D)) = idct [] := rfl
theorem idct_any {k : Int} {m : List (Int × D)} : ((idct m).any fun kv => decide (kv.1 = Sum.inl k)) = decide (k ∈ m.map (·.1)) := by
  unfold idct
  rw [List.any_map, Bool.eq_iff_iff]
  simp only [List.any_eq_true, Function.comp, decide_eq_true_eq, Sum.inl.injEq, List.mem_map]
theorem idct_put {k : Int} {d : D} {m : List (Int × D)} : dPut (idct m) (.inl k) d = idct (if k ∈ m.map (·.1) then m.map (fun p => if p.1 = k then (p.1, d) else p) else m ++ [(k, d)]) := by
  unfold dPut
  rw [idct_any]
  by_cases h : k ∈ m.map (·.1)
  · rw [if_pos (by simpa using h), if_pos h]
    unfold idct
    rw [List.map_map, List.map_map]
    refine List.map_congr_left fun p hp => ?_
    simp only [Function.comp, Sum.inl.injEq]
    split <;> rfl
  · rw [if_neg (by simpa using h), if_neg h]
    unfold idct
    rw [List.map_append]; rfl
theorem idct_keys : ∀ {m : List (Int × D)}, intKeys (idct m) = some (m.map (·.1))
  | [] => rfl
  | p :: m => by
    have ih := idct_keys (m := m)
    unfold idct at ih ⊢
    simp only [List.map_cons, intKeys, ih, Option.map_some]
theorem idct_len {m : List (Int × D)} : (idct m).length = m.length := by unfold idct; rw [List.length_map]
theorem ikK_i {m : List (Int × D)} {k : List Int → Prop} : ikK (idct m) k = k (m.map (·.1)) := by unfold ikK; rw [idct_keys]; rfl
/-- a set of keys: each with the same thing -/
def sdct (ks : List Int) (d : D) : List (Key × D) := idct (ks.map fun k => (k, d))
theorem sdct_nil {d : D} : ([] : List (Key × D)) = sdct [] d := rfl
theorem sdct_get {k : Int} {d : D} {ks : List Int} : (dGet (sdct ks d) (.inl k)).isSome = decide (k ∈ ks) := by
  unfold sdct
  rw [idct_get]
  unfold iGet
  rw [List.find?_map]
  simp only [Option.isSome_map]
  rw [Bool.eq_iff_iff, List.find?_isSome]
  simp
theorem sdct_put {k : Int} {d : D} {ks : List Int} : dPut (sdct ks d) (.inl k) d = sdct (if k ∈ ks then ks else ks ++ [k]) d := by
  unfold sdct
  rw [idct_put, List.map_map]
  have e : (ks.map ((fun p : Int × D => p.1) ∘ fun k => (k, d))) = ks := by
    have : ((fun p : Int × D => p.1) ∘ fun k => (k, d)) = id := rfl
    rw [this, List.map_id]
  rw [e]
  by_cases h : k ∈ ks
  · rw [if_pos h, if_pos h]
    congr 1
    rw [List.map_map]
    refine List.map_congr_left fun p hp => ?_
    simp only [Function.comp]
    split <;> simp_all
  · rw [if_neg h, if_neg h, List.map_append]; rfl
theorem sdct_keys {ks : List Int} {d : D} {k : List Int → Prop} : ikK (sdct ks d) k = k ks := by
  unfold sdct
  rw [ikK_i, List.map_map]
  have : ((fun p : Int × D => p.1) ∘ fun k => (k, d)) = id := rfl
  rw [this, List.map_id]
theorem sdct_len {ks : List Int} {d : D} : (sdct ks d).length = ks.length := by unfold sdct; rw [idct_len, List.length_map]
def lo (ds : List D) : OV := .lst none (ds.map .fz)
def llO (dss : List (List D)) : OV := .lst none (dss.map lo)
/-- one of them has its address told -/
def llP (dss : List (List D)) (n : Nat) (p : Addr) : OV := .lst none ((dss.map lo).set n (.lst (some p) ((dss.getD n []).map .fz)))
theorem olK_ll {dss : List (List D)} {kl : Option Addr → List OV → Prop} : olK (llO dss) kl = kl none (dss.map lo) := rfl
theorem pinned_l {a : Option Addr} {xs : List OV} : (OV.lst a xs).pinned = a := rfl
theorem pinned_d {a : Option Addr} {xs : List (Key × D)} : (OV.dct a xs).pinned = a := rfl
theorem pinned_i {a : Option Addr} {C : Addr} {ns : List Str} {xs : List OV} : (OV.ins a C ns xs).pinned = a := rfl
theorem kid_ll {dss : List (List D)} {N : Nat} {m : Int} (hN : N = dss.length) (h0 : 0 ≤ m) (h1 : m < dss.length) (h : ∀ p, setK ρ i (.ov (llP dss m.toNat p)) fun ρ1 => Qb (.pl i [m.toNat] p) ρ1) : ixK N m fun n => kidT ρ i [] (llO dss) (llO dss) n Qb := by
  subst hN
  have e : ixN dss.length m = some m.toNat := by unfold ixN; rw [if_pos h0, if_pos (by simpa using h1)]
  have hl : m.toNat < dss.length := by omega
  unfold ixK
  rw [e]
  show kidT ρ i [] (llO dss) (llO dss) m.toNat Qb
  have e2 : (llO dss).kids[m.toNat]? = some (lo (dss.getD m.toNat [])) := by
    show (dss.map lo)[m.toNat]? = _
    rw [List.getElem?_map, List.getElem?_eq_getElem hl, List.getD_eq_getElem?_getD, List.getElem?_eq_getElem hl]; rfl
  unfold kidT
  rw [e2]
  exact h
theorem at_ll {dss : List (List D)} {p : Addr} {k : OV → Prop} (hl : n < dss.length) : atOK [n] (llP dss n p) k = k (.lst (some p) ((dss.getD n []).map .fz)) := by
  unfold llP
  rw [atOK_l]
  unfold kidK
  rw [List.getElem?_set_self (by simpa using hl)]; rfl
theorem put_ll {dss : List (List D)} {p : Addr} {c : OV} (hl : n < dss.length) : OV.put c [n] (llP dss n p) = .lst none ((dss.map lo).set n c) := by
  unfold llP
  have e : ((dss.map lo).set n (OV.lst (some p) ((dss.getD n []).map .fz)))[n]? = some (.lst (some p) ((dss.getD n []).map .fz)) := List.getElem?_set_self (by simpa using hl)
  simp only [OV.put, OV.kids, e, OV.setKids, List.set_set]
theorem set_ll {dss : List (List D)} {ds : List D} : (dss.map lo).set n (lo ds) = (dss.set n ds).map lo := by rw [List.map_set]
theorem lo_app {ds : List D} : OV.lst none (ds.map .fz ++ [.fz d]) = lo (ds ++ [d]) := by unfold lo; rw [List.map_append]; rfl
theorem toD_ll {dss : List (List D)} {k : D → Prop} : toDK (llO dss) k = k (.list (dss.map .list)) := by
  unfold llO
  rw [toDK_l]
  have := toDsK_m (g := lo) (f := PyData.list) (fun ds => by
    unfold lo
    rw [OV.toD]
    have h : OV.toDs (ds.map OV.fz) = some ds := by
      clear k
      induction ds with
      | nil => rw [List.map_nil, OV.toDs]
      | cons x xs ih => rw [List.map_cons, OV.toDs, toD_fz, ih]
    rw [h]; rfl) (xs := dss) (k := fun ds => k (.list ds))
  exact this
theorem put_llA {dss : List (List D)} {p : Addr} (hl : n < dss.length) : OV.put (.lst none ((dss.getD n []).map .fz ++ [.fz d])) [n] (llP dss n p) = llO (dss.set n (dss.getD n [] ++ [d])) := by
  rw [put_ll hl, lo_app, set_ll]; rfl
end
end DL
namespace DL
open PySem PySem.Spec L2
open PyProof.Rows hiding St
section
variable {X : Cx} {L : List Nat} {a b : Expr} {ua ub : TE} {ta tb : DTB} {pos : Pos}
theorem de_ixK {K : PySem.W.Frag} (hK : X.K = K) (ha : DB X L a ua ta) (hb : DB X L b ub tb) (hs : PlainIx b := by exact fun _ _ => rfl) : DE X L (.Subscript a b pos) (tOp (rIx K) ua ub) (tBin dIx ta tb) := by
  subst hK; exact de_ix ha hb hs
end
end DL
namespace DL
open PySem PySem.Spec L2
open PyProof.Rows hiding St
section
variable {X : Cx} {L : List Nat} {e : Expr} {u : TE} {t : DTE}
/-- frozen as it comes -/
def dFrz (t : DTE) : DTE := fun ρ Q => t ρ fun s ρ1 => frzK s fun d => Q (.fz d) ρ1
theorem se_frz (h : SE L u t) : SE L u (dFrz t) := fun F ρ I own σ H Qd Q fo R q k => h F ρ I own σ H _ Q fo R q fun s ρ' I' own' H' v R' s' r z => by
  obtain ⟨d, e, z⟩ := frzK_elim z
  obtain ⟨I2, R2, s2, r2⟩ := r.freeze R' e
  exact k (.fz d) ρ' I2 own' H' v R2 (s'.trans s2) (.fz r2) z
theorem de_frz (h : DE X L e u t) : DE X L e u (dFrz t) := ⟨h.pe, se_frz h.snd⟩
theorem e_frz {ρ : DEnv} {Q : DK} : dFrz t ρ Q = t ρ fun s ρ1 => frzK s fun d => Q (.fz d) ρ1 := rfl
end
section
variable {X : Cx} {L : List Nat} {a : Expr} {ua : TE} {ta : DTB} {pos p : Pos}
/-- len of a list of own things -/
def dLenP (ta : DTB) : DTE := fun ρ Q => ta ρ fun x ρ1 => ndK ρ1 x fun _ _ _ c => olK c fun _ xs => Q (.fz (.int xs.length)) ρ1
theorem de_lenP (hg : Gl X "len") (hm : X.mg "len" = none) (ha : DB X L a ua ta) (hst : starEach [a] X.env = (false, eval a X.env) :: starEach [] X.env := by rfl) (hpl : (backTo pos (starEach [] X.env)).any (·.1) = false := by rfl) :
    DE X L (.Call (.Name "len" p) [a] [] pos) (tCB (fun xs H Q => ∃ x n, xs = [x] ∧ LenV X.K x H n ∧ Q (.int n) H) (tCons ua tNil)) (dLenP ta) :=
  ⟨pe_callB call_len hg hm PySem.boot_len (pa_cons ha.pe pa_nil hst) (he := hst) (hpl := hpl), fun F ρ I own σ H Qd Q fo R h k => ha.snd F ρ I own σ H _ _ fo R h fun x ρ1 I1 own1 H1 v R1 s1 r1 q => by
    obtain ⟨i, π, o, c, en, q⟩ := node_elim2 q
    obtain ⟨l, xs, rfl, q⟩ := ol_elim q
    obtain ⟨g, n1, _⟩ := R1.node r1 en
    cases n1 with
    | lst pn hp rl =>
      refine ⟨_, _, rfl, .inl ⟨_, .of hp, rfl⟩, ?_⟩
      rw [rl.len]
      exact k _ ρ1 I1 own1 H1 _ R1 s1 (.fz (.int _)) q⟩
theorem e_lenP {ρ : DEnv} {Q : DK} : dLenP ta ρ Q = ta ρ fun x ρ1 => ndK ρ1 x fun _ _ _ c => olK c fun _ xs => Q (.fz (.int xs.length)) ρ1 := rfl
end
end DL

set_option Elab.async false
set_option linter.all false
set_option maxRecDepth 100000
namespace DL
open PySem PySem.Spec L2
open PyProof.Rows hiding St
section
variable {α : Type} {g : DTG} {tt : DTT} {te : DTE} {vs : List Nat} {Q : Slot → DEnv → Prop} {ρ0 : DEnv} {xs : List α}
/-- each gives a whole number -/
theorem LC.toI (c : α → D) (f : α → Int) (hl : xs.length ≤ sizeLine)
    (h : ∀ x ∈ xs, ∀ (Kt : D → DEnv → Prop) (Kf : DEnv → Prop), (∀ ρ4, wipeD ρ4 vs = ρ0 → Kt (.int (f x)) ρ4) → g (c x) ρ0 fun ρ2 => tt ρ2 fun b ρ3 => if b = true then te ρ3 fun s ρ4 => frzK s fun x => Kt x ρ4 else Kf ρ3)
    (hQ : Q (.lst ((xs.map f).map .int)) ρ0) : LC g tt te vs (xs.map c) ρ0 Q :=
  LC.all c (fun x => .int (f x)) hl h (by rw [List.map_map] at hQ; exact hQ)
/-- those that pass -/
theorem LC.filtA (c : α → D) (p : α → Bool) (f : α → D) (hl : xs.length ≤ sizeLine)
    (h : ∀ x ∈ xs, ∀ (Kt : D → DEnv → Prop) (Kf : DEnv → Prop), (p x = true → ∀ ρ4, wipeD ρ4 vs = ρ0 → Kt (f x) ρ4) → (p x = false → ∀ ρ3, wipeD ρ3 vs = ρ0 → Kf ρ3) → g (c x) ρ0 fun ρ2 => tt ρ2 fun b ρ3 => if b = true then te ρ3 fun s ρ4 => frzK s fun x => Kt x ρ4 else Kf ρ3)
    (hQ : Q (.lst ((xs.filter p).map f)) ρ0) : LC g tt te vs (xs.map c) ρ0 Q := by
  refine ⟨fun i acc ρ => ρ = ρ0 ∧ acc = ((xs.take i).filter p).map f, ⟨rfl, by simp⟩, ?_, ?_⟩
  · rintro i d acc ρ e hi ⟨rfl, rfl⟩
    rw [List.getElem?_map, Option.map_eq_some_iff] at e
    obtain ⟨x, e, rfl⟩ := e
    obtain ⟨hlt, ed⟩ := List.getElem?_eq_some_iff.mp e
    have et : xs.take (i + 1) = xs.take i ++ [x] := by rw [List.take_succ, e]; rfl
    simp only [opt_frz]
    refine h x (List.mem_of_getElem? e) _ _ (fun hp ρ4 e2 => ⟨?_, e2, by rw [et, List.filter_append]; simp [hp]⟩) fun hp ρ3 e2 => ⟨e2, by rw [et, List.filter_append]; simp [hp]⟩
    have := List.length_filter_le p (xs.take i)
    rw [List.length_map]
    rw [List.length_take] at this
    omega
  · rintro acc ρ ⟨rfl, rfl⟩
    rw [List.length_map, List.take_length]
    exact hQ
/-- the slots change as it goes: P over the things done, what has been made, the slots -/
theorem LC.go (c : α → D) (P : List α → List D → DEnv → Prop) (hl : xs.length ≤ sizeLine) (h0 : P [] [] ρ0)
    (h : ∀ (pre : List α) (x : α) (post : List α) (acc : List D) (ρ : DEnv), xs = pre ++ x :: post → acc.length ≤ pre.length → P pre acc ρ → ∀ (Kt : D → DEnv → Prop) (Kf : DEnv → Prop), (∀ d ρ4, P (pre ++ [x]) (acc ++ [d]) (wipeD ρ4 vs) → Kt d ρ4) → (∀ ρ3, P (pre ++ [x]) acc (wipeD ρ3 vs) → Kf ρ3) → g (c x) ρ fun ρ2 => tt ρ2 fun b ρ3 => if b = true then te ρ3 fun s ρ4 => frzK s fun d => Kt d ρ4 else Kf ρ3)
    (hQ : ∀ acc ρ, P xs acc ρ → Q (.lst acc) ρ) : LC g tt te vs (xs.map c) ρ0 Q := by
  refine ⟨fun i acc ρ => acc.length ≤ i ∧ P (xs.take i) acc ρ, ⟨by simp, by simpa using h0⟩, ?_, ?_⟩
  · rintro i d acc ρ e hi ⟨hla, hp⟩
    rw [List.getElem?_map, Option.map_eq_some_iff] at e
    obtain ⟨x, e, rfl⟩ := e
    obtain ⟨hlt, ed⟩ := List.getElem?_eq_some_iff.mp e
    have et : xs.take (i + 1) = xs.take i ++ [x] := by rw [List.take_succ, e]; rfl
    have e2 : xs = xs.take i ++ x :: xs.drop (i + 1) := by rw [← ed, ← List.drop_eq_getElem_cons hlt, List.take_append_drop]
    simp only [opt_frz]
    exact h (xs.take i) x (xs.drop (i + 1)) acc ρ e2 (by rw [List.length_take]; omega) hp _ _ (fun d ρ4 q => ⟨by omega, by simp; omega, by rw [et]; exact q⟩) fun ρ3 q => ⟨by omega, by rw [et]; exact q⟩
  · rintro acc ρ ⟨_, hp⟩
    rw [List.length_map, List.take_length] at hp
    exact hQ acc ρ hp
theorem enumD_map {c : α → D} : ∀ {xs : List α} {k : Nat}, enumD k (xs.map c) = (xs.zipIdx k).map fun p => .tuple [.int (p.2 : Nat), c p.1]
  | [], _ => rfl
  | x :: xs, k => by simp [enumD, enumD_map (xs := xs) (k := k + 1)]
theorem zipD_map {β : Type} {c : α → D} {d : β → D} : ∀ {xs : List α} {ys : List β}, zipD (xs.map c) (ys.map d) = (xs.zip ys).map fun p => .tuple [c p.1, d p.2]
  | [], _ => by simp [zipD]
  | _ :: _, [] => by simp [zipD]
  | x :: xs, y :: ys => by simp [zipD, zipD_map (xs := xs) (ys := ys)]
end
theorem ALs.map {α : Type} {k : Nat} {f : α → D} : ∀ {xs : List α}, (∀ x ∈ xs, AL k (f x)) → ALs (k * xs.length) (xs.map f)
  | [], _ => by simpa using ALs.nil
  | x :: xs, h => by
    have := ALs.cons (h x (by simp)) (ALs.map (xs := xs) fun y hy => h y (by simp [hy]))
    rw [List.map_cons, List.length_cons, Nat.mul_succ, Nat.add_comm]; exact this
theorem al_ints {ns : List Int} : AL (ns.length + 1) (.list (ns.map .int)) := by
  have := ALs.map (k := 1) (f := PyData.int) (xs := ns) fun x _ => .int x
  rw [Nat.one_mul] at this
  exact .list this
theorem al_list {α : Type} {k : Nat} {f : α → D} {xs : List α} (h : ∀ x ∈ xs, AL k (f x)) : AL (k * xs.length + 1) (.list (xs.map f)) := .list (ALs.map h)
/-- at most so many nodes -/
def ALe (n : Nat) (d : D) : Prop := ∃ m, m ≤ n ∧ AL m d
theorem ALe.int {i : Int} : ALe 1 (.int i) := ⟨1, Nat.le_refl _, .int i⟩
theorem ALe.bool {i : Bool} : ALe 1 (.bool i) := ⟨1, Nat.le_refl _, .bool i⟩
theorem ALe.none : ALe 1 .none := ⟨1, Nat.le_refl _, .none⟩
theorem ALe.str {i : Str} : ALe 1 (.str i) := ⟨1, Nat.le_refl _, .str i⟩
theorem ALe.le {n m : Nat} {d : D} (h : ALe n d) (hm : n ≤ m) : ALe m d := let ⟨k, h1, h2⟩ := h; ⟨k, Nat.le_trans h1 hm, h2⟩
def ALse (n : Nat) (ds : List D) : Prop := ∃ m, m ≤ n ∧ ALs m ds
theorem ALse.nil : ALse 0 [] := ⟨0, Nat.le_refl _, .nil⟩
theorem ALse.cons {n m : Nat} {d : D} {ds : List D} (h : ALe n d) (r : ALse m ds) : ALse (n + m) (d :: ds) := let ⟨a, a1, a2⟩ := h; let ⟨b, b1, b2⟩ := r; ⟨a + b, by omega, .cons a2 b2⟩
theorem ALe.list {n : Nat} {ds : List D} (h : ALse n ds) : ALe (n + 1) (.list ds) := let ⟨a, a1, a2⟩ := h; ⟨a + 1, by omega, .list a2⟩
theorem ALe.tup {n : Nat} {ds : List D} (h : ALse n ds) : ALe (n + 1) (.tuple ds) := let ⟨a, a1, a2⟩ := h; ⟨a + 1, by omega, .tuple a2⟩
theorem ALse.map {α : Type} {k : Nat} {f : α → D} : ∀ {xs : List α}, (∀ x ∈ xs, ALe k (f x)) → ALse (k * xs.length) (xs.map f)
  | [], _ => by simpa using ALse.nil
  | x :: xs, h => by
    have := ALse.cons (h x (by simp)) (ALse.map (xs := xs) fun y hy => h y (by simp [hy]))
    rw [List.map_cons, List.length_cons, Nat.mul_succ, Nat.add_comm]; exact this
theorem ALe.lm {α : Type} {k : Nat} {f : α → D} {xs : List α} (h : ∀ x ∈ xs, ALe k (f x)) : ALe (k * xs.length + 1) (.list (xs.map f)) := .list (.map h)
theorem ALe.ints {ns : List Int} : ALe (ns.length + 1) (.list (ns.map .int)) := ⟨_, Nat.le_refl _, al_ints⟩
theorem q_alike {d d' : D} {n : Nat} {Q : Slot → List Slot → Prop} (e : d' = d) (h1 : ALe n d) (h2 : n ≤ 1000000) (h : Q (.fz (.bool true)) [.fz d, .fz d]) : p_law_alike [.fz d, .fz d'] Q :=
  let ⟨_, a, b⟩ := h1
  q_law_alike e b (Nat.le_trans a h2) h
theorem q_alike2 {d d' : D} {n : Nat} {Q : Slot → List Slot → Prop} (e : d = d') (h1 : ALe n d') (h2 : n ≤ 1000000) (h : Q (.fz (.bool true)) [.fz d', .fz d']) : p_law_alike [.fz d, .fz d'] Q :=
  let ⟨_, a, b⟩ := h1
  q_law_alike2 e b (Nat.le_trans a h2) h
end DL
namespace DL
open PySem PySem.Spec L2
open PyProof.Rows hiding St
section
variable {X : Cx} {L : List Nat} {a b e e2 tg : Expr} {ua ub ue : TE} {ta tb : DTB} {te : DTE} {uas : TA} {tas : DTA} {pos p : Pos} {K : PySem.W.Frag}
theorem callR_as {f : Value} {r r' : List V → Hp → VK → Prop} (h : CallR X f r) (e : r = r' := by rfl) : CallR X f r' := e ▸ h
theorem opR_as {f : Value → Value → Sem Value} {r r' : R2} (h : OpR X f r) (e : r = r' := by rfl) : OpR X f r' := e ▸ h
theorem di_listK (hK : X.K = K) (he : DE X L e ue te) : DI X L tg e (iList K ue) (iLst te) := by subst hK; exact di_list he
theorem di_tupK (hK : X.K = K) (he : DE X L e ue te) : DI X L tg e (iTup K ue) (iTpl te) := by subst hK; exact di_tup he
theorem di_enumK (hK : X.K = K) {tpos : Pos} {elts : List Expr} {kk : Nat} (hg : Gl X "enumerate") (hm : X.mg "enumerate" = none) (ha : DA X L [e] uas tas) (hs : starEach [e] X.env = [(false, eval e X.env)] := by rfl) :
    DI X L (.Tuple elts kk tpos) (.Call (.Name "enumerate" p) [e] [] pos) (iEnum K uas) (iEnm tas) := by subst hK; exact di_enum hg hm ha hs
theorem di_zipK (hK : X.K = K) {tpos : Pos} {elts : List Expr} {kk : Nat} (hg : Gl X "zip") (hm : X.mg "zip" = none) (ha : DA X L [e, e2] uas tas) (hs : starEach [e, e2] X.env = (false, eval e X.env) :: starEach [e2] X.env := by rfl) (hpl : (backTo pos (starEach [e2] X.env)).any (·.1) = false := by rfl) :
    DI X L (.Tuple elts kk tpos) (.Call (.Name "zip" p) [e, e2] [] pos) (iZip K uas) (iZp tas) := by subst hK; exact di_zip hg hm ha hs hpl
theorem de_sliceK (hK : X.K = K) {lo hi : Option Expr} {ul uh : TO} {tl th : DEnv → (Option Int → DEnv → Prop) → Prop} {p2 : Pos} (ha : DB X L a ua ta) (hl : DO X L lo ul tl) (hh : DO X L hi uh th) :
    DE X L (.Subscript a (.Slice lo hi none p2) pos) (tSl (rSlU K) ua ul uh) (dSl ta tl th) := by subst hK; exact de_slice ha hl hh
theorem de_revK (hK : X.K = K) {k : Nat} {p1 p2 p3 : Pos} (ha : DB X L a ua ta) : DE X L (.Subscript a (.Slice none none (some (.UnaryOp .USub (.Constant (.int 1) k p1) p2)) p3) pos) (tRevL K ua) (dRev ta) := by subst hK; exact de_rev ha
end
end DL

set_option Elab.async false
set_option linter.all false
namespace Bt
theorem mod2 {k w : Int} (hw : 0 < w) : k % (2 * w) = k % w + w * (k / w % 2) := by
  have h1 := Int.emod_add_mul_ediv k w
  have h2 := Int.emod_add_mul_ediv (k / w) 2
  have h3 := Int.emod_nonneg k (b := w) (by omega)
  have h4 := Int.emod_lt_of_pos k hw
  have e : k = (k % w + w * (k / w % 2)) + (2 * w) * (k / w / 2) := by grind
  have hb : k / w % 2 = 0 ∨ k / w % 2 = 1 := by omega
  have h5 : 0 ≤ k % w + w * (k / w % 2) ∧ k % w + w * (k / w % 2) < 2 * w := by
    rcases hb with h | h <;> rw [h] <;> omega
  have := Int.emod_eq_of_lt h5.1 h5.2
  rw [e, Int.add_mul_emod_self_left, this]
  grind
/-- the two cases -/
theorem mod2c {k w : Int} (hw : 0 < w) : 0 ≤ k % w ∧ k % w < w ∧ ((k / w % 2 = 0 ∧ k % (2 * w) = k % w) ∨ (k / w % 2 = 1 ∧ k % (2 * w) = k % w + w)) := by
  refine ⟨Int.emod_nonneg k (by omega), Int.emod_lt_of_pos k hw, ?_⟩
  have hb : k / w % 2 = 0 ∨ k / w % 2 = 1 := by omega
  rcases hb with h | h
  · exact .inl ⟨h, by rw [mod2 hw, h]; omega⟩
  · exact .inr ⟨h, by rw [mod2 hw, h]; omega⟩
def pw (n : Nat) : Int := ((2 ^ n : Nat) : Int)
theorem pw_0 : pw 0 = 1 := rfl
theorem pw_s (n : Nat) : pw (n + 1) = 2 * pw n := by unfold pw; rw [Nat.pow_succ]; omega
theorem pw_pos (n : Nat) : 0 < pw n := by
  unfold pw
  have := Nat.two_pow_pos n
  omega
theorem pw_lt {m n : Nat} (h : m < n) : 2 * pw m ≤ pw n := by
  unfold pw
  have := Nat.pow_le_pow_right (n := 2) (by decide) (show m + 1 ≤ n from h)
  rw [Nat.pow_succ] at this
  omega
theorem pw_le {m n : Nat} (h : m ≤ n) : pw m ≤ pw n := by
  unfold pw
  have := Nat.pow_le_pow_right (n := 2) (by decide) h
  omega
theorem pw_inj {m n : Nat} {r : Int} (h1 : pw m ≤ r) (h2 : r < 2 * pw m) (h3 : pw n ≤ r) (h4 : r < 2 * pw n) : m = n := by
  rcases Nat.lt_trichotomy m n with h | h | h
  · have := pw_lt h; omega
  · exact h
  · have := pw_lt h; omega
def lev (r : Int) : Nat := Nat.log2 r.toNat
def whole (r : Int) : Int := pw (lev r)
theorem lev_ok {r : Int} (h : 1 ≤ r) : pw (lev r) ≤ r ∧ r < 2 * pw (lev r) := by
  unfold lev pw
  have h1 := Nat.log2_self_le (n := r.toNat) (by omega)
  have h2 := Nat.lt_log2_self (n := r.toNat)
  rw [Nat.pow_succ] at h2
  omega
theorem lev_of {n : Nat} {r : Int} (h1 : pw n ≤ r) (h2 : r < 2 * pw n) : lev r = n := by
  have hp := pw_pos n
  obtain ⟨h3, h4⟩ := lev_ok (r := r) (by omega)
  exact pw_inj h3 h4 h1 h2
theorem whole_ok {r : Int} (h : 1 ≤ r) : 1 ≤ whole r ∧ whole r ≤ r ∧ r < 2 * whole r := by
  obtain ⟨h1, h2⟩ := lev_ok h
  have := pw_pos (lev r)
  exact ⟨by unfold whole; omega, h1, h2⟩
theorem whole_of {n : Nat} {r : Int} (h1 : pw n ≤ r) (h2 : r < 2 * pw n) : whole r = pw n := by unfold whole; rw [lev_of h1 h2]
theorem whole_pw (r : Int) : ∃ n, whole r = pw n := ⟨_, rfl⟩
theorem lev_lt {r : Int} {n : Nat} (h : 1 ≤ r) (hr : r < pw n) : lev r < n := by
  obtain ⟨h1, _⟩ := lev_ok h
  rcases Nat.lt_or_ge (lev r) n with h2 | h2
  · exact h2
  · have := pw_le h2; omega
/-- the room of a key -/
def room (k r : Int) : Int := if k % whole r < r - whole r then k % (2 * whole r) else k % whole r
theorem whole_step {r : Int} (h : 1 ≤ r) : (whole (r + 1) = whole r ∧ r + 1 < 2 * whole r) ∨ (whole (r + 1) = 2 * whole r ∧ r + 1 = 2 * whole r) := by
  obtain ⟨h1, h2, h3⟩ := whole_ok h
  by_cases e : r + 1 < 2 * whole r
  · refine .inl ⟨?_, e⟩
    exact whole_of (n := lev r) (by show whole r ≤ _; omega) e
  · refine .inr ⟨?_, by omega⟩
    have : whole (r + 1) = pw (lev r + 1) := whole_of (by rw [pw_s]; show 2 * whole r ≤ _; omega) (by rw [pw_s]; show r + 1 < 2 * (2 * whole r); omega)
    rw [this, pw_s]; rfl
theorem room_bd {k r : Int} (h : 1 ≤ r) : 0 ≤ room k r ∧ room k r < r := by
  obtain ⟨h1, h2, h3⟩ := whole_ok h
  obtain ⟨a1, a2, a3⟩ := mod2c (k := k) (w := whole r) (by omega)
  unfold room
  split <;> omega
/-- one room more: the keys of the turned room with the next bit go -/
theorem room_step {k r : Int} (h : 1 ≤ r) : room k (r + 1) = if room k r = r - whole r ∧ k / whole r % 2 = 1 then r else room k r := by
  obtain ⟨h1, h2, h3⟩ := whole_ok h
  obtain ⟨a1, a2, a3⟩ := mod2c (k := k) (w := whole r) (by omega)
  rcases whole_step h with ⟨e, e2⟩ | ⟨e, e2⟩
  · unfold room
    rw [e]
    split <;> split <;> split <;> omega
  · have b := mod2c (k := k) (w := 2 * whole r) (by omega)
    unfold room
    rw [e]
    split <;> split <;> split <;> omega
/-- by which power a room's keys have one rest -/
def by_ (j r : Int) : Int := if j < r - whole r ∨ j ≥ whole r then 2 * whole r else whole r
theorem by_room {k j r : Int} (h : 1 ≤ r) (hj : 0 ≤ j) (hj2 : j < r) : k % by_ j r = j ↔ room k r = j := by
  obtain ⟨h1, h2, h3⟩ := whole_ok h
  obtain ⟨a1, a2, a3⟩ := mod2c (k := k) (w := whole r) (by omega)
  unfold by_ room
  split <;> split <;> omega
theorem room_1 {k : Int} : room k 1 = 0 := by
  have := room_bd (k := k) (r := 1) (by omega)
  omega
end Bt

set_option Elab.async false
set_option linter.all false
namespace Bt
open PySem PySem.Spec L2 DL
abbrev Q4 := Int × Int × Int × Int
abbrev T3 := Int × Int × Int
def q4D (q : Q4) : D := .tuple [.int q.1, .int q.2.1, .int q.2.2.1, .int q.2.2.2]
def t3D (q : T3) : D := .tuple [.int q.1, .int q.2.1, .int q.2.2]
def llD (l : List Int) : D := .list (l.map .int)
theorem mapInj {α : Type} {f : α → D} (h : ∀ x y, f x = f y → x = y) {xs ys : List α} : (xs.map f = ys.map f) = (xs = ys) := propext (List.map_inj_right h)
theorem q4Inj {xs ys : List Q4} : (xs.map q4D = ys.map q4D) = (xs = ys) := mapInj fun ⟨a, b, c, d⟩ ⟨e, f, g, h⟩ z => by
  simp only [q4D, PyData.tuple.injEq, List.cons.injEq, PyData.int.injEq, and_true] at z
  obtain ⟨rfl, rfl, rfl, rfl⟩ := z; rfl
theorem t3Inj {xs ys : List T3} : (xs.map t3D = ys.map t3D) = (xs = ys) := mapInj fun ⟨a, b, c⟩ ⟨e, f, g⟩ z => by
  simp only [t3D, PyData.tuple.injEq, List.cons.injEq, PyData.int.injEq, and_true] at z
  obtain ⟨rfl, rfl, rfl⟩ := z; rfl
def q4sD (B : List Q4) : D := .list (B.map q4D)
theorem q4sInj {xs ys : List (List Q4)} : (xs.map q4sD = ys.map q4sD) = (xs = ys) := mapInj fun a b z => by
  simp only [q4sD, PyData.list.injEq, q4Inj] at z; exact z
theorem pInj {xs ys : List (Int × Int)} : (xs.map pD = ys.map pD) = (xs = ys) := mapInj fun ⟨a, b⟩ ⟨e, f⟩ z => by
  simp only [pD, PyData.tuple.injEq, List.cons.injEq, PyData.int.injEq, and_true] at z
  obtain ⟨rfl, rfl⟩ := z; rfl
theorem llInj {xs ys : List (List Int)} : (xs.map llD = ys.map llD) = (xs = ys) := mapInj fun a b z => by
  simp only [llD, PyData.list.injEq, intsInj] at z; exact z
/-- the keys of a room, the room's number of keys -/
def inRoom (keys : List Int) (r j : Int) : List Int := keys.filter fun k => decide (room k r = j)
def cnt (keys : List Int) (r j : Int) : Int := (inRoom keys r j).length
def rng (r : Int) : List Int := (List.range r.toNat).map fun (i : Nat) => (i : Int)
def lots (keys : List Int) (r : Int) : List (List Int) := (rng r).map fun j => inRoom (srt keys) r j
def cnts (keys : List Int) (r : Int) : List Int := (rng r).map fun j => cnt keys r j
def bookAt (keys : List Int) (m : Int) : Q4 := (m - whole m, m, cnt keys (m + 1) (m - whole m), cnt keys (m + 1) m)
def book (keys : List Int) (r : Int) : List Q4 := (List.range (r - 1).toNat).map fun (i : Nat) => bookAt keys ((i : Int) + 1)
/-- sizes by a book -/
def szStep (s : List Int) (q : Q4) : List Int := s.set q.1.toNat q.2.2.1 ++ [q.2.2.2]
def sizes (c : Int) (B : List Q4) : List Int := B.foldl szStep [c]
def bookOk : List Int → List Q4 → Bool
  | _, [] => true
  | s, q :: B => decide (q.1 = (s.length : Int) - whole s.length ∧ q.2.1 = s.length) && decide (0 ≤ q.2.2.1) && decide (0 ≤ q.2.2.2) && decide (q.2.2.1 + q.2.2.2 = s.getD q.1.toNat 0) && bookOk (szStep s q) B
def isBook (c : Int) (B : List Q4) : Bool := decide (B.length ≤ 129) && bookOk [c] B
/-- the rooms named are those that are split -/
def Shaped (B : List Q4) : Prop := ∀ (i : Nat) (q : Q4), B[i]? = some q → q.1 = ((i : Int) + 1) - whole ((i : Int) + 1) ∧ q.2.1 = (i : Int) + 1
def spStep (w : Int) (s : Int × List T3) (q : Q4) : Int × List T3 :=
  let rest := s.1 + rowsF q.2.2.1 w + rowsF q.2.2.2 w - 1 - rowsF (q.2.2.1 + q.2.2.2) w
  let l := s.2.getLastD (0, 0, 0)
  (rest, if rest = l.2.2 then s.2.dropLast ++ [(l.1, l.2.1 + 1, rest)] else s.2 ++ [(l.2.1, l.2.1 + 1, rest)])
def spillsAll (c : Int) (B : List Q4) (w : Int) : Int × List T3 := B.foldl (spStep w) (rowsF c w - 1, [(1, 2, rowsF c w - 1)])
def spillsBy (c : Int) (B : List Q4) (w : Int) : List T3 := (spillsAll c B w).2
def leastR (c : Int) (B : List Q4) (w most : Int) : D := match (spillsBy c B w).find? (fun t => decide (t.2.2 ≤ most)) with
  | some t => .int t.1
  | none => .none
def keysRaw (place : Int) : Nat → List Int → List Int
  | _, [] => []
  | j, m :: ms => (rng m).map (fun k => (j : Int) + place * k) ++ keysRaw place (j + 1) ms
def keysFor (c : Int) (B : List Q4) : List Int := srt (keysRaw (2 * whole (sizes c B).length) 0 (sizes c B))
def rowsOf (ks : List Int) (w : Int) : List (List Int) := (List.range (rowsF ks.length w).toNat).map fun i => ((srt ks).drop (i * w.toNat)).take w.toNat
def look : List (List Int) → Int → Int → Bool × Int
  | [], _, n => (false, n)
  | r :: rs, key, n => if r ≠ [] ∧ key ≤ r.getLastD 0 then (decide (key ∈ r), n + 1) else look rs key (n + 1)
def looksRaw (keys : List Int) (r w : Int) : List (Int × Int) := (lots keys r).flatMap fun h => h.map fun k => (k, (look (rowsOf h w) k 0).2)
/-- the first bit that two numbers have unlike -/
def Bit1 (a b : Int) (n : Nat) : Prop := (∀ m, m < n → a / pw m % 2 = b / pw m % 2) ∧ a / pw n % 2 ≠ b / pw n % 2
def partAt (a b : Int) (n : Nat) : Int := (if b % pw (n + 1) > a % pw (n + 1) then b % pw (n + 1) else a % pw (n + 1)) + 1
end Bt

set_option Elab.async false
set_option linter.all false
namespace DL
open PySem PySem.Spec L2
open PyProof.Rows hiding St
section
variable {k : D → Prop} {kb : Bool → Prop} {kl : List D → Prop}
theorem depth_all {n : Nat} : ∀ {xs : List D}, (∀ x ∈ xs, x.depth ≤ n) → PyData.depthAll xs ≤ n
  | [], _ => by simp [PyData.depthAll]
  | x :: xs, h => by
    have h1 := h x (by simp)
    have h2 := depth_all (xs := xs) fun y hy => h y (by simp [hy])
    simp [PyData.depthAll]; omega
theorem can_all : ∀ {xs : List D}, (∀ x ∈ xs, x.canLay0 = true) → PyData.canLayAll0 xs = true
  | [], _ => rfl
  | x :: xs, h => by
    have h1 := h x (by simp)
    have h2 := can_all (xs := xs) fun y hy => h y (by simp [hy])
    simp [PyData.canLayAll0, h1, h2]
/-- data to be compared -/
def Gd (n : Nat) (d : D) : Prop := d.canLay0 = true ∧ d.depth ≤ n
theorem Gd.gd {n : Nat} {d : D} (h : Gd n d) (hn : n ≤ 60) : gd 60 d = true := by
  unfold DL.gd; simp [h.1]; have := h.2; omega
theorem Gd.list {n : Nat} {xs : List D} (h : ∀ x ∈ xs, Gd n x) : Gd (n + 1) (.list xs) :=
  ⟨by simp [PyData.canLay0, can_all fun x hx => (h x hx).1], by have := depth_all fun x hx => (h x hx).2; simp [PyData.depth]; omega⟩
theorem Gd.tup {n : Nat} {xs : List D} (h : ∀ x ∈ xs, Gd n x) : Gd (n + 1) (.tuple xs) :=
  ⟨by simp [PyData.canLay0, can_all fun x hx => (h x hx).1], by have := depth_all fun x hx => (h x hx).2; simp [PyData.depth]; omega⟩
theorem Gd.int {n : Nat} {i : Int} : Gd n (.int i) := ⟨rfl, by simp [PyData.depth]⟩
theorem Gd.bool {n : Nat} {i : Bool} : Gd n (.bool i) := ⟨rfl, by simp [PyData.depth]⟩
theorem Gd.none {n : Nat} : Gd n .none := ⟨rfl, by simp [PyData.depth]⟩
theorem Gd.le {n m : Nat} {d : D} (h : Gd n d) (hm : n ≤ m) : Gd m d := ⟨h.1, Nat.le_trans h.2 hm⟩
theorem eqK_nilG {xs : List D} (h : ∀ x ∈ xs, Gd 50 x) : eqK (.list xs) (.list []) kb = kb (decide (xs = [])) := by
  unfold eqK; rw [eqv_nil, (Gd.list h).gd (by decide), gd_nil]; simp
theorem eqK_t2 {a b c d : Int} : eqK (.tuple [.int a, .int b]) (.tuple [.int c, .int d]) kb = kb (decide (a = c ∧ b = d)) := by
  have g : ∀ a b : Int, gd 60 (.tuple [.int a, .int b]) = true := fun a b => (Gd.tup (n := 1) (by simp [Gd.int])).gd (by decide)
  have e : PyData.eqv (.tuple [.int a, .int b]) (.tuple [.int c, .int d]) = decide (a = c ∧ b = d) := by
    by_cases h1 : a = c <;> by_cases h2 : b = d <;> simp [PyData.eqv, PyData.eqvAll, h1, h2]
  unfold eqK; rw [g, g, e]; simp
theorem sIx_mid {n : Nat} {a : Int} (h : 0 ≤ a) (d : Nat) : HT.sIx n d (some a) = min a.toNat n := by
  show (if a < 0 then _ else _) = _
  rw [if_neg (by omega)]
theorem cutD_dt {α : Type} {xs : List α} {a w : Int} (h : 0 ≤ a) (hw : 0 ≤ w) : cutD xs (some a) (some (a + w)) = (xs.drop a.toNat).take w.toNat := by
  unfold cutD
  rw [sIx_mid h, sIx_mid (by omega)]
  by_cases hl : a.toNat ≤ xs.length
  · rw [Nat.min_eq_left hl]
    by_cases h2 : (a + w).toNat ≤ xs.length
    · rw [Nat.min_eq_left h2]; congr 1; omega
    · rw [Nat.min_eq_right (by omega), List.take_of_length_le (by rw [List.length_drop]; omega), List.take_of_length_le (by rw [List.length_drop]; omega)]
  · rw [Nat.min_eq_right (a := a.toNat) (by omega), List.drop_of_length_le (Nat.le_refl _), List.drop_of_length_le (i := a.toNat) (by omega)]; simp
theorem atK_map {α : Type} {f : α → D} {xs : List α} {i : Int} (d : α) (h1 : 0 ≤ i) (h2 : i < xs.length) : atK (xs.map f) i k = k (f (xs.getD i.toNat d)) := by
  have h3 : i.toNat < xs.length := by omega
  have e : atI (xs.map f) i = some (f (xs.getD i.toNat d)) := by
    unfold atI ixN
    rw [if_pos h1, if_pos (by simpa using h2)]
    simp [List.getElem?_eq_getElem h3, List.getD]
  unfold atK
  rw [e]; rfl
theorem isK_map {α : Type} {f : α → D} {xs : List α} {i : Int} {v : α} (h1 : 0 ≤ i) (h2 : i < xs.length) : isK (xs.map f) i (f v) kl = kl ((xs.set i.toNat v).map f) := by
  have e : ixN (xs.map f).length i = some i.toNat := by
    unfold ixN
    rw [if_pos h1, if_pos (by simpa using h2)]
  unfold isK ixK
  rw [e]
  show kl ((xs.map f).set i.toNat (f v)) = _
  rw [← List.map_set]
theorem atK_lastM {α : Type} {f : α → D} {xs : List α} (d : α) (h : xs ≠ []) : atK (xs.map f) (-1) k = k (f (xs.getLastD d)) := by
  obtain ⟨ys, y, rfl⟩ : ∃ ys y, xs = ys ++ [y] := ⟨xs.dropLast, xs.getLast h, (List.dropLast_concat_getLast h).symm⟩
  rw [List.map_append]
  have := atK_last (xs := ys.map f) (x := f y) (k := k)
  simp only [List.map_cons, List.map_nil] at *
  rw [this]; simp
theorem isK_lastM {α : Type} {f : α → D} {xs : List α} {v : α} (h : xs ≠ []) : isK (xs.map f) (-1) (f v) kl = kl ((xs.dropLast ++ [v]).map f) := by
  obtain ⟨ys, y, rfl⟩ : ∃ ys y, xs = ys ++ [y] := ⟨xs.dropLast, xs.getLast h, (List.dropLast_concat_getLast h).symm⟩
  have e : ixN ((ys ++ [y]).map f).length (-1) = some ys.length := by
    unfold ixN
    rw [if_neg (by decide), if_pos (by simp; omega)]
    congr 1; simp; omega
  unfold isK ixK
  rw [e]
  show kl (((ys ++ [y]).map f).set ys.length (f v)) = _
  rw [← List.map_set]
  simp
theorem inK_ints {ns : List Int} {m : Int} : inK (.int m) (ns.map .int) kb = kb (decide (m ∈ ns)) := by
  unfold inK
  have h1 : (ns.map PyData.int).all flatD = true := by simp [List.all_map, flatD, Function.comp_def]
  have h2 : inD (.int m) (ns.map PyData.int) = decide (m ∈ ns) := by
    induction ns with
    | nil => rfl
    | cons n ns ih =>
      have ih := ih (by simp [List.all_map, flatD, Function.comp_def])
      simp only [List.map_cons, inD, List.any_cons] at ih ⊢
      rw [ih]
      by_cases h1 : n = m
      · subst h1; simp [PyData.eqv]
      · have h2 : ¬ m = n := fun e => h1 e.symm
        simp [PyData.eqv, h1, h2]
  rw [h1, h2]; simp [flatD]
end
end DL
namespace Bt
theorem rng_len {r : Int} : (rng r).length = r.toNat := by unfold rng; simp
theorem rng_succ {n : Nat} : rng ((n : Int) + 1) = rng n ++ [(n : Int)] := by
  unfold rng
  have e : ((n : Int) + 1).toNat = n + 1 := by omega
  rw [e, List.range_succ]; simp
theorem rng_get {r : Int} {i : Nat} (h : i < r.toNat) : (rng r)[i]? = some (i : Int) := by
  unfold rng; simp [h]
theorem rng_getD {r : Int} {i : Nat} (h : i < r.toNat) : (rng r).getD i 0 = (i : Int) := by
  rw [List.getD_eq_getElem?_getD, rng_get h]; rfl
theorem rng_mem {r j : Int} : j ∈ rng r ↔ 0 ≤ j ∧ j < r := by
  unfold rng
  rw [List.mem_map]
  refine ⟨fun ⟨i, h1, h2⟩ => ?_, fun h => ⟨j.toNat, ?_, ?_⟩⟩
  · have := List.mem_range.mp h1; omega
  · exact List.mem_range.mpr (by omega)
  · omega
end Bt
namespace Bt
theorem look_cons {r : List Int} {rs : List (List Int)} {k n : Int} : look (r :: rs) k n = if r ≠ [] ∧ k ≤ r.getLastD 0 then (decide (k ∈ r), n + 1) else look rs k (n + 1) := rfl
theorem look_nil {k n : Int} : look [] k n = (false, n) := rfl
end Bt
namespace Bt
theorem erase_perm {α : Type} {l : List α} {n : Nat} (h : n < l.length) : (l[n] :: l.eraseIdx n).Perm l := by
  have e : l = l.take n ++ l[n] :: l.drop (n + 1) := by rw [← List.drop_eq_getElem_cons h, List.take_append_drop]
  rw [List.eraseIdx_eq_take_drop_succ]
  refine List.Perm.trans (List.perm_middle.symm) ?_
  rw [← e]
theorem room_stay {k r : Int} (h : 1 ≤ r) : room k (r + 1) = r - whole r ↔ (room k r = r - whole r ∧ k / whole r % 2 = 0) := by
  have hw := whole_ok h
  have hs := room_step (k := k) h
  have hb := room_bd (k := k) h
  rw [hs]
  split <;> omega
theorem room_go {k r : Int} (h : 1 ≤ r) : room k (r + 1) = r ↔ (room k r = r - whole r ∧ k / whole r % 2 = 1) := by
  have hw := whole_ok h
  have hs := room_step (k := k) h
  have hb := room_bd (k := k) h
  rw [hs]
  split <;> omega
theorem room_else {k r j : Int} (h : 1 ≤ r) (hj : j ≠ r - whole r) (hj2 : j < r) : room k (r + 1) = j ↔ room k r = j := by
  have hw := whole_ok h
  have hs := room_step (k := k) h
  have hb := room_bd (k := k) h
  rw [hs]
  split <;> omega
theorem in_stay {ks : List Int} {r : Int} (h : 1 ≤ r) : (inRoom ks r (r - whole r)).filter (fun k => decide (k / whole r % 2 = 0)) = inRoom ks (r + 1) (r - whole r) := by
  unfold inRoom
  rw [List.filter_filter]
  refine List.filter_congr fun k _ => ?_
  have := room_stay (k := k) h
  rw [Bool.eq_iff_iff]
  simp only [Bool.and_eq_true, decide_eq_true_eq]
  omega
theorem in_go {ks : List Int} {r : Int} (h : 1 ≤ r) : (inRoom ks r (r - whole r)).filter (fun k => decide (k / whole r % 2 = 1)) = inRoom ks (r + 1) r := by
  unfold inRoom
  rw [List.filter_filter]
  refine List.filter_congr fun k _ => ?_
  have := room_go (k := k) h
  rw [Bool.eq_iff_iff]
  simp only [Bool.and_eq_true, decide_eq_true_eq]
  omega
theorem in_else {ks : List Int} {r j : Int} (h : 1 ≤ r) (hj : j ≠ r - whole r) (hj2 : j < r) : inRoom ks (r + 1) j = inRoom ks r j := by
  unfold inRoom
  refine List.filter_congr fun k _ => ?_
  have := room_else (k := k) h hj hj2
  rw [Bool.eq_iff_iff]
  simp only [decide_eq_true_eq]
  exact this
theorem rng_set {α : Type} {r : Int} {f g : Int → α} {t : Int} (h0 : 0 ≤ t) (h1 : t < r) (hr : 0 ≤ r) (h : ∀ j, 0 ≤ j → j < r → j ≠ t → f j = g j) : ((rng r).map f).set t.toNat (g t) ++ [g r] = (rng (r + 1)).map g := by
  obtain ⟨n, rfl⟩ : ∃ n : Nat, r = n := ⟨r.toNat, by omega⟩
  obtain ⟨m, rfl⟩ : ∃ n : Nat, t = n := ⟨t.toNat, by omega⟩
  rw [rng_succ, List.map_append]
  congr 1
  apply List.ext_getElem?
  intro i
  rw [List.getElem?_set]
  simp only [Int.toNat_natCast]
  by_cases hi : i < n
  · have e := rng_get (r := (n : Int)) (i := i) (by omega)
    by_cases e2 : m = i
    · subst e2
      rw [if_pos rfl, if_pos (by rw [List.length_map, rng_len]; omega), List.getElem?_map, e]; rfl
    · rw [if_neg e2, List.getElem?_map, List.getElem?_map, e]
      exact congrArg some (h i (by omega) (by omega) (by omega))
  · have l1 : ((rng (n : Int)).map f).length = n := by rw [List.length_map, rng_len]; omega
    have l2 : ((rng (n : Int)).map g).length = n := by rw [List.length_map, rng_len]; omega
    rw [if_neg (by omega), List.getElem?_eq_none (by omega), List.getElem?_eq_none (by omega)]
theorem in_book {ks : List Int} {r : Int} (h : 1 ≤ r) : ((rng r).map fun j => inRoom ks r j).set (r - whole r).toNat (inRoom ks (r + 1) (r - whole r)) ++ [inRoom ks (r + 1) r] = (rng (r + 1)).map fun j => inRoom ks (r + 1) j := by
  have hw := whole_ok h
  exact rng_set (f := fun j => inRoom ks r j) (g := fun j => inRoom ks (r + 1) j) (by omega) (by omega) (by omega) fun j h0 h1 h2 => (in_else h h2 h1).symm
theorem rng_map_getD {α : Type} {r : Int} {f : Int → α} {t : Int} {d : α} (h0 : 0 ≤ t) (h1 : t < r) : ((rng r).map f).getD t.toNat d = f t := by
  rw [List.getD_eq_getElem?_getD, List.getElem?_map, rng_get (by omega)]
  show f _ = f t
  congr 1; omega
theorem book_succ {ks : List Int} {r : Int} (h : 1 ≤ r) : book ks (r + 1) = book ks r ++ [bookAt ks r] := by
  unfold book
  have e : (r + 1 - 1).toNat = (r - 1).toNat + 1 := by omega
  rw [e, List.range_succ, List.map_append]
  have e2 : (((r - 1).toNat : Nat) : Int) + 1 = r := by omega
  simp only [List.map_cons, List.map_nil, e2]
theorem book_len {ks : List Int} {r : Int} : (book ks r).length = (r - 1).toNat := by unfold book; simp
theorem in_len {ks : List Int} {r j : Int} : (inRoom ks r j).length ≤ ks.length := List.length_filter_le _ _
end Bt
namespace DL
open PySem PySem.Spec L2
theorem e_llD {l : List Int} : Bt.llD l = .list (l.map .int) := rfl
theorem e_q4D {q : Bt.Q4} : Bt.q4D q = .tuple [.int q.1, .int q.2.1, .int q.2.2.1, .int q.2.2.2] := rfl
theorem e_q4sD {B : List Bt.Q4} : Bt.q4sD B = .list (B.map Bt.q4D) := rfl
theorem e_t3D {q : Bt.T3} : Bt.t3D q = .tuple [.int q.1, .int q.2.1, .int q.2.2] := rfl
theorem e_pD {q : Int × Int} : pD q = .tuple [.int q.1, .int q.2] := rfl
end DL
namespace Bt
theorem sizes_snoc {c : Int} {B : List Q4} {q : Q4} : sizes c (B ++ [q]) = szStep (sizes c B) q := by unfold sizes; rw [List.foldl_append]; rfl
theorem sizes_len {c : Int} {B : List Q4} : (sizes c B).length = B.length + 1 := by
  unfold sizes
  have h : ∀ (B : List Q4) (s : List Int), (B.foldl szStep s).length = s.length + B.length := by
    intro B
    induction B with
    | nil => intro s; rfl
    | cons q B ih => intro s; rw [List.foldl_cons, ih]; unfold szStep; simp; omega
  rw [h]; simp; omega
theorem spills_snoc {c w : Int} {B : List Q4} {q : Q4} : spillsAll c (B ++ [q]) w = spStep w (spillsAll c B w) q := by unfold spillsAll; rw [List.foldl_append]; rfl
theorem spStep_ne {w : Int} {s : Int × List T3} {q : Q4} : (spStep w s q).2 ≠ [] := by unfold spStep; dsimp only; split <;> simp
theorem spills_ne {c w : Int} {B : List Q4} : (spillsAll c B w).2 ≠ [] := by
  unfold spillsAll
  have h : ∀ (B : List Q4) (s : Int × List T3), s.2 ≠ [] → (B.foldl (spStep w) s).2 ≠ [] := by
    intro B
    induction B with
    | nil => intro s h; exact h
    | cons q B ih => intro s h; rw [List.foldl_cons]; exact ih _ spStep_ne
  exact h B _ (by simp)
theorem spills_len {c w : Int} {B : List Q4} : (spillsAll c B w).2.length ≤ B.length + 1 := by
  unfold spillsAll
  have h : ∀ (B : List Q4) (s : Int × List T3), s.2 ≠ [] → (B.foldl (spStep w) s).2.length ≤ s.2.length + B.length := by
    intro B
    induction B with
    | nil => intro s h; simp
    | cons q B ih =>
      intro s h
      rw [List.foldl_cons]
      have := ih _ (spStep_ne (w := w) (s := s) (q := q))
      have h2 : (spStep w s q).2.length ≤ s.2.length + 1 := by
        unfold spStep; dsimp only
        have := List.length_pos_iff.mpr h
        split <;> simp <;> omega
      simp only [List.length_cons]; omega
  have := h B (DL.rowsF c w - 1, [(1, 2, DL.rowsF c w - 1)]) (by simp)
  simp at this ⊢; omega
end Bt
namespace Bt
theorem bookOk_cons {s : List Int} {q : Q4} {B : List Q4} : bookOk s (q :: B) = (decide (q.1 = (s.length : Int) - whole s.length ∧ q.2.1 = s.length) && decide (0 ≤ q.2.2.1) && decide (0 ≤ q.2.2.2) && decide (q.2.2.1 + q.2.2.2 = s.getD q.1.toNat 0) && bookOk (szStep s q) B) := rfl
theorem in_snoc {ks : List Int} {x r : Int} (h : 1 ≤ r) : ((rng r).map fun j => (inRoom ks r j).map PySem.PyData.int).set (room x r).toNat (((rng r).map fun j => (inRoom ks r j).map PySem.PyData.int).getD (room x r).toNat [] ++ [PySem.PyData.int x]) = (rng r).map fun j => (inRoom (ks ++ [x]) r j).map PySem.PyData.int := by
  have hb := room_bd (k := x) h
  rw [rng_map_getD hb.1 hb.2]
  have hf : ∀ j, inRoom (ks ++ [x]) r j = if room x r = j then inRoom ks r j ++ [x] else inRoom ks r j := fun j => by
    unfold inRoom
    rw [List.filter_append]
    by_cases h : room x r = j <;> simp [h]
  apply List.ext_getElem?
  intro i
  rw [List.getElem?_set, List.getElem?_map, List.getElem?_map]
  by_cases hi : i < r.toNat
  · rw [rng_get hi]
    by_cases e : (room x r).toNat = i
    · have e2 : room x r = (i : Int) := by omega
      rw [if_pos e, if_pos (by rw [List.length_map, rng_len]; omega)]
      simp only [Option.map_some, hf, e2, if_pos, List.map_append, List.map_cons, List.map_nil]
    · have e2 : room x r ≠ (i : Int) := by omega
      rw [if_neg e]
      simp only [Option.map_some, hf, if_neg e2]
  · have l : (rng r)[i]? = none := List.getElem?_eq_none (by rw [rng_len]; omega)
    rw [if_neg (by omega), l]; rfl
end Bt
namespace Bt
open DL
theorem rowsF_le {m w : Int} (hm : 0 ≤ m) (hw : 0 < w ∧ w ≤ 8) : 1 ≤ rowsF m w ∧ (rowsF m w = 1 ∨ rowsF m w ≤ m) := by
  have h : w = 1 ∨ w = 2 ∨ w = 3 ∨ w = 4 ∨ w = 5 ∨ w = 6 ∨ w = 7 ∨ w = 8 := by omega
  unfold rowsF
  rcases h with rfl | rfl | rfl | rfl | rfl | rfl | rfl | rfl <;> split <;> omega
theorem rng_split {r a : Int} (h0 : 0 ≤ a) (h1 : a < r) : ∃ l1 l2, rng r = l1 ++ a :: l2 ∧ a ∉ l1 ∧ a ∉ l2 := by
  refine ⟨(rng r).take a.toNat, (rng r).drop (a.toNat + 1), ?_, fun m => ?_, fun m => ?_⟩
  · have hl : a.toNat < (rng r).length := by rw [rng_len]; omega
    have e : (rng r)[a.toNat] = a := by
      have := rng_get (r := r) (i := a.toNat) (by omega)
      rw [List.getElem?_eq_getElem hl] at this
      have := Option.some.inj this
      omega
    have := List.drop_eq_getElem_cons hl
    rw [e] at this
    rw [← this, List.take_append_drop]
  · obtain ⟨i, hi, e⟩ := List.getElem_of_mem m
    rw [List.getElem_take] at e
    rw [List.length_take, rng_len] at hi
    have := rng_get (r := r) (i := i) (by omega)
    rw [List.getElem?_eq_getElem (by rw [rng_len]; omega)] at this
    have := Option.some.inj this
    omega
  · obtain ⟨i, hi, e⟩ := List.getElem_of_mem m
    rw [List.getElem_drop] at e
    rw [List.length_drop, rng_len] at hi
    have := rng_get (r := r) (i := a.toNat + 1 + i) (by omega)
    rw [List.getElem?_eq_getElem (by rw [rng_len]; omega)] at this
    have := Option.some.inj this
    omega
theorem flat_congr {α β : Type} {l : List α} {f g : α → List β} (h : ∀ x ∈ l, f x = g x) : l.flatMap f = l.flatMap g := by
  induction l with
  | nil => rfl
  | cons x l ih => rw [List.flatMap_cons, List.flatMap_cons, h x (by simp), ih fun y hy => h y (by simp [hy])]
theorem part_perm {r : Int} (h : 1 ≤ r) : ∀ ks : List Int, ((rng r).flatMap fun j => inRoom ks r j).Perm ks
  | [] => by
    have : (rng r).flatMap (fun j => inRoom [] r j) = [] := by
      rw [List.flatMap_eq_nil_iff]; intro _ _; rfl
    rw [this]
  | x :: ks => by
    have ih := part_perm h ks
    have hb := room_bd (k := x) h
    obtain ⟨l1, l2, e, n1, n2⟩ := rng_split hb.1 hb.2
    rw [e, List.flatMap_append, List.flatMap_cons] at ih ⊢
    have hc : ∀ l : List Int, room x r ∉ l → l.flatMap (fun j => inRoom (x :: ks) r j) = l.flatMap fun j => inRoom ks r j := fun l hl => by
      refine flat_congr fun j hj => ?_
      unfold inRoom
      rw [List.filter_cons, if_neg (by simp; intro z; exact hl (z ▸ hj))]
    have ha : inRoom (x :: ks) r (room x r) = x :: inRoom ks r (room x r) := by
      unfold inRoom; rw [List.filter_cons, if_pos (by simp)]
    rw [hc l1 n1, hc l2 n2, ha, List.cons_append]
    exact List.perm_middle.trans (ih.cons x)
theorem lots_flat {ks : List Int} {r : Int} (h : 1 ≤ r) : (lots ks r).flatten.Perm ks := by
  have := part_perm h (DL.srt ks)
  unfold lots
  rw [← List.flatMap_def]
  exact this.trans (srt_perm ks)
theorem lots_mem {ks l : List Int} {r : Int} (h : l ∈ lots ks r) : l.length ≤ ks.length := by
  unfold lots at h
  obtain ⟨j, _, rfl⟩ := List.mem_map.mp h
  have := in_len (ks := srt ks) (r := r) (j := j)
  rw [(srt_perm ks).length_eq] at this
  exact this
theorem rowsOf_ln {ks : List Int} {w : Int} (hw : 0 < w ∧ w ≤ 8) (h : ks.length ≤ 1000000) : Ln (rowsOf ks w) ∧ ∀ r ∈ rowsOf ks w, Ln r := by
  have hr := rowsF_le (m := ks.length) (by omega) hw
  refine ⟨?_, fun r hr => ?_⟩
  · unfold Ln rowsOf; rw [List.length_map, List.length_range]; omega
  · unfold rowsOf at hr
    obtain ⟨i, _, rfl⟩ := List.mem_map.mp hr
    unfold Ln
    rw [List.length_take, List.length_drop, (srt_perm ks).length_eq]; omega
end Bt

set_option Elab.async false
set_option linter.all false
set_option maxRecDepth 100000
namespace DL
open PySem PySem.Spec L2
open PyProof.Rows hiding St
def p_twos_to : PSpec := fun as Q => ∃ (n : Int), as = [.fz (.int n)] ∧ (0 ≤ n ∧ n ≤ 1000) ∧ Q (.fz (.int (Bt.pw n.toNat))) as
theorem q_twos_to {n : Int} {Q : Slot → List Slot → Prop} : p_twos_to [.fz (.int n)] Q = ((0 ≤ n ∧ n ≤ 1000) ∧ Q (.fz (.int (Bt.pw n.toNat))) [.fz (.int n)]) :=
  propext ⟨fun ⟨_, e, h⟩ => by simp only [List.cons.injEq, Slot.fz.injEq, Slot.lst.injEq, PyData.list.injEq, PyData.tuple.injEq, PyData.int.injEq, PyData.bool.injEq, PyData.str.injEq, intsInj, Bt.q4Inj, Bt.t3Inj, Bt.llInj, Bt.pInj, Bt.q4sInj, and_true, true_and] at e; obtain ⟨rfl⟩ := e; exact h, fun h => ⟨_, rfl, h⟩⟩
def p_last_bits : PSpec := fun as Q => ∃ (k n : Int), as = [.fz (.int k), .fz (.int n)] ∧ (0 ≤ n ∧ n ≤ 1000) ∧ Q (.fz (.int (k % Bt.pw n.toNat))) as
theorem q_last_bits {k n : Int} {Q : Slot → List Slot → Prop} : p_last_bits [.fz (.int k), .fz (.int n)] Q = ((0 ≤ n ∧ n ≤ 1000) ∧ Q (.fz (.int (k % Bt.pw n.toNat))) [.fz (.int k), .fz (.int n)]) :=
  propext ⟨fun ⟨_, _, e, h⟩ => by simp only [List.cons.injEq, Slot.fz.injEq, Slot.lst.injEq, PyData.list.injEq, PyData.tuple.injEq, PyData.int.injEq, PyData.bool.injEq, PyData.str.injEq, intsInj, Bt.q4Inj, Bt.t3Inj, Bt.llInj, Bt.pInj, Bt.q4sInj, and_true, true_and] at e; obtain ⟨rfl, rfl⟩ := e; exact h, fun h => ⟨_, _, rfl, h⟩⟩
def p_whole_rooms : PSpec := fun as Q => ∃ (r : Int), as = [.fz (.int r)] ∧ (1 ≤ r) ∧ Q (.fz (.int (Bt.whole r))) as
theorem q_whole_rooms {r : Int} {Q : Slot → List Slot → Prop} : p_whole_rooms [.fz (.int r)] Q = ((1 ≤ r) ∧ Q (.fz (.int (Bt.whole r))) [.fz (.int r)]) :=
  propext ⟨fun ⟨_, e, h⟩ => by simp only [List.cons.injEq, Slot.fz.injEq, Slot.lst.injEq, PyData.list.injEq, PyData.tuple.injEq, PyData.int.injEq, PyData.bool.injEq, PyData.str.injEq, intsInj, Bt.q4Inj, Bt.t3Inj, Bt.llInj, Bt.pInj, Bt.q4sInj, and_true, true_and] at e; obtain ⟨rfl⟩ := e; exact h, fun h => ⟨_, rfl, h⟩⟩
def p_level : PSpec := fun as Q => ∃ (r : Int), as = [.fz (.int r)] ∧ (1 ≤ r ∧ r < 2 ^ 100) ∧ Q (.fz (.int (Bt.lev r))) as
theorem q_level {r : Int} {Q : Slot → List Slot → Prop} : p_level [.fz (.int r)] Q = ((1 ≤ r ∧ r < 2 ^ 100) ∧ Q (.fz (.int (Bt.lev r))) [.fz (.int r)]) :=
  propext ⟨fun ⟨_, e, h⟩ => by simp only [List.cons.injEq, Slot.fz.injEq, Slot.lst.injEq, PyData.list.injEq, PyData.tuple.injEq, PyData.int.injEq, PyData.bool.injEq, PyData.str.injEq, intsInj, Bt.q4Inj, Bt.t3Inj, Bt.llInj, Bt.pInj, Bt.q4sInj, and_true, true_and] at e; obtain ⟨rfl⟩ := e; exact h, fun h => ⟨_, rfl, h⟩⟩
def p_turn : PSpec := fun as Q => ∃ (r : Int), as = [.fz (.int r)] ∧ (1 ≤ r) ∧ Q (.fz (.int (r - Bt.whole r))) as
theorem q_turn {r : Int} {Q : Slot → List Slot → Prop} : p_turn [.fz (.int r)] Q = ((1 ≤ r) ∧ Q (.fz (.int (r - Bt.whole r))) [.fz (.int r)]) :=
  propext ⟨fun ⟨_, e, h⟩ => by simp only [List.cons.injEq, Slot.fz.injEq, Slot.lst.injEq, PyData.list.injEq, PyData.tuple.injEq, PyData.int.injEq, PyData.bool.injEq, PyData.str.injEq, intsInj, Bt.q4Inj, Bt.t3Inj, Bt.llInj, Bt.pInj, Bt.q4sInj, and_true, true_and] at e; obtain ⟨rfl⟩ := e; exact h, fun h => ⟨_, rfl, h⟩⟩
def p_room_of : PSpec := fun as Q => ∃ (k r : Int), as = [.fz (.int k), .fz (.int r)] ∧ (1 ≤ r) ∧ Q (.fz (.int (Bt.room k r))) as
theorem q_room_of {k r : Int} {Q : Slot → List Slot → Prop} : p_room_of [.fz (.int k), .fz (.int r)] Q = ((1 ≤ r) ∧ Q (.fz (.int (Bt.room k r))) [.fz (.int k), .fz (.int r)]) :=
  propext ⟨fun ⟨_, _, e, h⟩ => by simp only [List.cons.injEq, Slot.fz.injEq, Slot.lst.injEq, PyData.list.injEq, PyData.tuple.injEq, PyData.int.injEq, PyData.bool.injEq, PyData.str.injEq, intsInj, Bt.q4Inj, Bt.t3Inj, Bt.llInj, Bt.pInj, Bt.q4sInj, and_true, true_and] at e; obtain ⟨rfl, rfl⟩ := e; exact h, fun h => ⟨_, _, rfl, h⟩⟩
def p_split_of : PSpec := fun as Q => ∃ (r : Int), as = [.fz (.int r)] ∧ (1 ≤ r) ∧ Q (.fz (.tuple [.int (r - Bt.whole r), .int r])) as
theorem q_split_of {r : Int} {Q : Slot → List Slot → Prop} : p_split_of [.fz (.int r)] Q = ((1 ≤ r) ∧ Q (.fz (.tuple [.int (r - Bt.whole r), .int r])) [.fz (.int r)]) :=
  propext ⟨fun ⟨_, e, h⟩ => by simp only [List.cons.injEq, Slot.fz.injEq, Slot.lst.injEq, PyData.list.injEq, PyData.tuple.injEq, PyData.int.injEq, PyData.bool.injEq, PyData.str.injEq, intsInj, Bt.q4Inj, Bt.t3Inj, Bt.llInj, Bt.pInj, Bt.q4sInj, and_true, true_and] at e; obtain ⟨rfl⟩ := e; exact h, fun h => ⟨_, rfl, h⟩⟩
def p_joined_of : PSpec := fun as Q => ∃ (r : Int), as = [.fz (.int r)] ∧ (1 ≤ r) ∧ Q (.fz (if r = 1 then .none else .tuple [.int (r - 1), .int (r - 1 - Bt.whole (r - 1))])) as
theorem q_joined_of {r : Int} {Q : Slot → List Slot → Prop} : p_joined_of [.fz (.int r)] Q = ((1 ≤ r) ∧ Q (.fz (if r = 1 then .none else .tuple [.int (r - 1), .int (r - 1 - Bt.whole (r - 1))])) [.fz (.int r)]) :=
  propext ⟨fun ⟨_, e, h⟩ => by simp only [List.cons.injEq, Slot.fz.injEq, Slot.lst.injEq, PyData.list.injEq, PyData.tuple.injEq, PyData.int.injEq, PyData.bool.injEq, PyData.str.injEq, intsInj, Bt.q4Inj, Bt.t3Inj, Bt.llInj, Bt.pInj, Bt.q4sInj, and_true, true_and] at e; obtain ⟨rfl⟩ := e; exact h, fun h => ⟨_, rfl, h⟩⟩
def p_rows_of : PSpec := fun as Q => ∃ (ks : List Int) (w : Int), as = [.fz (.list (ks.map .int)), .fz (.int w)] ∧ (Wd w ∧ Ln ks) ∧ Q (.lst ((Bt.rowsOf ks w).map Bt.llD)) as
theorem q_rows_of {ks : List Int} {w : Int} {Q : Slot → List Slot → Prop} : p_rows_of [.fz (.list (ks.map .int)), .fz (.int w)] Q = ((Wd w ∧ Ln ks) ∧ Q (.lst ((Bt.rowsOf ks w).map Bt.llD)) [.fz (.list (ks.map .int)), .fz (.int w)]) :=
  propext ⟨fun ⟨_, _, e, h⟩ => by simp only [List.cons.injEq, Slot.fz.injEq, Slot.lst.injEq, PyData.list.injEq, PyData.tuple.injEq, PyData.int.injEq, PyData.bool.injEq, PyData.str.injEq, intsInj, Bt.q4Inj, Bt.t3Inj, Bt.llInj, Bt.pInj, Bt.q4sInj, and_true, true_and] at e; obtain ⟨rfl, rfl⟩ := e; exact h, fun h => ⟨_, _, rfl, h⟩⟩
def p_looked : PSpec := fun as Q => ∃ (rs : List (List Int)) (k : Int), as = [.fz (.list (rs.map Bt.llD)), .fz (.int k)] ∧ (Ln rs ∧ ∀ r ∈ rs, Ln r) ∧ Q (.fz (.tuple [.bool (Bt.look rs k 0).1, .int (Bt.look rs k 0).2])) as
theorem q_looked {rs : List (List Int)} {k : Int} {Q : Slot → List Slot → Prop} : p_looked [.fz (.list (rs.map Bt.llD)), .fz (.int k)] Q = ((Ln rs ∧ ∀ r ∈ rs, Ln r) ∧ Q (.fz (.tuple [.bool (Bt.look rs k 0).1, .int (Bt.look rs k 0).2])) [.fz (.list (rs.map Bt.llD)), .fz (.int k)]) :=
  propext ⟨fun ⟨_, _, e, h⟩ => by simp only [List.cons.injEq, Slot.fz.injEq, Slot.lst.injEq, PyData.list.injEq, PyData.tuple.injEq, PyData.int.injEq, PyData.bool.injEq, PyData.str.injEq, intsInj, Bt.q4Inj, Bt.t3Inj, Bt.llInj, Bt.pInj, Bt.q4sInj, and_true, true_and] at e; obtain ⟨rfl, rfl⟩ := e; exact h, fun h => ⟨_, _, rfl, h⟩⟩
def p_book_of : PSpec := fun as Q => ∃ (ks : List Int) (r : Int), as = [.fz (.list (ks.map .int)), .fz (.int r)] ∧ (1 ≤ r ∧ r ≤ 1000 ∧ Ln ks) ∧ Q (.lst ((Bt.book ks r).map Bt.q4D)) as
theorem q_book_of {ks : List Int} {r : Int} {Q : Slot → List Slot → Prop} : p_book_of [.fz (.list (ks.map .int)), .fz (.int r)] Q = ((1 ≤ r ∧ r ≤ 1000 ∧ Ln ks) ∧ Q (.lst ((Bt.book ks r).map Bt.q4D)) [.fz (.list (ks.map .int)), .fz (.int r)]) :=
  propext ⟨fun ⟨_, _, e, h⟩ => by simp only [List.cons.injEq, Slot.fz.injEq, Slot.lst.injEq, PyData.list.injEq, PyData.tuple.injEq, PyData.int.injEq, PyData.bool.injEq, PyData.str.injEq, intsInj, Bt.q4Inj, Bt.t3Inj, Bt.llInj, Bt.pInj, Bt.q4sInj, and_true, true_and] at e; obtain ⟨rfl, rfl⟩ := e; exact h, fun h => ⟨_, _, rfl, h⟩⟩
def p_is_split : PSpec := fun as Q => ∃ (a b c d : Int), as = [.fz (.tuple [.int a, .int b, .int c, .int d])] ∧ Q (.fz (.bool true)) as
theorem q_is_split {a b c d : Int} {Q : Slot → List Slot → Prop} : p_is_split [.fz (.tuple [.int a, .int b, .int c, .int d])] Q = (Q (.fz (.bool true)) [.fz (.tuple [.int a, .int b, .int c, .int d])]) :=
  propext ⟨fun ⟨_, _, _, _, e, h⟩ => by simp only [List.cons.injEq, Slot.fz.injEq, Slot.lst.injEq, PyData.list.injEq, PyData.tuple.injEq, PyData.int.injEq, PyData.bool.injEq, PyData.str.injEq, intsInj, Bt.q4Inj, Bt.t3Inj, Bt.llInj, Bt.pInj, Bt.q4sInj, and_true, true_and] at e; obtain ⟨rfl, rfl, rfl, rfl⟩ := e; exact h, fun h => ⟨_, _, _, _, rfl, h⟩⟩
def p_is_book : PSpec := fun as Q => ∃ (c : Int) (B : List Bt.Q4), as = [.fz (.int c), .fz (.list (B.map Bt.q4D))] ∧ (Ln B) ∧ Q (.fz (.bool (Bt.isBook c B))) as
theorem q_is_book {c : Int} {B : List Bt.Q4} {Q : Slot → List Slot → Prop} : p_is_book [.fz (.int c), .fz (.list (B.map Bt.q4D))] Q = ((Ln B) ∧ Q (.fz (.bool (Bt.isBook c B))) [.fz (.int c), .fz (.list (B.map Bt.q4D))]) :=
  propext ⟨fun ⟨_, _, e, h⟩ => by simp only [List.cons.injEq, Slot.fz.injEq, Slot.lst.injEq, PyData.list.injEq, PyData.tuple.injEq, PyData.int.injEq, PyData.bool.injEq, PyData.str.injEq, intsInj, Bt.q4Inj, Bt.t3Inj, Bt.llInj, Bt.pInj, Bt.q4sInj, and_true, true_and] at e; obtain ⟨rfl, rfl⟩ := e; exact h, fun h => ⟨_, _, rfl, h⟩⟩
def p_counts_by : PSpec := fun as Q => ∃ (c : Int) (B : List Bt.Q4) (r : Int), as = [.fz (.int c), .fz (.list (B.map Bt.q4D)), .fz (.int r)] ∧ (1 ≤ r ∧ Ln B ∧ Bt.Shaped B) ∧ Q (.lst ((Bt.sizes c (B.take (r - 1).toNat)).map .int)) as
theorem q_counts_by {c : Int} {B : List Bt.Q4} {r : Int} {Q : Slot → List Slot → Prop} : p_counts_by [.fz (.int c), .fz (.list (B.map Bt.q4D)), .fz (.int r)] Q = ((1 ≤ r ∧ Ln B ∧ Bt.Shaped B) ∧ Q (.lst ((Bt.sizes c (B.take (r - 1).toNat)).map .int)) [.fz (.int c), .fz (.list (B.map Bt.q4D)), .fz (.int r)]) :=
  propext ⟨fun ⟨_, _, _, e, h⟩ => by simp only [List.cons.injEq, Slot.fz.injEq, Slot.lst.injEq, PyData.list.injEq, PyData.tuple.injEq, PyData.int.injEq, PyData.bool.injEq, PyData.str.injEq, intsInj, Bt.q4Inj, Bt.t3Inj, Bt.llInj, Bt.pInj, Bt.q4sInj, and_true, true_and] at e; obtain ⟨rfl, rfl, rfl⟩ := e; exact h, fun h => ⟨_, _, _, rfl, h⟩⟩
def p_spills_by : PSpec := fun as Q => ∃ (c : Int) (B : List Bt.Q4) (w : Int), as = [.fz (.int c), .fz (.list (B.map Bt.q4D)), .fz (.int w)] ∧ (Wd w ∧ Ln B) ∧ Q (.lst ((Bt.spillsBy c B w).map Bt.t3D)) as
theorem q_spills_by {c : Int} {B : List Bt.Q4} {w : Int} {Q : Slot → List Slot → Prop} : p_spills_by [.fz (.int c), .fz (.list (B.map Bt.q4D)), .fz (.int w)] Q = ((Wd w ∧ Ln B) ∧ Q (.lst ((Bt.spillsBy c B w).map Bt.t3D)) [.fz (.int c), .fz (.list (B.map Bt.q4D)), .fz (.int w)]) :=
  propext ⟨fun ⟨_, _, _, e, h⟩ => by simp only [List.cons.injEq, Slot.fz.injEq, Slot.lst.injEq, PyData.list.injEq, PyData.tuple.injEq, PyData.int.injEq, PyData.bool.injEq, PyData.str.injEq, intsInj, Bt.q4Inj, Bt.t3Inj, Bt.llInj, Bt.pInj, Bt.q4sInj, and_true, true_and] at e; obtain ⟨rfl, rfl, rfl⟩ := e; exact h, fun h => ⟨_, _, _, rfl, h⟩⟩
def p_least_rooms : PSpec := fun as Q => ∃ (c : Int) (B : List Bt.Q4) (w m : Int), as = [.fz (.int c), .fz (.list (B.map Bt.q4D)), .fz (.int w), .fz (.int m)] ∧ (Wd w ∧ Ln B) ∧ Q (.fz (Bt.leastR c B w m)) as
theorem q_least_rooms {c : Int} {B : List Bt.Q4} {w m : Int} {Q : Slot → List Slot → Prop} : p_least_rooms [.fz (.int c), .fz (.list (B.map Bt.q4D)), .fz (.int w), .fz (.int m)] Q = ((Wd w ∧ Ln B) ∧ Q (.fz (Bt.leastR c B w m)) [.fz (.int c), .fz (.list (B.map Bt.q4D)), .fz (.int w), .fz (.int m)]) :=
  propext ⟨fun ⟨_, _, _, _, e, h⟩ => by simp only [List.cons.injEq, Slot.fz.injEq, Slot.lst.injEq, PyData.list.injEq, PyData.tuple.injEq, PyData.int.injEq, PyData.bool.injEq, PyData.str.injEq, intsInj, Bt.q4Inj, Bt.t3Inj, Bt.llInj, Bt.pInj, Bt.q4sInj, and_true, true_and] at e; obtain ⟨rfl, rfl, rfl, rfl⟩ := e; exact h, fun h => ⟨_, _, _, _, rfl, h⟩⟩
def p_keys_for : PSpec := fun as Q => ∃ (c : Int) (B : List Bt.Q4), as = [.fz (.int c), .fz (.list (B.map Bt.q4D))] ∧ (Ln B ∧ B.length ≤ 1000 ∧ Bt.Shaped B ∧ (∀ s ∈ Bt.sizes c B, 0 ≤ s ∧ s ≤ 1000000) ∧ (Bt.keysRaw (2 * Bt.whole (Bt.sizes c B).length) 0 (Bt.sizes c B)).length ≤ 1000000) ∧ Q (.lst ((Bt.keysFor c B).map .int)) as
theorem q_keys_for {c : Int} {B : List Bt.Q4} {Q : Slot → List Slot → Prop} : p_keys_for [.fz (.int c), .fz (.list (B.map Bt.q4D))] Q = ((Ln B ∧ B.length ≤ 1000 ∧ Bt.Shaped B ∧ (∀ s ∈ Bt.sizes c B, 0 ≤ s ∧ s ≤ 1000000) ∧ (Bt.keysRaw (2 * Bt.whole (Bt.sizes c B).length) 0 (Bt.sizes c B)).length ≤ 1000000) ∧ Q (.lst ((Bt.keysFor c B).map .int)) [.fz (.int c), .fz (.list (B.map Bt.q4D))]) :=
  propext ⟨fun ⟨_, _, e, h⟩ => by simp only [List.cons.injEq, Slot.fz.injEq, Slot.lst.injEq, PyData.list.injEq, PyData.tuple.injEq, PyData.int.injEq, PyData.bool.injEq, PyData.str.injEq, intsInj, Bt.q4Inj, Bt.t3Inj, Bt.llInj, Bt.pInj, Bt.q4sInj, and_true, true_and] at e; obtain ⟨rfl, rfl⟩ := e; exact h, fun h => ⟨_, _, rfl, h⟩⟩
def p_spread : PSpec := fun as Q => ∃ (ks : List Int) (r : Int), as = [.fz (.list (ks.map .int)), .fz (.int r)] ∧ (1 ≤ r ∧ r ≤ 1000 ∧ Ln ks) ∧ Q (.fz (.list ((Bt.lots ks r).map Bt.llD))) as
theorem q_spread {ks : List Int} {r : Int} {Q : Slot → List Slot → Prop} : p_spread [.fz (.list (ks.map .int)), .fz (.int r)] Q = ((1 ≤ r ∧ r ≤ 1000 ∧ Ln ks) ∧ Q (.fz (.list ((Bt.lots ks r).map Bt.llD))) [.fz (.list (ks.map .int)), .fz (.int r)]) :=
  propext ⟨fun ⟨_, _, e, h⟩ => by simp only [List.cons.injEq, Slot.fz.injEq, Slot.lst.injEq, PyData.list.injEq, PyData.tuple.injEq, PyData.int.injEq, PyData.bool.injEq, PyData.str.injEq, intsInj, Bt.q4Inj, Bt.t3Inj, Bt.llInj, Bt.pInj, Bt.q4sInj, and_true, true_and] at e; obtain ⟨rfl, rfl⟩ := e; exact h, fun h => ⟨_, _, rfl, h⟩⟩
def p_counts : PSpec := fun as Q => ∃ (ks : List Int) (r : Int), as = [.fz (.list (ks.map .int)), .fz (.int r)] ∧ (1 ≤ r ∧ r ≤ 1000 ∧ Ln ks) ∧ Q (.lst ((Bt.cnts ks r).map .int)) as
theorem q_counts {ks : List Int} {r : Int} {Q : Slot → List Slot → Prop} : p_counts [.fz (.list (ks.map .int)), .fz (.int r)] Q = ((1 ≤ r ∧ r ≤ 1000 ∧ Ln ks) ∧ Q (.lst ((Bt.cnts ks r).map .int)) [.fz (.list (ks.map .int)), .fz (.int r)]) :=
  propext ⟨fun ⟨_, _, e, h⟩ => by simp only [List.cons.injEq, Slot.fz.injEq, Slot.lst.injEq, PyData.list.injEq, PyData.tuple.injEq, PyData.int.injEq, PyData.bool.injEq, PyData.str.injEq, intsInj, Bt.q4Inj, Bt.t3Inj, Bt.llInj, Bt.pInj, Bt.q4sInj, and_true, true_and] at e; obtain ⟨rfl, rfl⟩ := e; exact h, fun h => ⟨_, _, rfl, h⟩⟩
def p_all_looks : PSpec := fun as Q => ∃ (ks : List Int) (r w : Int), as = [.fz (.list (ks.map .int)), .fz (.int r), .fz (.int w)] ∧ (1 ≤ r ∧ r ≤ 1000 ∧ Ln ks ∧ Wd w) ∧ Q (.lst ((srtP (Bt.looksRaw ks r w)).map pD)) as
theorem q_all_looks {ks : List Int} {r w : Int} {Q : Slot → List Slot → Prop} : p_all_looks [.fz (.list (ks.map .int)), .fz (.int r), .fz (.int w)] Q = ((1 ≤ r ∧ r ≤ 1000 ∧ Ln ks ∧ Wd w) ∧ Q (.lst ((srtP (Bt.looksRaw ks r w)).map pD)) [.fz (.list (ks.map .int)), .fz (.int r), .fz (.int w)]) :=
  propext ⟨fun ⟨_, _, _, e, h⟩ => by simp only [List.cons.injEq, Slot.fz.injEq, Slot.lst.injEq, PyData.list.injEq, PyData.tuple.injEq, PyData.int.injEq, PyData.bool.injEq, PyData.str.injEq, intsInj, Bt.q4Inj, Bt.t3Inj, Bt.llInj, Bt.pInj, Bt.q4sInj, and_true, true_and] at e; obtain ⟨rfl, rfl, rfl⟩ := e; exact h, fun h => ⟨_, _, _, rfl, h⟩⟩
def p_parted : PSpec := fun as Q => ∃ (a b : Int), as = [.fz (.int a), .fz (.int b)] ∧ ∃ n, n ≤ 90 ∧ Bt.Bit1 a b n ∧ Q (.fz (.int (Bt.partAt a b n))) as
theorem q_parted {a b : Int} {Q : Slot → List Slot → Prop} : p_parted [.fz (.int a), .fz (.int b)] Q = (∃ n, n ≤ 90 ∧ Bt.Bit1 a b n ∧ Q (.fz (.int (Bt.partAt a b n))) [.fz (.int a), .fz (.int b)]) :=
  propext ⟨fun ⟨_, _, e, h⟩ => by simp only [List.cons.injEq, Slot.fz.injEq, Slot.lst.injEq, PyData.list.injEq, PyData.tuple.injEq, PyData.int.injEq, PyData.bool.injEq, PyData.str.injEq, intsInj, Bt.q4Inj, Bt.t3Inj, Bt.llInj, Bt.pInj, Bt.q4sInj, and_true, true_and] at e; obtain ⟨rfl, rfl⟩ := e; exact h, fun h => ⟨_, _, rfl, h⟩⟩
end DL

set_option Elab.async false
set_option linter.all false
set_option maxRecDepth 100000
namespace Bt
def moreR (m w : Int) : Int := if 0 < m then (m - 1) / w else 0
def spillR (ns : List Int) (w : Int) : Int := (ns.map fun n => moreR n w).sum
end Bt
namespace DL
open PySem PySem.Spec L2
open PyProof.Rows hiding St
theorem perm_map {α : Type} {f : α → D} {ys : List D} {xs : List α} (h : ys.Perm (xs.map f)) : ∃ zs : List α, ys = zs.map f ∧ zs.Perm xs := by
  induction xs generalizing ys with
  | nil => exact ⟨[], List.Perm.eq_nil h, .nil⟩
  | cons x xs ih =>
    have hm : f x ∈ ys := h.mem_iff.mpr (by simp)
    obtain ⟨l1, l2, rfl⟩ := List.append_of_mem hm
    have h2 : (l1 ++ l2).Perm (xs.map f) := by
      have := (List.perm_middle (a := f x) (l₁ := l1) (l₂ := l2)).symm.trans h
      exact List.Perm.cons_inv this
    obtain ⟨zs, e, hz⟩ := ih h2
    rw [List.append_eq_map_iff] at e
    obtain ⟨z1, z2, rfl, rfl, rfl⟩ := e
    exact ⟨z1 ++ x :: z2, by simp, (List.perm_middle).trans (hz.cons x)⟩
def p_law_power : PSpec := fun as Q => ∃ (r : Int), as = [.fz (.int r)] ∧ (1 ≤ r ∧ r < 2 ^ 61) ∧ Q (.fz (.int (Bt.whole r))) as
theorem q_law_power {r : Int} {Q : Slot → List Slot → Prop} : p_law_power [.fz (.int r)] Q = ((1 ≤ r ∧ r < 2 ^ 61) ∧ Q (.fz (.int (Bt.whole r))) [.fz (.int r)]) :=
  propext ⟨fun ⟨_, e, h⟩ => by simp only [List.cons.injEq, Slot.fz.injEq, Slot.lst.injEq, PyData.list.injEq, PyData.tuple.injEq, PyData.int.injEq, PyData.bool.injEq, PyData.str.injEq, intsInj, Bt.q4Inj, Bt.t3Inj, Bt.llInj, Bt.pInj, Bt.q4sInj, and_true, true_and] at e; obtain ⟨rfl⟩ := e; exact h, fun h => ⟨_, rfl, h⟩⟩
def p_law_by : PSpec := fun as Q => ∃ (j r : Int), as = [.fz (.int j), .fz (.int r)] ∧ (1 ≤ r ∧ r < 2 ^ 61) ∧ Q (.fz (.int (Bt.by_ j r))) as
theorem q_law_by {j r : Int} {Q : Slot → List Slot → Prop} : p_law_by [.fz (.int j), .fz (.int r)] Q = ((1 ≤ r ∧ r < 2 ^ 61) ∧ Q (.fz (.int (Bt.by_ j r))) [.fz (.int j), .fz (.int r)]) :=
  propext ⟨fun ⟨_, _, e, h⟩ => by simp only [List.cons.injEq, Slot.fz.injEq, Slot.lst.injEq, PyData.list.injEq, PyData.tuple.injEq, PyData.int.injEq, PyData.bool.injEq, PyData.str.injEq, intsInj, Bt.q4Inj, Bt.t3Inj, Bt.llInj, Bt.pInj, Bt.q4sInj, and_true, true_and] at e; obtain ⟨rfl, rfl⟩ := e; exact h, fun h => ⟨_, _, rfl, h⟩⟩
def p_law_of : PSpec := fun as Q => ∃ (ks : List Int) (j r : Int), as = [.fz (.list (ks.map .int)), .fz (.int j), .fz (.int r)] ∧ ((1 ≤ r ∧ r < 2 ^ 61) ∧ (0 ≤ j ∧ j < r) ∧ Ln ks) ∧ Q (.lst ((Bt.inRoom (srt ks) r j).map .int)) as
theorem q_law_of {ks : List Int} {j r : Int} {Q : Slot → List Slot → Prop} : p_law_of [.fz (.list (ks.map .int)), .fz (.int j), .fz (.int r)] Q = (((1 ≤ r ∧ r < 2 ^ 61) ∧ (0 ≤ j ∧ j < r) ∧ Ln ks) ∧ Q (.lst ((Bt.inRoom (srt ks) r j).map .int)) [.fz (.list (ks.map .int)), .fz (.int j), .fz (.int r)]) :=
  propext ⟨fun ⟨_, _, _, e, h⟩ => by simp only [List.cons.injEq, Slot.fz.injEq, Slot.lst.injEq, PyData.list.injEq, PyData.tuple.injEq, PyData.int.injEq, PyData.bool.injEq, PyData.str.injEq, intsInj, Bt.q4Inj, Bt.t3Inj, Bt.llInj, Bt.pInj, Bt.q4sInj, and_true, true_and] at e; obtain ⟨rfl, rfl, rfl⟩ := e; exact h, fun h => ⟨_, _, _, rfl, h⟩⟩
def p_law_more_rows : PSpec := fun as Q => ∃ (m w : Int), as = [.fz (.int m), .fz (.int w)] ∧ (Wd w) ∧ Q (.fz (.int (Bt.moreR m w))) as
theorem q_law_more_rows {m w : Int} {Q : Slot → List Slot → Prop} : p_law_more_rows [.fz (.int m), .fz (.int w)] Q = ((Wd w) ∧ Q (.fz (.int (Bt.moreR m w))) [.fz (.int m), .fz (.int w)]) :=
  propext ⟨fun ⟨_, _, e, h⟩ => by simp only [List.cons.injEq, Slot.fz.injEq, Slot.lst.injEq, PyData.list.injEq, PyData.tuple.injEq, PyData.int.injEq, PyData.bool.injEq, PyData.str.injEq, intsInj, Bt.q4Inj, Bt.t3Inj, Bt.llInj, Bt.pInj, Bt.q4sInj, and_true, true_and] at e; obtain ⟨rfl, rfl⟩ := e; exact h, fun h => ⟨_, _, rfl, h⟩⟩
def p_law_spill : PSpec := fun as Q => ∃ (ns : List Int) (w : Int), as = [.fz (.list (ns.map .int)), .fz (.int w)] ∧ (Wd w ∧ Ln ns) ∧ Q (.fz (.int (Bt.spillR ns w))) as
theorem q_law_spill {ns : List Int} {w : Int} {Q : Slot → List Slot → Prop} : p_law_spill [.fz (.list (ns.map .int)), .fz (.int w)] Q = ((Wd w ∧ Ln ns) ∧ Q (.fz (.int (Bt.spillR ns w))) [.fz (.list (ns.map .int)), .fz (.int w)]) :=
  propext ⟨fun ⟨_, _, e, h⟩ => by simp only [List.cons.injEq, Slot.fz.injEq, Slot.lst.injEq, PyData.list.injEq, PyData.tuple.injEq, PyData.int.injEq, PyData.bool.injEq, PyData.str.injEq, intsInj, Bt.q4Inj, Bt.t3Inj, Bt.llInj, Bt.pInj, Bt.q4sInj, and_true, true_and] at e; obtain ⟨rfl, rfl⟩ := e; exact h, fun h => ⟨_, _, rfl, h⟩⟩
def p_law_mixed : PSpec := fun as Q => ∃ (L xs : List D), as = [.lst L, .fz (.list xs)] ∧ BagL L ∧ Ln xs ∧ (∀ x ∈ xs, Gd 50 x) ∧ ∀ ys L', BagL L' → ys.Perm xs → Q (.lst ys) [.lst L', .fz (.list xs)]
theorem q_law_mixed {L xs : List D} {Q : Slot → List Slot → Prop} : p_law_mixed [.lst L, .fz (.list xs)] Q = (BagL L ∧ Ln xs ∧ (∀ x ∈ xs, Gd 50 x) ∧ ∀ ys L', BagL L' → ys.Perm xs → Q (.lst ys) [.lst L', .fz (.list xs)]) :=
  propext ⟨fun ⟨_, _, e, h⟩ => by simp only [List.cons.injEq, Slot.fz.injEq, Slot.lst.injEq, PyData.list.injEq, PyData.tuple.injEq, PyData.int.injEq, PyData.bool.injEq, PyData.str.injEq, intsInj, Bt.q4Inj, Bt.t3Inj, Bt.llInj, Bt.pInj, Bt.q4sInj, and_true, true_and] at e; obtain ⟨rfl, rfl⟩ := e; exact h, fun h => ⟨_, _, rfl, h⟩⟩
end DL

set_option Elab.async false
set_option linter.all false
namespace Bt
open DL
theorem cnt_nonneg {ks : List Int} {r j : Int} : 0 ≤ cnt ks r j := by unfold cnt; omega
theorem cnts_len {ks : List Int} {r : Int} : (cnts ks r).length = r.toNat := by unfold cnts; rw [List.length_map, rng_len]
theorem cnts_get {ks : List Int} {r j : Int} (h0 : 0 ≤ j) (h1 : j < r) : (cnts ks r).getD j.toNat 0 = cnt ks r j := by unfold cnts; exact rng_map_getD h0 h1
theorem cnts_nonneg {ks : List Int} {r c : Int} (h : c ∈ cnts ks r) : 0 ≤ c := by
  unfold cnts at h
  obtain ⟨j, _, rfl⟩ := List.mem_map.mp h
  exact cnt_nonneg
theorem cnts_le {ks : List Int} {r c : Int} (h : c ∈ cnts ks r) : c ≤ ks.length := by
  unfold cnts at h
  obtain ⟨j, _, rfl⟩ := List.mem_map.mp h
  unfold cnt
  have := in_len (ks := ks) (r := r) (j := j)
  omega
theorem cnts_1 {ks : List Int} : cnts ks 1 = [(ks.length : Int)] := by
  have e : inRoom ks 1 0 = ks := by
    unfold inRoom
    rw [List.filter_eq_self]
    intro a _; simp [room_1]
  show [cnt ks 1 0] = _
  unfold cnt; rw [e]
/-- one room more: the counts -/
theorem cnt_part {ks : List Int} {r : Int} (h : 1 ≤ r) : cnt ks (r + 1) (r - whole r) + cnt ks (r + 1) r = cnt ks r (r - whole r) := by
  unfold cnt
  rw [← in_stay h, ← in_go h]
  generalize inRoom ks r (r - whole r) = l
  induction l with
  | nil => rfl
  | cons x l ih =>
    have hb : x / whole r % 2 = 0 ∨ x / whole r % 2 = 1 := by omega
    rcases hb with e | e
    · rw [List.filter_cons, if_pos (by simp [e]), List.filter_cons, if_neg (by simp [e])]
      simp only [List.length_cons]; omega
    · rw [List.filter_cons, if_neg (by simp [e]), List.filter_cons, if_pos (by simp [e])]
      simp only [List.length_cons]; omega
theorem cnts_step {ks : List Int} {r : Int} (h : 1 ≤ r) : (cnts ks r).set (r - whole r).toNat (cnt ks (r + 1) (r - whole r)) ++ [cnt ks (r + 1) r] = cnts ks (r + 1) := by
  have hw := whole_ok h
  unfold cnts
  refine rng_set (f := fun j => cnt ks r j) (g := fun j => cnt ks (r + 1) j) (by omega) (by omega) (by omega) fun j h0 h1 h2 => ?_
  unfold cnt
  rw [in_else h h2 h1]
/-- going through numbers of rooms -/
theorem rooms_ind {p : Int → Prop} (h1 : p 1) (hs : ∀ r, 1 ≤ r → p r → p (r + 1)) {r : Int} (h : 1 ≤ r) : p r := by
  obtain ⟨n, rfl⟩ : ∃ n : Nat, r = (n : Int) + 1 := ⟨(r - 1).toNat, by omega⟩
  clear h
  induction n with
  | zero => exact h1
  | succ n ih =>
    have := hs _ (by omega) ih
    have e : ((n + 1 : Nat) : Int) + 1 = (n : Int) + 1 + 1 := by omega
    rw [e]; exact this
theorem book_1 {ks : List Int} : book ks 1 = [] := rfl
theorem sizes_book {ks : List Int} {r : Int} (h : 1 ≤ r) : sizes ks.length (book ks r) = cnts ks r := by
  refine rooms_ind (p := fun r => sizes ks.length (book ks r) = cnts ks r) ?_ (fun r hr ih => ?_) h
  · rw [book_1, cnts_1]; rfl
  · rw [book_succ hr, sizes_snoc, ih, ← cnts_step hr]; rfl
theorem book_take {ks : List Int} {r s : Int} (h : s ≤ r) : (book ks r).take (s - 1).toNat = book ks s := by
  unfold book
  rw [← List.map_take, List.take_range, Nat.min_eq_left (by omega)]
theorem book_shaped {ks : List Int} {r : Int} : Shaped (book ks r) := fun i q h => by
  unfold book at h
  rw [List.getElem?_map, Option.map_eq_some_iff] at h
  obtain ⟨j, h, rfl⟩ := h
  obtain ⟨h1, h2⟩ := List.getElem?_eq_some_iff.mp h
  rw [List.getElem_range] at h2
  subst h2
  exact ⟨rfl, rfl⟩
theorem bookOk_app {q : Q4} : ∀ {s : List Int} {B : List Q4}, bookOk s (B ++ [q]) = (bookOk s B && bookOk (B.foldl szStep s) [q])
  | s, [] => (Bool.true_and _).symm
  | s, p :: B => by
    rw [List.cons_append, bookOk_cons, bookOk_cons, bookOk_app, List.foldl_cons]; simp only [Bool.and_assoc]
theorem isBook_book {ks : List Int} {r : Int} (h : 1 ≤ r) (h2 : r ≤ 130) : isBook ks.length (book ks r) = true := by
  have key : bookOk [(ks.length : Int)] (book ks r) = true := by
    refine rooms_ind (p := fun r => bookOk [(ks.length : Int)] (book ks r) = true) rfl (fun r hr ih => ?_) h
    have hw := whole_ok hr
    rw [book_succ hr, bookOk_app, ih, Bool.true_and]
    have e : (book ks r).foldl szStep [(ks.length : Int)] = cnts ks r := sizes_book hr
    have l := cnts_len (ks := ks) (r := r)
    have l2 : ((cnts ks r).length : Int) = r := by omega
    have g := cnts_get (ks := ks) (r := r) (j := r - whole r) (by omega) (by omega)
    rw [e, bookOk_cons]
    simp only [bookAt, l2, g, cnt_part hr, cnt_nonneg, bookOk, decide_true, Bool.and_self, and_self]
  unfold isBook
  rw [key, book_len]
  simp; omega
theorem spill_set {l : List Int} {w t : Int} {a b : Int} (h0 : 0 ≤ t) (h1 : t < l.length) : spillF (l.set t.toNat a ++ [b]) w = spillF l w - (rowsF (l.getD t.toNat 0) w - 1) + (rowsF a w - 1) + (rowsF b w - 1) := by
  obtain ⟨n, rfl⟩ : ∃ n : Nat, t = n := ⟨t.toNat, by omega⟩
  simp only [Int.toNat_natCast]
  have hn : n < l.length := by omega
  clear h0 h1
  unfold spillF
  rw [List.map_append, List.sum_append]
  have key : ∀ (l : List Int) (n : Nat), n < l.length → ((l.set n a).map fun x => rowsF x w - 1).sum = (l.map fun x => rowsF x w - 1).sum - (rowsF (l.getD n 0) w - 1) + (rowsF a w - 1) := by
    intro l
    induction l with
    | nil => intro n h; simp at h
    | cons x l ih =>
      intro n h
      cases n with
      | zero => simp; omega
      | succ n =>
        have := ih n (by simpa using h)
        simp only [List.set_cons_succ, List.map_cons, List.sum_cons, List.getD_cons_succ]
        omega
  rw [key l n hn]
  simp
def sp (ks : List Int) (w r : Int) : Int := spillF (cnts ks r) w
theorem sp_step {ks : List Int} {w r : Int} (h : 1 ≤ r) : sp ks w (r + 1) = sp ks w r + rowsF (cnt ks (r + 1) (r - whole r)) w + rowsF (cnt ks (r + 1) r) w - 1 - rowsF (cnt ks (r + 1) (r - whole r) + cnt ks (r + 1) r) w := by
  have hw := whole_ok h
  unfold sp
  rw [← cnts_step h, spill_set (by omega) (by rw [cnts_len]; omega), cnts_get (by omega) (by omega), cnt_part h]
  omega
theorem Wdc {w : Int} (hw : 0 < w ∧ w ≤ 8) : w = 1 ∨ w = 2 ∨ w = 3 ∨ w = 4 ∨ w = 5 ∨ w = 6 ∨ w = 7 ∨ w = 8 := by omega
theorem rows_two {a b w : Int} (ha : 0 ≤ a) (hb : 0 ≤ b) (hw : 0 < w ∧ w ≤ 8) : rowsF (a + b) w ≤ rowsF a w + rowsF b w ∧ rowsF a w + rowsF b w - 1 ≤ rowsF (a + b) w := by
  unfold rowsF
  rcases Wdc hw with rfl | rfl | rfl | rfl | rfl | rfl | rfl | rfl <;> (split <;> split <;> split <;> omega)
theorem rows_mono {a b w : Int} (h : a ≤ b) (hw : 0 < w ∧ w ≤ 8) : rowsF a w ≤ rowsF b w := by
  unfold rowsF
  rcases Wdc hw with rfl | rfl | rfl | rfl | rfl | rfl | rfl | rfl <;> (split <;> split <;> omega)
/-- with a room more the spill is what it was, or one less -/
theorem sp_fall {ks : List Int} {w r : Int} (h : 1 ≤ r) (hw : 0 < w ∧ w ≤ 8) : sp ks w r - 1 ≤ sp ks w (r + 1) ∧ sp ks w (r + 1) ≤ sp ks w r := by
  have h1 := sp_step (ks := ks) (w := w) h
  have h2 := rows_two (w := w) (cnt_nonneg (ks := ks) (r := r + 1) (j := r - whole r)) (cnt_nonneg (ks := ks) (r := r + 1) (j := r)) hw
  omega
theorem rows_more {m w : Int} (hm : 0 ≤ m) (hw : 0 < w ∧ w ≤ 8) : rowsF m w - 1 = moreR m w := by
  unfold rowsF moreR
  rcases Wdc hw with rfl | rfl | rfl | rfl | rfl | rfl | rfl | rfl <;> (split <;> split <;> omega)
theorem spillR_eq {ns : List Int} {w : Int} (h : ∀ n ∈ ns, 0 ≤ n) (hw : 0 < w ∧ w ≤ 8) : spillR ns w = spillF ns w := by
  unfold spillR spillF
  congr 1
  exact List.map_congr_left fun n hn => (rows_more (h n hn) hw).symm
theorem sp_nonneg {ks : List Int} {w r : Int} (hw : 0 < w ∧ w ≤ 8) : 0 ≤ sp ks w r := by
  unfold sp spillF
  have key : ∀ l : List Int, (∀ c ∈ l, 0 ≤ c) → 0 ≤ (l.map fun n => rowsF n w - 1).sum := by
    intro l
    induction l with
    | nil => intro _; simp
    | cons x l ih =>
      intro h
      have h1 := ih fun c hc => h c (by simp [hc])
      have h2 := (rowsF_le (h x (by simp)) hw).1
      simp only [List.map_cons, List.sum_cons]
      omega
  exact key _ fun c hc => cnts_nonneg hc
/-- stretches of a row of numbers, the first number at 1 -/
def runStep (l : List T3) (x : Int) : List T3 := match l.getLast? with
  | none => l ++ [(1, 2, x)]
  | some (a, b, c) => if x = c then l.dropLast ++ [(a, b + 1, x)] else l ++ [(b, b + 1, x)]
def runs (xs : List Int) : List T3 := xs.foldl runStep []
theorem runs_snoc {xs : List Int} {x : Int} : runs (xs ++ [x]) = runStep (runs xs) x := by unfold runs; rw [List.foldl_append]; rfl
def spsTo (ks : List Int) (w r : Int) : List Int := (rng r).map fun j => sp ks w (j + 1)
theorem spsTo_succ {ks : List Int} {w r : Int} (h : 0 ≤ r) : spsTo ks w (r + 1) = spsTo ks w r ++ [sp ks w (r + 1)] := by
  obtain ⟨n, rfl⟩ : ∃ n : Nat, r = n := ⟨r.toNat, by omega⟩
  unfold spsTo
  rw [rng_succ, List.map_append]; rfl
theorem spsTo_len {ks : List Int} {w r : Int} : (spsTo ks w r).length = r.toNat := by unfold spsTo; rw [List.length_map, rng_len]
theorem runStep_ne {l : List T3} {x : Int} : runStep l x ≠ [] := by
  unfold runStep
  split
  · simp
  · split <;> simp
theorem runs_ne {xs : List Int} (h : xs ≠ []) : runs xs ≠ [] := by
  obtain ⟨ys, y, rfl⟩ : ∃ ys y, xs = ys ++ [y] := ⟨xs.dropLast, xs.getLast h, (List.dropLast_concat_getLast h).symm⟩
  rw [runs_snoc]; exact runStep_ne
/-- the last stretch goes to the number of numbers -/
theorem runs_last {xs : List Int} : ∀ {a b c : Int}, (runs xs).getLast? = some (a, b, c) → b = xs.length + 1 ∧ xs.getLast? = some c := by
  induction h : xs.length generalizing xs with
  | zero => intro a b c e; rw [List.length_eq_zero_iff.mp h] at e; cases e
  | succ n ih0 =>
    obtain ⟨xs, x, rfl⟩ : ∃ ys y, xs = ys ++ [y] := by
      have hne : xs ≠ [] := by intro z; rw [z] at h; cases h
      exact ⟨xs.dropLast, xs.getLast hne, (List.dropLast_concat_getLast hne).symm⟩
    have hl : xs.length = n := by simpa using h
    have ih : ∀ {a b c : Int}, (runs xs).getLast? = some (a, b, c) → b = xs.length + 1 ∧ xs.getLast? = some c := fun {a b c} e => by
      rw [hl]; exact ih0 hl e
    rw [← h]
    intro a b c h
    rw [runs_snoc] at h
    unfold runStep at h
    split at h
    · rename_i e
      have : xs = [] := by
        by_cases hx : xs = []
        · exact hx
        · have := runs_ne hx
          rw [List.getLast?_eq_none_iff] at e
          exact absurd e this
      subst this
      simp at h
      obtain ⟨rfl, rfl, rfl⟩ := h
      simp
    · rename_i a' b' c' e
      obtain ⟨h1, h2⟩ := ih e
      split at h
      · rename_i hx
        simp at h
        obtain ⟨rfl, rfl, rfl⟩ := h
        simp; omega
      · simp at h
        obtain ⟨rfl, rfl, rfl⟩ := h
        simp; omega
theorem spills_book {ks : List Int} {w r : Int} (h : 1 ≤ r) : spillsAll ks.length (book ks r) w = (sp ks w r, runs (spsTo ks w r)) := by
  refine rooms_ind (p := fun r => spillsAll ks.length (book ks r) w = (sp ks w r, runs (spsTo ks w r))) ?_ (fun r hr ih => ?_) h
  · have e : sp ks w 1 = rowsF ks.length w - 1 := by unfold sp; rw [cnts_1]; simp [spillF]
    show (rowsF (ks.length : Int) w - 1, [(1, 2, rowsF (ks.length : Int) w - 1)]) = (_, runs [sp ks w (0 + 1)])
    rw [show (0 : Int) + 1 = 1 from rfl, e]; rfl
  · rw [book_succ hr, spills_snoc, ih, spsTo_succ (by omega), runs_snoc, sp_step hr]
    have hne : runs (spsTo ks w r) ≠ [] := runs_ne (by intro z; have := congrArg List.length z; rw [spsTo_len] at this; simp at this; omega)
    obtain ⟨l, ⟨a, b, c⟩, e⟩ : ∃ l x, runs (spsTo ks w r) = l ++ [x] := ⟨_, _, (List.dropLast_concat_getLast hne).symm⟩
    unfold spStep runStep bookAt
    rw [e]
    simp
end Bt

namespace Bt
theorem keysRaw_app {p : Int} {m : Int} : ∀ {j : Nat} {ms : List Int}, keysRaw p j (ms ++ [m]) = keysRaw p j ms ++ (rng m).map fun k => ((j + ms.length : Nat) : Int) + p * k
  | j, [] => by simp [keysRaw]
  | j, a :: ms => by
    have := keysRaw_app (p := p) (m := m) (j := j + 1) (ms := ms)
    simp only [List.cons_append, keysRaw, this, List.append_assoc, List.length_cons]
    rw [show j + 1 + ms.length = j + (ms.length + 1) by omega]
theorem keysRaw_le {p : Int} : ∀ {j : Nat} {ms ns : List Int}, (keysRaw p j ms).length ≤ (keysRaw p j (ms ++ ns)).length
  | j, [], ns => by simp [keysRaw]
  | j, a :: ms, ns => by
    have := keysRaw_le (p := p) (j := j + 1) (ms := ms) (ns := ns)
    simp only [List.cons_append, keysRaw, List.length_append]; omega
theorem zipIdx_pre {α : Type} {ms : List α} {pre post : List (α × Nat)} {x : α × Nat} (h : ms.zipIdx = pre ++ x :: post) : x.2 = pre.length ∧ ms = pre.map (·.1) ++ x.1 :: post.map (·.1) := by
  have h1 : ms = (pre ++ x :: post).map (·.1) := by rw [← h, List.zipIdx_map_fst]
  refine ⟨?_, by simpa using h1⟩
  have hg : (ms.zipIdx)[pre.length]? = some x := by rw [h]; simp
  rw [List.getElem?_zipIdx, Option.map_eq_some_iff] at hg
  obtain ⟨a, _, rfl⟩ := hg
  simp
end Bt

namespace Bt
theorem flat_set {α : Type} {k : α} : ∀ {rs : List (List α)} {n : Nat}, n < rs.length → (rs.set n (rs.getD n [] ++ [k])).flatten.Perm (rs.flatten ++ [k])
  | [], n, h => by simp at h
  | r :: rs, 0, _ => by
    simp only [List.set_cons_zero, List.getD_cons_zero, List.flatten_cons, List.append_assoc]
    exact List.Perm.append_left r List.perm_append_comm
  | r :: rs, n + 1, h => by
    have := flat_set (k := k) (rs := rs) (n := n) (by simpa using h)
    simp only [List.set_cons_succ, List.getD_cons_succ, List.flatten_cons, List.append_assoc]
    exact List.Perm.append_left r this
theorem map_getD_ll {rs : List (List Int)} {n : Nat} : (rs.map (·.map PySem.PyData.int)).getD n [] = (rs.getD n []).map PySem.PyData.int := by
  rw [List.getD_eq_getElem?_getD, List.getElem?_map, List.getD_eq_getElem?_getD]
  cases rs[n]? <;> rfl
end Bt

namespace Bt
theorem runs_le {xs : List Int} : (runs xs).length ≤ xs.length := by
  have h : ∀ (xs : List Int) (l : List T3), (xs.foldl runStep l).length ≤ l.length + xs.length := by
    intro xs
    induction xs with
    | nil => intro l; exact Nat.le_refl _
    | cons x xs ih =>
      intro l
      rw [List.foldl_cons]
      have h1 := ih (runStep l x)
      have h2 : (runStep l x).length ≤ l.length + 1 := by
        unfold runStep
        split
        · simp
        · split <;> simp <;> omega
      simp only [List.length_cons]; omega
  have := h xs []
  unfold runs
  simpa using this
end Bt

set_option Elab.async false
set_option linter.all false
namespace Bt
open DL
def rowsN (h : List Int) (w n : Nat) : List (List Int) := (List.range n).map fun i => (h.drop (i * w)).take w
theorem rowsN_succ {h : List Int} {w n : Nat} : rowsN h w (n + 1) = h.take w :: rowsN (h.drop w) w n := by
  unfold rowsN
  rw [List.range_succ_eq_map, List.map_cons, List.map_map]
  simp only [Nat.zero_mul, List.drop_zero]
  congr 1
  refine List.map_congr_left fun i _ => ?_
  simp only [Function.comp, List.drop_drop]
  rw [show (i + 1) * w = w + i * w by rw [Nat.succ_mul]; omega]
theorem getLastD_take {h : List Int} {w : Nat} (hw : 0 < w) (hl : h ≠ []) : (h.take w).getLastD 0 = h.getD (min w h.length - 1) 0 := by
  have h0 : 0 < h.length := List.length_pos_iff.mpr hl
  rw [List.getLastD_eq_getLast?, List.getLast?_eq_getElem?, List.length_take, List.getElem?_take, if_pos (by omega), List.getD_eq_getElem?_getD]
theorem look_rowsN {w : Nat} (hw : 0 < w) : ∀ (n : Nat) {h : List Int} {i : Nat} {key c : Int}, h.Pairwise (· < ·) → h[i]? = some key → i < n * w → look (rowsN h w n) key c = (true, c + ((i / w : Nat) : Int) + 1)
  | 0, _, i, _, _, _, _, hi => by omega
  | n + 1, h, i, key, c, hs, hk, hi => by
    have hil : i < h.length := (List.getElem?_eq_some_iff.mp hk).1
    have hki : h[i] = key := (List.getElem?_eq_some_iff.mp hk).2
    have hne : h ≠ [] := by intro z; rw [z] at hil; simp at hil
    have hlast := getLastD_take (h := h) hw hne
    rw [rowsN_succ, look_cons]
    have hne2 : h.take w ≠ [] := by
      intro z
      have := congrArg List.length z
      rw [List.length_take, List.length_nil] at this
      omega
    rcases Nat.lt_or_ge i w with h1 | h1
    · have hle : key ≤ (h.take w).getLastD 0 := by
        rw [hlast, List.getD_eq_getElem?_getD, List.getElem?_eq_getElem (by omega), Option.getD_some, ← hki]
        rcases Nat.lt_or_ge i (min w h.length - 1) with h2 | h2
        · exact Int.le_of_lt (List.pairwise_iff_getElem.mp hs _ _ _ _ h2)
        · have : i = min w h.length - 1 := by omega
          subst this; exact Int.le_refl _
      have hm : key ∈ h.take w := by
        rw [← hki]
        exact List.mem_iff_getElem.mpr ⟨i, by rw [List.length_take]; omega, by rw [List.getElem_take]⟩
      rw [if_pos ⟨hne2, hle⟩, Nat.div_eq_of_lt h1]
      simp [hm]
    · have hgt : ¬ key ≤ (h.take w).getLastD 0 := by
        rw [hlast, List.getD_eq_getElem?_getD, List.getElem?_eq_getElem (by omega), Option.getD_some, ← hki]
        have := List.pairwise_iff_getElem.mp hs (min w h.length - 1) i (by omega) hil (by omega)
        omega
      rw [if_neg fun z => hgt z.2]
      have hk2 : (h.drop w)[i - w]? = some key := by rw [List.getElem?_drop, show w + (i - w) = i by omega]; exact hk
      rw [look_rowsN hw n (hs.drop) hk2 (by rw [Nat.succ_mul] at hi; omega)]
      have e : i / w = (i - w) / w + 1 := by
        rw [← Nat.add_div_right _ hw]
        congr 1; omega
      rw [e]
      simp; omega
theorem srt_id {ns : List Int} (h : ns.Pairwise (· ≤ ·)) : srt ns = ns := (srt_of (.refl ns) h).symm
theorem sorted_le {ns : List Int} (h : ns.Pairwise (· < ·)) : ns.Pairwise (· ≤ ·) := h.imp Int.le_of_lt
theorem rows_cover {m w : Int} (hm : 0 ≤ m) (hw : 0 < w ∧ w ≤ 8) : m ≤ rowsF m w * w := by
  unfold rowsF
  rcases Wdc hw with rfl | rfl | rfl | rfl | rfl | rfl | rfl | rfl <;> (split <;> omega)
theorem look_in {h : List Int} {w : Int} {i : Nat} {key : Int} (hw : 0 < w ∧ w ≤ 8) (hs : h.Pairwise (· < ·)) (hk : h[i]? = some key) : look (rowsOf h w) key 0 = (true, ((i / w.toNat : Nat) : Int) + 1) := by
  have hil : i < h.length := (List.getElem?_eq_some_iff.mp hk).1
  have hc := rows_cover (m := h.length) (by omega) hw
  have h1 := (rowsF_le (m := h.length) (by omega) hw).1
  have e : rowsOf h w = rowsN h w.toNat (rowsF h.length w).toNat := by unfold rowsOf rowsN; rw [srt_id (sorted_le hs)]
  have e2 : (rowsF (h.length : Int) w).toNat * w.toNat = (rowsF (h.length : Int) w * w).toNat := by rw [Int.toNat_mul (by omega) (by omega)]
  rw [e, look_rowsN (by omega) _ hs hk (by rw [e2]; omega)]
  simp
/-- all looks in a room of n keys -/
def lk (w : Nat) : Nat → Int
  | 0 => 0
  | n + 1 => lk w n + ((n / w : Nat) : Int) + 1
theorem lk_succ {w n : Nat} : lk w (n + 1) = lk w n + ((n / w : Nat) : Int) + 1 := rfl
theorem lk_nonneg {w n : Nat} : 0 ≤ lk w n := by
  induction n with
  | zero => simp [lk]
  | succ n ih =>
    rw [lk_succ]
    have h : (0 : Int) ≤ ((n / w : Nat) : Int) := Int.natCast_nonneg _
    generalize ((n / w : Nat) : Int) = x at *
    omega
theorem lk_add {w a b : Nat} : lk w a + lk w b ≤ lk w (a + b) := by
  induction b with
  | zero => simp [lk]
  | succ b ih =>
    have h1 : b / w ≤ (a + b) / w := Nat.div_le_div_right (by omega)
    have h2 : ((b / w : Nat) : Int) ≤ (((a + b) / w : Nat) : Int) := Int.ofNat_le.mpr h1
    have e1 := lk_succ (w := w) (n := b)
    have e2 : lk w (a + (b + 1)) = lk w (a + b) + (((a + b) / w : Nat) : Int) + 1 := rfl
    rw [e1, e2]
    generalize ((b / w : Nat) : Int) = x at *
    generalize (((a + b) / w : Nat) : Int) = y at *
    omega
theorem sum_set {f : Int → Int} {l : List Int} {t : Int} {a b : Int} (h0 : 0 ≤ t) (h1 : t < l.length) : ((l.set t.toNat a ++ [b]).map f).sum = (l.map f).sum - f (l.getD t.toNat 0) + f a + f b := by
  obtain ⟨n, rfl⟩ : ∃ n : Nat, t = n := ⟨t.toNat, by omega⟩
  simp only [Int.toNat_natCast]
  have hn : n < l.length := by omega
  clear h0 h1
  rw [List.map_append, List.sum_append]
  have key : ∀ (l : List Int) (n : Nat), n < l.length → ((l.set n a).map f).sum = (l.map f).sum - f (l.getD n 0) + f a := by
    intro l
    induction l with
    | nil => intro n h; simp at h
    | cons x l ih =>
      intro n h
      cases n with
      | zero => simp; omega
      | succ n =>
        have := ih n (by simpa using h)
        simp only [List.set_cons_succ, List.map_cons, List.sum_cons, List.getD_cons_succ]
        omega
  rw [key l n hn]
  simp
/-- how many looks there are in all -/
def lkAll (ks : List Int) (w r : Int) : Int := ((cnts ks r).map fun c => lk w.toNat c.toNat).sum
theorem lkAll_step {ks : List Int} {w r : Int} (h : 1 ≤ r) : lkAll ks w (r + 1) ≤ lkAll ks w r := by
  have hw := whole_ok h
  have hp := cnt_part (ks := ks) h
  have n1 := cnt_nonneg (ks := ks) (r := r + 1) (j := r - whole r)
  have n2 := cnt_nonneg (ks := ks) (r := r + 1) (j := r)
  have e := lk_add (w := w.toNat) (a := (cnt ks (r + 1) (r - whole r)).toNat) (b := (cnt ks (r + 1) r).toNat)
  rw [← Int.toNat_add n1 n2, hp] at e
  unfold lkAll
  rw [← cnts_step h, sum_set (by omega) (by rw [cnts_len]; omega), cnts_get (by omega) (by omega)]
  omega
theorem lkAll_mono {ks : List Int} {w r s : Int} (h : 1 ≤ r) (hs : r ≤ s) : lkAll ks w s ≤ lkAll ks w r := by
  obtain ⟨n, rfl⟩ : ∃ n : Nat, s = r + n := ⟨(s - r).toNat, by omega⟩
  clear hs
  induction n with
  | zero => simp
  | succ n ih =>
    have := lkAll_step (ks := ks) (w := w) (r := r + n) (by omega)
    rw [show r + ((n + 1 : Nat) : Int) = r + n + 1 by omega]
    omega
theorem sum_lk {w : Int} (hw : 0 < w ∧ w ≤ 8) {h : List Int} (hs : h.Pairwise (· < ·)) : (h.map fun k => (look (rowsOf h w) k 0).2).sum = lk w.toNat h.length := by
  have key : ∀ n, n ≤ h.length → ((h.take n).map fun k => (look (rowsOf h w) k 0).2).sum = lk w.toNat n := by
    intro n
    induction n with
    | zero => intro _; simp [lk]
    | succ n ih =>
      intro hn
      have hk : h[n]? = some h[n] := List.getElem?_eq_getElem (by omega)
      rw [List.take_succ, hk, List.map_append, List.sum_append, ih (by omega)]
      have := look_in hw hs hk
      simp [this, lk]; omega
  have := key h.length (Nat.le_refl _)
  rwa [List.take_length] at this
theorem inRoom_sorted {ks : List Int} {r j : Int} (h : ks.Pairwise (· < ·)) : (inRoom ks r j).Pairwise (· < ·) := h.filter _
theorem srt_lt {ks : List Int} (h : ks.Nodup) : (srt ks).Pairwise (· < ·) := by
  have h1 := srt_sorted ks
  have h2 : (srt ks).Nodup := (srt_perm ks).nodup_iff.mpr h
  exact (h1.and h2).imp fun ⟨a, b⟩ => by omega
theorem looks_sum {ks : List Int} {w r : Int} (hk : ks.Nodup) (hw : 0 < w ∧ w ≤ 8) : ((looksRaw ks r w).map (·.2)).sum = lkAll ks w r := by
  unfold looksRaw lkAll lots cnts
  rw [List.flatMap_def, List.map_flatten, List.map_map, List.map_map, List.map_map]
  have e : ∀ l : List Int, ((l.map ((List.map (·.2)) ∘ (fun h => h.map fun k => (k, (look (rowsOf h w) k 0).2)) ∘ fun j => inRoom (srt ks) r j)).flatten).sum = (l.map ((fun c => lk w.toNat c.toNat) ∘ fun j => cnt ks r j)).sum := by
    intro l
    induction l with
    | nil => rfl
    | cons j l ih =>
      rw [List.map_cons, List.flatten_cons, List.sum_append, ih, List.map_cons, List.sum_cons]
      congr 1
      simp only [Function.comp, List.map_map]
      have := sum_lk hw (inRoom_sorted (r := r) (j := j) (srt_lt hk))
      have e2 : (cnt ks r j).toNat = (inRoom (srt ks) r j).length := by
        unfold cnt inRoom
        rw [((srt_perm ks).filter _).length_eq]; omega
      rw [e2, ← this]; rfl
  exact e (rng r)
theorem mod_pw {k : Int} {n : Nat} : 0 ≤ k % pw n ∧ k % pw n < pw n ∧ ((k / pw n % 2 = 0 ∧ k % pw (n + 1) = k % pw n) ∨ (k / pw n % 2 = 1 ∧ k % pw (n + 1) = k % pw n + pw n)) := by
  have := mod2c (k := k) (pw_pos n)
  rw [pw_s]; exact this
theorem low_eq {a b : Int} : ∀ {n : Nat}, (∀ m, m < n → a / pw m % 2 = b / pw m % 2) → a % pw n = b % pw n
  | 0, _ => by rw [pw_0]; omega
  | n + 1, h => by
    have ih := low_eq (n := n) fun m hm => h m (by omega)
    have h1 := mod_pw (k := a) (n := n)
    have h2 := mod_pw (k := b) (n := n)
    have h3 := h n (by omega)
    omega
theorem low_sub {a b : Int} {m n : Nat} (h : a % pw n = b % pw n) (hm : m ≤ n) : a % pw m = b % pw m := by
  have hd : pw m ∣ pw n := by
    obtain ⟨d, rfl⟩ := Nat.le.dest hm
    refine ⟨pw d, ?_⟩
    unfold pw
    rw [Nat.pow_add]
    simp
  rw [← Int.emod_emod_of_dvd a hd, ← Int.emod_emod_of_dvd b hd, h]
theorem room_low {a b r : Int} {n : Nat} (h : a % pw n = b % pw n) (hr : 1 ≤ r) (hn : lev r + 1 ≤ n) : room a r = room b r := by
  have h1 := low_sub h (show lev r ≤ n by omega)
  have h2 := low_sub h hn
  rw [pw_s] at h2
  unfold room whole
  rw [h1, h2]
/-- p is where two keys part -/
def PartsAt (a b p : Int) : Prop := 1 ≤ p ∧ room a p ≠ room b p ∧ ∀ r, 1 ≤ r → r < p → room a r = room b r
theorem parts_bit {a b : Int} {n : Nat} (h : Bit1 a b n) : PartsAt a b (partAt a b n) := by
  obtain ⟨h1, h2⟩ := h
  have hl := low_eq h1
  have ha := mod_pw (k := a) (n := n)
  have hb := mod_pw (k := b) (n := n)
  have hp := pw_pos n
  -- c the common low part; the room number
  have hpart : partAt a b n = a % pw n + pw n + 1 := by
    unfold partAt
    split <;> omega
  rw [hpart]
  refine ⟨by omega, ?_, fun r hr hr2 => ?_⟩
  · have hlow : a % pw (n + 1) ≠ b % pw (n + 1) := by omega
    by_cases hc : a % pw n + pw n + 1 < 2 * pw n
    · have hw : whole (a % pw n + pw n + 1) = pw n := whole_of (by omega) hc
      unfold room
      rw [hw, ← pw_s, if_pos (by omega), if_pos (by omega)]
      exact hlow
    · have e : a % pw n + pw n + 1 = pw (n + 1) := by rw [pw_s]; omega
      have hw : whole (a % pw n + pw n + 1) = pw (n + 1) := whole_of (by omega) (by omega)
      have h3 := Int.emod_nonneg a (b := pw (n + 1)) (by have := pw_pos (n + 1); omega)
      have h4 := Int.emod_nonneg b (b := pw (n + 1)) (by have := pw_pos (n + 1); omega)
      unfold room
      rw [hw, if_neg (by omega), if_neg (by omega)]
      exact hlow
  · by_cases hc : r < pw n
    · have := lev_lt hr hc
      exact room_low hl hr (by omega)
    · have hw : whole r = pw n := whole_of (by omega) (by omega)
      unfold room
      rw [hw, if_neg (by omega), if_neg (by omega), hl]
/-- keys that are parted stay so -/
theorem parted_on {a b r s : Int} (h : 1 ≤ r) (hs : r ≤ s) (hd : room a r ≠ room b r) : room a s ≠ room b s := by
  obtain ⟨n, rfl⟩ : ∃ n : Nat, s = r + n := ⟨(s - r).toNat, by omega⟩
  clear hs
  induction n with
  | zero => simpa using hd
  | succ n ih =>
    have hr : 1 ≤ r + (n : Int) := by omega
    have ha := room_step (k := a) hr
    have hb := room_step (k := b) hr
    have ba := room_bd (k := a) hr
    have bb := room_bd (k := b) hr
    rw [show r + ((n + 1 : Nat) : Int) = r + n + 1 by omega, ha, hb]
    split <;> split <;> omega
theorem parts_iff {a b p r : Int} (h : PartsAt a b p) (hr : 1 ≤ r) : room a r ≠ room b r ↔ p ≤ r := by
  refine ⟨fun hd => ?_, fun hp => parted_on h.1 hp h.2.1⟩
  rcases Int.lt_or_le r p with h1 | h1
  · exact absurd (h.2.2 r hr h1) hd
  · exact h1
theorem parts_sym {a b p : Int} (h : PartsAt a b p) : PartsAt b a p := ⟨h.1, fun z => h.2.1 z.symm, fun r h1 h2 => (h.2.2 r h1 h2).symm⟩
theorem parts_unique {a b p q : Int} (h : PartsAt a b p) (h' : PartsAt a b q) : p = q := by
  have h1 := (parts_iff h h'.1).mp h'.2.1
  have h2 := (parts_iff h' h.1).mp h.2.1
  omega
/-- unlike numbers have a bit unlike -/
theorem bit_ex {a b : Int} {N : Nat} (ha : 0 ≤ a ∧ a < pw N) (hb : 0 ≤ b ∧ b < pw N) (h : a ≠ b) : ∃ n, n < N ∧ Bit1 a b n := by
  have key : ∀ n : Nat, (∃ m, m < n ∧ Bit1 a b m) ∨ ∀ m, m < n → a / pw m % 2 = b / pw m % 2 := by
    intro n
    induction n with
    | zero => exact .inr fun m hm => by omega
    | succ n ih =>
      rcases ih with ⟨m, hm, h1⟩ | ih
      · exact .inl ⟨m, by omega, h1⟩
      · by_cases e : a / pw n % 2 = b / pw n % 2
        · refine .inr fun m hm => ?_
          by_cases e2 : m = n
          · rw [e2]; exact e
          · exact ih m (by omega)
        · exact .inl ⟨n, by omega, ih, e⟩
  rcases key N with h1 | h1
  · exact h1
  · have := low_eq h1
    rw [Int.emod_eq_of_lt ha.1 ha.2, Int.emod_eq_of_lt hb.1 hb.2] at this
    exact absurd this h
/-- of three partings the two least are one -/
theorem parts_three {a b c p q s : Int} (h1 : PartsAt a b p) (h2 : PartsAt b c q) (h3 : PartsAt a c s) : (p ≤ q → p ≤ s → p = q ∨ p = s) ∧ (q ≤ p → q ≤ s → q = p ∨ q = s) ∧ (s ≤ p → s ≤ q → s = p ∨ s = q) := by
  have i1 := fun r hr => parts_iff h1 (r := r) hr
  have i2 := fun r hr => parts_iff h2 (r := r) hr
  have i3 := fun r hr => parts_iff h3 (r := r) hr
  refine ⟨fun e1 e2 => ?_, fun e1 e2 => ?_, fun e1 e2 => ?_⟩
  · have a1 := i2 p h1.1
    have a2 := i3 p h1.1
    have a3 := h1.2.1
    omega
  · have a1 := i1 q h2.1
    have a2 := i3 q h2.1
    have a3 := h2.2.1
    omega
  · have a1 := i1 s h3.1
    have a2 := i2 s h3.1
    have a3 := h3.2.1
    omega
end Bt

set_option Elab.async false
set_option linter.all false
namespace Bt
open DL
theorem in_perm {a b : List Int} (h : a.Perm b) {r j : Int} : (inRoom a r j).Perm (inRoom b r j) := h.filter _
theorem cnt_perm {a b : List Int} (h : a.Perm b) {r j : Int} : cnt a r j = cnt b r j := by
  unfold cnt; rw [(in_perm h).length_eq]
theorem cnts_perm {a b : List Int} (h : a.Perm b) {r : Int} : cnts a r = cnts b r := List.map_congr_left fun _ _ => cnt_perm h
theorem book_perm {a b : List Int} (h : a.Perm b) {r : Int} : book a r = book b r := by
  unfold book bookAt
  refine List.map_congr_left fun i _ => ?_
  rw [cnt_perm h, cnt_perm h]
theorem in_flat {r j : Int} : ∀ {rs : List (List Int)}, inRoom rs.flatten r j = (rs.map fun x => inRoom x r j).flatten
  | [] => rfl
  | x :: rs => by
    have := in_flat (r := r) (j := j) (rs := rs)
    unfold inRoom at this ⊢
    rw [List.flatten_cons, List.filter_append, this]; rfl
theorem cnt_flat {r j : Int} : ∀ {rs : List (List Int)}, cnt rs.flatten r j = (rs.map fun x => cnt x r j).sum
  | [] => rfl
  | x :: rs => by
    have := cnt_flat (r := r) (j := j) (rs := rs)
    unfold cnt inRoom at this ⊢
    rw [List.flatten_cons, List.filter_append, List.length_append, List.map_cons, List.sum_cons, ← this]
    omega
/-- counts tell books -/
theorem cnts_down {a b : List Int} {r : Int} (h : 1 ≤ r) (e : ∀ j, 0 ≤ j → j < r + 1 → cnt a (r + 1) j = cnt b (r + 1) j) : ∀ j, 0 ≤ j → j < r → cnt a r j = cnt b r j := fun j h0 h1 => by
  have hw := whole_ok h
  by_cases ej : j = r - whole r
  · subst ej
    rw [← cnt_part h, ← cnt_part h, e _ (by omega) (by omega), e _ (by omega) (by omega)]
  · have := e j h0 (by omega)
    unfold cnt at this ⊢
    rw [in_else h ej h1, in_else h ej h1] at this
    exact this
theorem book_cnts {a b : List Int} {r : Int} (h : 1 ≤ r) (e : ∀ j, 0 ≤ j → j < r → cnt a r j = cnt b r j) : book a r = book b r := by
  revert e
  refine rooms_ind (p := fun r => (∀ j, 0 ≤ j → j < r → cnt a r j = cnt b r j) → book a r = book b r) (fun _ => rfl) (fun r hr ih e => ?_) h
  have hw := whole_ok hr
  rw [book_succ hr, book_succ hr, ih (cnts_down hr e)]
  unfold bookAt
  rw [e _ (by omega) (by omega), e _ (by omega) (by omega)]
theorem sum_cnts {ks : List Int} {r : Int} (h : 1 ≤ r) : (cnts ks r).sum = ks.length := by
  have := (part_perm h ks).length_eq
  rw [List.length_flatMap] at this
  unfold cnts cnt
  rw [← this]
  generalize rng r = l
  induction l with
  | nil => rfl
  | cons x l ih => rw [List.map_cons, List.sum_cons, List.map_cons, List.sum_cons, ih]; omega
theorem by_pos {j r : Int} (h : 1 ≤ r) : 0 < by_ j r := by
  have := whole_ok h
  unfold by_; split <;> omega
theorem by_gt {j r : Int} (h : 1 ≤ r) (h0 : 0 ≤ j) (h1 : j < r) : j < by_ j r := by
  have := whole_ok h
  unfold by_; split <;> omega
theorem by_dvd {j r : Int} : by_ j r ∣ 2 * whole r := by
  unfold by_; split
  · exact ⟨1, by omega⟩
  · exact ⟨2, by omega⟩
theorem room_place {j r k : Int} (h : 1 ≤ r) (h0 : 0 ≤ j) (h1 : j < r) : room (j + 2 * whole r * k) r = j := by
  rw [← by_room h h0 h1]
  obtain ⟨d, e⟩ := by_dvd (j := j) (r := r)
  rw [e, Int.mul_assoc, Int.add_mul_emod_self_left]
  exact Int.emod_eq_of_lt h0 (by_gt h h0 h1)
theorem keysRaw_mem {p k : Int} : ∀ {j : Nat} {ms : List Int}, k ∈ keysRaw p j ms → ∃ (i : Nat) (n : Int), i < ms.length ∧ 0 ≤ n ∧ n < ms.getD i 0 ∧ k = ((j + i : Nat) : Int) + p * n
  | _, [], h => by simp [keysRaw] at h
  | j, m :: ms, h => by
    simp only [keysRaw, List.mem_append, List.mem_map] at h
    rcases h with ⟨n, hn, rfl⟩ | h
    · obtain ⟨h1, h2⟩ := rng_mem.mp hn
      exact ⟨0, n, by simp, h1, by simpa using h2, by simp⟩
    · obtain ⟨i, n, h1, h2, h3, rfl⟩ := keysRaw_mem h
      exact ⟨i + 1, n, by simpa using h1, h2, by simpa using h3, by rw [show j + (i + 1) = j + 1 + i by omega]⟩
theorem rng_nodup {r : Int} : (rng r).Nodup := by
  unfold rng
  exact List.Pairwise.map _ (fun a b h => by omega) (List.nodup_range (n := r.toNat))
theorem keysRaw_cnt {r : Int} (h : 1 ≤ r) {t : Nat} : ∀ {j : Nat} {ms : List Int}, (j + ms.length : Int) ≤ r → (∀ m ∈ ms, 0 ≤ m) → cnt (keysRaw (2 * whole r) j ms) r t = if j ≤ t ∧ t < j + ms.length then ms.getD (t - j) 0 else 0
  | j, [], _, _ => by simp [keysRaw, cnt, inRoom]
  | j, m :: ms, hl, hm => by
    have ih := keysRaw_cnt h (t := t) (j := j + 1) (ms := ms) (by simp at hl ⊢; omega) fun x hx => hm x (by simp [hx])
    have hm0 := hm m (by simp)
    simp only [List.length_cons] at hl
    have e1 : cnt ((rng m).map fun k => (j : Int) + 2 * whole r * k) r t = if t = j then m else 0 := by
      unfold cnt inRoom
      by_cases e : t = j
      · subst e
        rw [List.filter_eq_self.mpr, List.length_map, rng_len, if_pos rfl]
        · omega
        · intro a ha
          obtain ⟨k, _, rfl⟩ := List.mem_map.mp ha
          rw [room_place h (by omega) (by omega)]; simp
      · rw [List.filter_eq_nil_iff.mpr, if_neg e]
        · rfl
        intro a ha
        obtain ⟨k, _, rfl⟩ := List.mem_map.mp ha
        rw [room_place h (by omega) (by omega)]
        simp; omega
    have e2 : cnt (keysRaw (2 * whole r) j (m :: ms)) r t = cnt ((rng m).map fun k => (j : Int) + 2 * whole r * k) r t + cnt (keysRaw (2 * whole r) (j + 1) ms) r t := by
      unfold cnt inRoom
      rw [keysRaw, List.filter_append, List.length_append]; omega
    rw [e2, e1, ih]
    by_cases c1 : t = j
    · subst c1
      rw [if_pos rfl, if_neg (by omega), if_pos (by simp)]
      simp
    · rw [if_neg c1]
      by_cases c2 : j + 1 ≤ t ∧ t < j + 1 + ms.length
      · rw [if_pos c2, if_pos (by simp; omega), show t - j = (t - (j + 1)) + 1 by omega]
        simp
      · rw [if_neg c2, if_neg (by simp; omega)]; rfl
theorem keysRaw_nodup {r : Int} (h : 1 ≤ r) : ∀ {j : Nat} {ms : List Int}, (j + ms.length : Int) ≤ r → (keysRaw (2 * whole r) j ms).Nodup
  | j, [], _ => by simp [keysRaw]
  | j, m :: ms, hl => by
    have ih := keysRaw_nodup h (j := j + 1) (ms := ms) (by simp at hl ⊢; omega)
    have hw := whole_ok h
    simp only [List.length_cons] at hl
    rw [keysRaw, List.nodup_append]
    refine ⟨List.Pairwise.map _ (fun a b hab => ?_) rng_nodup, ih, fun a ha b hb e => ?_⟩
    · intro z
      have : 2 * whole r * a = 2 * whole r * b := by omega
      exact hab (Int.eq_of_mul_eq_mul_left (by omega) this)
    · subst e
      obtain ⟨k, _, rfl⟩ := List.mem_map.mp ha
      obtain ⟨i, n, h1, _, _, e⟩ := keysRaw_mem hb
      have e1 := room_place (k := k) h (j := (j : Int)) (by omega) (by omega)
      have e2 := room_place (k := n) h (j := ((j + 1 + i : Nat) : Int)) (by omega) (by omega)
      rw [e, e2] at e1
      omega
theorem keysRaw_len {p : Int} : ∀ {j : Nat} {ms : List Int}, (∀ m ∈ ms, 0 ≤ m) → ((keysRaw p j ms).length : Int) = ms.sum
  | _, [], _ => rfl
  | j, m :: ms, h => by
    have := keysRaw_len (p := p) (j := j + 1) (ms := ms) fun x hx => h x (by simp [hx])
    have := h m (by simp)
    simp only [keysRaw, List.length_append, List.length_map, rng_len, List.sum_cons]
    omega
/-- what keys told for the book of some keys are -/
theorem keysFor_book {ks : List Int} {m : Int} (h : 1 ≤ m) (hm : m ≤ 50) (hk : ks.length ≤ 120) :
    (∀ s ∈ sizes ks.length (book ks m), 0 ≤ s ∧ s ≤ 120) ∧ (keysRaw (2 * whole (sizes ks.length (book ks m)).length) 0 (sizes ks.length (book ks m))).length = ks.length ∧
    (keysFor ks.length (book ks m)).length = ks.length ∧ (keysFor ks.length (book ks m)).Nodup ∧ (∀ k ∈ keysFor ks.length (book ks m), 0 ≤ k ∧ k < 2 ^ 60) ∧ book (keysFor ks.length (book ks m)) m = book ks m := by
  have hl : ((cnts ks m).length : Int) = m := by rw [cnts_len]; omega
  have hn : ∀ c ∈ cnts ks m, 0 ≤ c := fun c hc => cnts_nonneg hc
  have hw := whole_ok h
  have hraw : ((keysRaw (2 * whole m) 0 (cnts ks m)).length : Int) = ks.length := by rw [keysRaw_len hn, sum_cnts h]
  unfold keysFor
  rw [sizes_book h, hl]
  have hp := srt_perm (keysRaw (2 * whole m) 0 (cnts ks m))
  refine ⟨fun s hs => ⟨cnts_nonneg hs, ?_⟩, by omega, by rw [hp.length_eq]; omega, hp.nodup_iff.mpr (keysRaw_nodup h (by omega)), fun k hk2 => ?_, ?_⟩
  · have := cnts_le hs; omega
  · obtain ⟨i, n, h1, h2, h3, rfl⟩ := keysRaw_mem (hp.mem_iff.mp hk2)
    have h4 : (cnts ks m).getD i 0 ≤ ks.length := by
      rw [List.getD_eq_getElem?_getD, List.getElem?_eq_getElem h1]
      exact cnts_le (List.getElem_mem h1)
    have h5 : 2 * whole m * n ≤ 100 * 120 := Int.mul_le_mul (by omega) (by omega) h2 (by omega)
    have h6 : 0 ≤ 2 * whole m * n := Int.mul_nonneg (by omega) h2
    omega
  · rw [book_perm hp]
    refine book_cnts h fun j h0 h1 => ?_
    obtain ⟨t, rfl⟩ : ∃ t : Nat, j = t := ⟨j.toNat, by omega⟩
    rw [keysRaw_cnt h (by omega) hn, if_pos (by omega)]
    have := cnts_get (ks := ks) h0 h1
    simpa using this
theorem rows_sum {w : Int} (hw : 0 < w ∧ w ≤ 8) : ∀ {ns : List Int}, ns ≠ [] → (∀ n ∈ ns, 0 ≤ n) → 0 ≤ ns.sum ∧ (ns.map fun n => rowsF n w - 1).sum ≤ rowsF ns.sum w - 1 ∧ rowsF ns.sum w - 1 ≤ (ns.map fun n => rowsF n w - 1).sum + (ns.length - 1)
  | [], h, _ => absurd rfl h
  | [a], _, h => by
    have := h a (by simp)
    simp; omega
  | a :: b :: ns, _, h => by
    have ih := rows_sum hw (ns := b :: ns) (by simp) fun n hn => h n (List.mem_cons_of_mem _ hn)
    have ha := h a (by simp)
    have h2 := rows_two (w := w) ha ih.1 hw
    simp only [List.map_cons, List.sum_cons, List.length_cons] at ih h2 ⊢
    omega
theorem sum_swap {α β : Type} (f : α → β → Int) (xs : List α) : ∀ ys : List β, (xs.map fun x => (ys.map fun y => f x y).sum).sum = (ys.map fun y => (xs.map fun x => f x y).sum).sum
  | [] => by
    induction xs with
    | nil => rfl
    | cons x xs ih => simpa using ih
  | y :: ys => by
    have ih := sum_swap f xs ys
    simp only [List.map_cons, List.sum_cons]
    rw [← ih]
    clear ih
    induction xs with
    | nil => rfl
    | cons x xs ih => simp only [List.map_cons, List.sum_cons]; omega
theorem spill_sum {rs : List (List Int)} {ks : List Int} {w r : Int} (hw : 0 < w ∧ w ≤ 8) (hr : 1 ≤ r) (hne : rs ≠ []) (hp : ks.Perm rs.flatten) : (rs.map fun x => spillF (cnts x r) w).sum ≤ spillF (cnts ks r) w ∧ spillF (cnts ks r) w ≤ (rs.map fun x => spillF (cnts x r) w).sum + r * (rs.length - 1) := by
  have e1 : (rs.map fun x => spillF (cnts x r) w).sum = ((rng r).map fun j => (rs.map fun x => rowsF (cnt x r j) w - 1).sum).sum := by
    rw [← sum_swap]
    congr 1
    refine List.map_congr_left fun x _ => ?_
    unfold spillF cnts
    rw [List.map_map]; rfl
  have e2 : spillF (cnts ks r) w = ((rng r).map fun j => rowsF (cnt ks r j) w - 1).sum := by
    unfold spillF cnts
    rw [List.map_map]; rfl
  have e3 : r = ((rng r).length : Int) := by rw [rng_len]; omega
  have key : ∀ l : List Int, (l.map fun j => (rs.map fun x => rowsF (cnt x r j) w - 1).sum).sum ≤ (l.map fun j => rowsF (cnt ks r j) w - 1).sum ∧ (l.map fun j => rowsF (cnt ks r j) w - 1).sum ≤ (l.map fun j => (rs.map fun x => rowsF (cnt x r j) w - 1).sum).sum + l.length * (rs.length - 1) := by
    intro l
    induction l with
    | nil => simp
    | cons j l ih =>
      have h := rows_sum hw (ns := rs.map fun x => cnt x r j) (by simpa using hne) fun n hn => by
        obtain ⟨x, _, rfl⟩ := List.mem_map.mp hn
        exact cnt_nonneg
      rw [← cnt_flat, ← cnt_perm hp, List.map_map, List.length_map] at h
      have h' : ((fun n => rowsF n w - 1) ∘ fun x => cnt x r j) = fun x => rowsF (cnt x r j) w - 1 := rfl
      rw [h'] at h
      simp only [List.map_cons, List.sum_cons, List.length_cons]
      rw [show ((l.length + 1 : Nat) : Int) * ((rs.length : Int) - 1) = l.length * ((rs.length : Int) - 1) + (rs.length - 1) by rw [Int.natCast_add, Int.add_mul]; omega]
      omega
  have := key (rng r)
  rw [← e3, ← e1, ← e2] at this
  exact this
theorem runs_head {x : Int} : ∀ {xs : List Int}, ∃ b l, runs (x :: xs) = (1, b, x) :: l := by
  intro xs
  induction h : xs.length generalizing xs with
  | zero => rw [List.length_eq_zero_iff.mp h]; exact ⟨2, [], rfl⟩
  | succ n ih =>
    obtain ⟨ys, y, rfl⟩ : ∃ ys y, xs = ys ++ [y] := by
      have hne : xs ≠ [] := by intro z; rw [z] at h; cases h
      exact ⟨xs.dropLast, xs.getLast hne, (List.dropLast_concat_getLast hne).symm⟩
    obtain ⟨b, l, e⟩ := ih (xs := ys) (by simpa using h)
    rw [← List.cons_append, runs_snoc, e]
    unfold runStep
    split
    · exact ⟨b, _, rfl⟩
    · rename_i a' b' c' e'
      split
      · cases l with
        | nil =>
          simp at e'
          obtain ⟨rfl, rfl, rfl⟩ := e'
          rename_i hy
          subst hy
          exact ⟨b + 1, [], rfl⟩
        | cons z l => exact ⟨b, _, rfl⟩
      · exact ⟨b, _, rfl⟩
theorem spills_first {ks : List Int} {w m : Int} (h : 1 ≤ m) : ∃ b l, spillsBy ks.length (book ks m) w = (1, b, rowsF ks.length w - 1) :: l := by
  unfold spillsBy
  rw [spills_book h]
  obtain ⟨n, rfl⟩ : ∃ n : Nat, m = (n : Int) + 1 := ⟨(m - 1).toNat, by omega⟩
  have e : spsTo ks w ((n : Int) + 1) = sp ks w 1 :: (spsTo ks w ((n : Int) + 1)).tail := by
    unfold spsTo rng
    rw [show ((n : Int) + 1).toNat = n + 1 by omega, List.range_succ_eq_map]
    rfl
  have e1 : sp ks w 1 = rowsF ks.length w - 1 := by unfold sp; rw [cnts_1]; simp [spillF]
  show ∃ b l, runs (spsTo ks w ((n : Int) + 1)) = _
  rw [e, e1]
  exact runs_head
theorem spills_last {ks : List Int} {w m : Int} (h : 1 ≤ m) : ∃ l a c, spillsBy ks.length (book ks m) w = l ++ [(a, m + 1, c)] := by
  unfold spillsBy
  rw [spills_book h]
  have hne : runs (spsTo ks w m) ≠ [] := runs_ne (by intro z; have := congrArg List.length z; rw [spsTo_len] at this; simp at this; omega)
  obtain ⟨l, ⟨a, b, c⟩, e⟩ : ∃ l x, runs (spsTo ks w m) = l ++ [x] := ⟨_, _, (List.dropLast_concat_getLast hne).symm⟩
  have := (runs_last (xs := spsTo ks w m) (a := a) (b := b) (c := c) (by rw [e]; simp)).1
  rw [spsTo_len] at this
  refine ⟨l, a, c, ?_⟩
  show runs _ = _
  rw [e, this, show (((m.toNat : Nat) : Int) + 1) = m + 1 by omega]
theorem room_on {k s r : Int} (hs : 1 ≤ s) (h : s ≤ r) : room k r % by_ (room k s) s = room k s := by
  obtain ⟨n, rfl⟩ : ∃ n : Nat, r = s + n := ⟨(r - s).toNat, by omega⟩
  have hb := room_bd (k := k) hs
  clear h
  induction n with
  | zero => simpa using Int.emod_eq_of_lt hb.1 (by_gt hs hb.1 hb.2)
  | succ n ih =>
    have hr : 1 ≤ s + (n : Int) := by omega
    rw [show s + ((n + 1 : Nat) : Int) = s + n + 1 by omega, room_step hr]
    split
    · rename_i h
      rw [h.1] at ih
      have hw := whole_ok hr
      have hws := whole_ok hs
      have hbr := room_bd (k := k) hr
      generalize hj : room k s = j at *
      have hg := by_gt hs hb.1 hb.2
      have hd : by_ j s ∣ whole (s + n) := by
        by_cases e : lev s = lev (s + n)
        · have e2 : whole (s + n) = whole s := by unfold whole; rw [e]
          unfold by_ at ih ⊢
          split
          · rename_i hc
            rw [if_pos hc, e2, Int.emod_eq_of_lt (by omega) (by omega)] at ih
            omega
          · rw [e2]; exact ⟨1, by omega⟩
        · have hlt : lev s < lev (s + n) := by
            rcases Nat.lt_or_ge (lev s) (lev (s + n)) with h1 | h1
            · exact h1
            · have h2 : lev (s + n) < lev s := by omega
              have := pw_lt h2
              unfold whole at hw hws
              omega
          have : 2 * whole s ∣ whole (s + n) := by
            unfold whole
            rw [← pw_s]
            obtain ⟨d, hd⟩ := Nat.le.dest hlt
            refine ⟨pw d, ?_⟩
            rw [← hd]
            unfold pw
            rw [Nat.pow_add]; simp
          exact Int.dvd_trans by_dvd this
      obtain ⟨d, e⟩ := hd
      have : s + (n : Int) = (s + n - whole (s + n)) + by_ j s * d := by rw [← e]; omega
      rw [this, Int.add_mul_emod_self_left]
      exact ih
    · exact ih
end Bt
namespace DL
open PySem PySem.Spec L2
theorem kvs_pairs {d : D} : ∀ {ks : List Int}, kvsOf (ks.map fun k => PyData.tuple [.int k, d]) = some (sdct ks d)
  | [] => rfl
  | k :: ks => by
    have ih := kvs_pairs (d := d) (ks := ks)
    rw [List.map_cons]
    unfold kvsOf
    rw [ih]; rfl
theorem merge_nodup {d : D} {ks : List Int} (h : ks.Nodup) : dMerge [] (sdct ks d) = sdct ks d := by
  have key : ∀ (ks pre : List Int), (pre ++ ks).Nodup → dMerge (sdct pre d) (sdct ks d) = sdct (pre ++ ks) d := by
    intro ks
    induction ks with
    | nil => intro pre _; rw [List.append_nil]; rfl
    | cons k ks ih =>
      intro pre hn
      have hk : k ∉ pre := fun hm => by
        rw [List.nodup_append] at hn
        exact hn.2.2 k hm k (by simp) rfl
      have e : dMerge (sdct pre d) (sdct (k :: ks) d) = dMerge (dPut (sdct pre d) (.inl k) d) (sdct ks d) := rfl
      rw [e, sdct_put, if_neg hk, ih (pre ++ [k]) (by rw [List.append_assoc]; exact hn), List.append_assoc]; rfl
  exact key ks [] h
theorem kvK_pairs {d : D} {ks : List Int} {k : List (Key × D) → Prop} : kvK (ks.map fun k => PyData.tuple [.int k, d]) k = k (sdct ks d) := by
  unfold kvK; rw [kvs_pairs]; rfl
end DL
namespace DL
open PySem PySem.Spec L2
mutual
theorem eqv_same : ∀ d : D, d.canLay0 = true → PyData.eqv d d = true
  | .none, _ => rfl
  | .bool b, _ => by simp [PyData.eqv]
  | .int i, _ => by simp [PyData.eqv]
  | .str x, _ => by simp [PyData.eqv]
  | .list xs, h => by rw [PyData.eqv]; exact eqvAll_same xs (by simpa [PyData.canLay0] using h)
  | .tuple xs, h => by rw [PyData.eqv]; exact eqvAll_same xs (by simpa [PyData.canLay0] using h)
  | .dict _, h => by simp [PyData.canLay0] at h
theorem eqvAll_same : ∀ xs : List D, PyData.canLayAll0 xs = true → PyData.eqvAll xs xs = true
  | [], _ => rfl
  | x :: xs, h => by
    simp [PyData.canLayAll0] at h
    rw [PyData.eqvAll, eqv_same x h.1, eqvAll_same xs h.2]; rfl
end
theorem eqK_same {d d' : D} {kb : Bool → Prop} (e : d = d') (h : Gd 60 d) : eqK d d' kb = kb true := by
  subst e
  unfold eqK; rw [eqv_same d h.1, h.gd (by decide)]; simp
theorem Gd.q4 {q : Bt.Q4} {n : Nat} : Gd (n + 1) (Bt.q4D q) := .tup fun x hx => by
  simp only [List.mem_cons, List.not_mem_nil, or_false] at hx
  rcases hx with rfl | rfl | rfl | rfl <;> exact Gd.int
theorem Gd.t3 {q : Bt.T3} {n : Nat} : Gd (n + 1) (Bt.t3D q) := .tup fun x hx => by
  simp only [List.mem_cons, List.not_mem_nil, or_false] at hx
  rcases hx with rfl | rfl | rfl <;> exact Gd.int
theorem Gd.lm {α : Type} {f : α → D} {xs : List α} {n : Nat} (h : ∀ x ∈ xs, Gd n (f x)) : Gd (n + 1) (.list (xs.map f)) := .list fun d hd => by
  obtain ⟨x, hx, rfl⟩ := List.mem_map.mp hd
  exact h x hx
theorem ALe.q4 {q : Bt.Q4} : ALe 5 (Bt.q4D q) := .tup (.cons .int (.cons .int (.cons .int (.cons .int .nil))))
theorem ALe.t3 {q : Bt.T3} : ALe 4 (Bt.t3D q) := .tup (.cons .int (.cons .int (.cons .int .nil)))
end DL
namespace Bt
open DL
theorem in_srt_flat {R j : Int} : ∀ {xs : List (List Int)}, (xs.map fun r => inRoom (srt r) R j).flatten.Perm (inRoom xs.flatten R j)
  | [] => .nil
  | x :: xs => by
    have ih := in_srt_flat (R := R) (j := j) (xs := xs)
    have : inRoom (x :: xs).flatten R j = inRoom x R j ++ inRoom xs.flatten R j := by unfold inRoom; rw [List.flatten_cons, List.filter_append]
    rw [this, List.map_cons, List.flatten_cons]
    exact (in_perm (srt_perm x)).append ih
theorem srt_in_flat {R j : Int} {xs : List (List Int)} {ks : List Int} (h : ks.Perm xs.flatten) : srt ((xs.map fun r => inRoom (srt r) R j).flatten) = inRoom (srt ks) R j :=
  (srt_of ((in_perm ((srt_perm ks).trans h)).trans in_srt_flat.symm) ((srt_sorted ks).filter _)).symm
theorem lots_get {ks : List Int} {r : Int} {i : Nat} (h : i < r.toNat) : (lots ks r).getD i [] = inRoom (srt ks) r i := by
  have := rng_map_getD (f := fun j => inRoom (srt ks) r j) (r := r) (t := (i : Int)) (d := ([] : List Int)) (by omega) (by omega)
  simpa [lots] using this
theorem lots_len {ks : List Int} {r : Int} : (lots ks r).length = r.toNat := by unfold lots; rw [List.length_map, rng_len]
end Bt

set_option Elab.async false
set_option linter.all false
namespace Bt
open DL
def rv : Nat → Int → Int → Int
  | 0, _, a => a
  | n + 1, k, a => rv n (k / 2) (2 * a + k % 2)
def tn (k : Int) : Int := rv 60 k 0
theorem half_mod {k w : Int} (hw : 0 < w) : k % (2 * w) = 2 * (k / 2 % w) + k % 2 := by
  have h1 := Int.emod_add_mul_ediv (k / 2) w
  have h3 := Int.emod_nonneg (k / 2) (b := w) (by omega)
  have h4 := Int.emod_lt_of_pos (k / 2) hw
  have h2 := Int.emod_add_mul_ediv k 2
  have e : k = (2 * (k / 2 % w) + k % 2) + (2 * w) * (k / 2 / w) := by grind
  have := Int.emod_eq_of_lt (a := 2 * (k / 2 % w) + k % 2) (b := 2 * w) (by omega) (by omega)
  rw [e, Int.add_mul_emod_self_left, ← e, this]
theorem rv_mod : ∀ {n : Nat} {k a : Int}, rv n (k % pw n) a = rv n k a
  | 0, _, _ => rfl
  | n + 1, k, a => by
    have hp := pw_pos n
    have h := half_mod (k := k) hp
    have h3 := Int.emod_nonneg (k / 2) (b := pw n) (by omega)
    have e1 : k % (2 * pw n) % 2 = k % 2 := by omega
    have e2 : k % (2 * pw n) / 2 = k / 2 % pw n := by omega
    rw [pw_s]
    unfold rv
    rw [e1, e2, rv_mod]
theorem rv_end : ∀ {n : Nat} {k a : Int}, rv (n + 1) k a = 2 * rv n k a + k / pw n % 2
  | 0, k, a => by simp [rv, pw_0]
  | n + 1, k, a => by
    have ih := rv_end (n := n) (k := k / 2) (a := 2 * a + k % 2)
    have e : k / 2 / pw n = k / pw (n + 1) := by rw [pw_s, Int.ediv_ediv_of_nonneg (by omega)]
    rw [rv, ih, e]; rfl
theorem rv_acc : ∀ {n : Nat} {k a : Int}, rv n k a = a * pw n + rv n k 0
  | 0, k, a => by simp [rv, pw_0]
  | n + 1, k, a => by
    rw [rv_end, rv_end, rv_acc (a := a), pw_s]
    grind
theorem rv_bd : ∀ {n : Nat} {k : Int}, 0 ≤ rv n k 0 ∧ rv n k 0 < pw n
  | 0, _ => by simp [rv, pw_0]
  | n + 1, k => by
    have := rv_bd (n := n) (k := k)
    rw [rv_end, pw_s]; omega
theorem rv_rv : ∀ {n : Nat} {k : Int}, rv n (rv n k 0) 0 = k % pw n
  | 0, k => by simp [rv, pw_0]
  | n + 1, k => by
    have hp := pw_pos n
    have hb := rv_bd (n := n) (k := k / 2)
    have e0 : rv (n + 1) k 0 = (k % 2) * pw n + rv n (k / 2) 0 := by
      rw [rv, rv_acc]; simp
    have hk : k % 2 = 0 ∨ k % 2 = 1 := by omega
    have e1 : rv (n + 1) k 0 / pw n = k % 2 := by
      rw [e0, Int.add_comm, Int.add_mul_ediv_right _ _ (by omega), Int.ediv_eq_zero_of_lt hb.1 hb.2]; omega
    have e2 : rv (n + 1) k 0 % pw n = rv n (k / 2) 0 := by
      rw [e0, Int.add_comm, Int.add_mul_emod_self_right, Int.emod_eq_of_lt hb.1 hb.2]
    rw [rv_end, e1, ← rv_mod, e2, rv_rv, pw_s, half_mod hp]
    omega
theorem tn_bd {k : Int} : 0 ≤ tn k ∧ tn k < 2 ^ 60 := by
  have h := rv_bd (n := 60) (k := k)
  have hp : pw 60 = 2 ^ 60 := by decide
  rw [hp] at h; exact h
theorem tn_tn {k : Int} (h : 0 ≤ k ∧ k < 2 ^ 60) : tn (tn k) = k := by
  have hp : pw 60 = 2 ^ 60 := by decide
  unfold tn
  rw [rv_rv, hp, Int.emod_eq_of_lt h.1 h.2]
def bitOn (k : Int) (b : Nat) : Bool := decide (k / pw b % 2 = 1)
def turnL (k : Int) : List Int := 0 :: ((List.range 60).filter (bitOn k)).map fun b => k % pw (b + 1)
def trailL (k r : Int) : List (Int × Int) := (1, 0) :: ((turnL k).filter fun e => decide (0 < e ∧ e < r)).map fun e => (e + 1, e)
def stayD (k e : Int) : PySem.PyData :=
  if e ∈ turnL k then
    if ((turnL k).idxOf e : Int) = (turnL k).length - 1 then .tuple [.int (e + 1), .none] else .tuple [.int (e + 1), .int ((turnL k).getD ((turnL k).idxOf e + 1) 0 + 1)]
  else .none
def lineL (r : Int) : List Int := (srtP ((rng r).map fun j => (tn j, j))).map (·.2)
theorem turnL_len {k : Int} : (turnL k).length ≤ 61 := by
  unfold turnL
  have := List.length_filter_le (bitOn k) (List.range 60)
  rw [List.length_range] at this
  rw [List.length_cons, List.length_map]; omega
theorem turnL_mem {k e : Int} : e ∈ turnL k ↔ e = 0 ∨ ∃ b, b < 60 ∧ k / pw b % 2 = 1 ∧ e = k % pw (b + 1) := by
  unfold turnL bitOn
  simp only [List.mem_cons, List.mem_map, List.mem_filter, List.mem_range, decide_eq_true_eq]
  constructor
  · rintro (h | ⟨b, ⟨h1, h2⟩, rfl⟩)
    · exact .inl h
    · exact .inr ⟨b, h1, h2, rfl⟩
  · rintro (h | ⟨b, h1, h2, rfl⟩)
    · exact .inl h
    · exact .inr ⟨b, ⟨h1, h2⟩, rfl⟩
end Bt

namespace Bt
open DL
theorem goes_iff {k r : Int} (hk : 0 ≤ k ∧ k < 2 ^ 60) (hr : 1 ≤ r) : room k (r + 1) = r ↔ r ∈ turnL k := by
  rw [room_go hr, turnL_mem]
  have hw := whole_ok hr
  have hm := mod2c (k := k) (w := whole r) (by omega)
  constructor
  · rintro ⟨h1, h2⟩
    refine .inr ⟨lev r, ?_, h2, ?_⟩
    · rcases Nat.lt_or_ge (lev r) 60 with h3 | h3
      · exact h3
      · have h4 := pw_le h3
        have h5 : pw 60 = 2 ^ 60 := by decide
        have h6 : k / whole r = 0 := Int.ediv_eq_zero_of_lt hk.1 (by unfold whole; omega)
        rw [h6] at h2; omega
    · rw [pw_s]
      show r = k % (2 * whole r)
      unfold room at h1
      split at h1 <;> omega
  · rintro (h | ⟨b, hb, h2, e⟩)
    · omega
    · have hp := pw_pos b
      have hm2 := mod_pw (k := k) (n := b)
      have hwb : whole r = pw b := whole_of (by omega) (by omega)
      rw [hwb]
      refine ⟨?_, h2⟩
      unfold room
      rw [hwb]
      split <;> omega
theorem turnL_sorted {k : Int} : (turnL k).Pairwise (· < ·) := by
  have hon : ∀ b, bitOn k b = true → pw b ≤ k % pw (b + 1) := fun b hb => by
    have := mod_pw (k := k) (n := b)
    have h2 := of_decide_eq_true hb
    omega
  unfold turnL
  rw [List.pairwise_cons]
  refine ⟨fun e he => ?_, ?_⟩
  · obtain ⟨b, hb, rfl⟩ := List.mem_map.mp he
    have := hon b (List.mem_filter.mp hb).2
    have := pw_pos b
    omega
  · rw [List.pairwise_map, List.pairwise_filter]
    refine List.pairwise_lt_range.imp fun {a b} hab ha hb => ?_
    have h1 := hon b hb
    have h2 := (mod_pw (k := k) (n := a + 1)).2.1
    have h3 := pw_le (m := a + 1) (n := b) hab
    omega
theorem turnL_nonneg {k e : Int} (h : e ∈ turnL k) : 0 ≤ e := by
  rcases turnL_mem.mp h with rfl | ⟨b, _, _, rfl⟩
  · exact Int.le_refl _
  · exact (mod_pw (k := k) (n := b + 1)).1
theorem room_last {k r : Int} (hk : 0 ≤ k ∧ k < 2 ^ 60) (hr : 1 ≤ r) : room k r ∈ turnL k ∧ room k r < r ∧ ∀ e ∈ turnL k, e < r → e ≤ room k r := by
  refine rooms_ind (p := fun r => room k r ∈ turnL k ∧ room k r < r ∧ ∀ e ∈ turnL k, e < r → e ≤ room k r) ?_ (fun r hr ih => ?_) hr
  · rw [room_1]
    exact ⟨List.mem_cons_self .., by decide, fun e _ h => by omega⟩
  · have hg := goes_iff hk hr
    have hs := room_step (k := k) hr
    have hgo := room_go (k := k) hr
    by_cases c : room k (r + 1) = r
    · rw [c]
      exact ⟨hg.mp c, by omega, fun e _ h => by omega⟩
    · have e1 : room k (r + 1) = room k r := by
        rw [hs, if_neg fun z => c (hgo.mpr z)]
      rw [e1]
      refine ⟨ih.1, by omega, fun e he h => ?_⟩
      by_cases ce : e = r
      · exact absurd (hg.mpr (ce ▸ he)) c
      · exact ih.2.2 e he (by omega)
theorem room_is {k r e : Int} (hk : 0 ≤ k ∧ k < 2 ^ 60) (hr : 1 ≤ r) (he : e ∈ turnL k) : room k r = e ↔ e < r ∧ ∀ e' ∈ turnL k, e < e' → r ≤ e' := by
  obtain ⟨h1, h2, h3⟩ := room_last hk hr
  constructor
  · rintro rfl
    refine ⟨h2, fun e' he' hlt => ?_⟩
    rcases Int.lt_or_le e' r with h | h
    · have := h3 e' he' h; omega
    · exact h
  · rintro ⟨h4, h5⟩
    have h6 := h3 e he h4
    rcases Int.lt_or_le e (room k r) with h | h
    · have := h5 _ h1 h; omega
    · omega
theorem turnL_small {k e : Int} (hk : 0 ≤ k) (h : e ∈ turnL k) : e ≤ k := by
  rcases turnL_mem.mp h with rfl | ⟨b, _, _, rfl⟩
  · exact hk
  · have h1 := Int.emod_add_mul_ediv k (pw (b + 1))
    have h2 := pw_pos (b + 1)
    have h3 := Int.ediv_nonneg hk (Int.le_of_lt h2)
    have h4 := Int.mul_nonneg (Int.le_of_lt h2) h3
    omega
theorem filt_iv {lo hi : Nat} : ∀ N : Nat, (List.range N).filter (fun i => decide (lo ≤ i ∧ i < hi)) = (List.range (min N hi - lo)).map (lo + ·)
  | 0 => by simp
  | N + 1 => by
    rw [List.range_succ, List.filter_append, filt_iv N]
    by_cases c : lo ≤ N ∧ N < hi
    · have e : min (N + 1) hi - lo = (min N hi - lo) + 1 := by omega
      have e2 : [N].filter (fun i => decide (lo ≤ i ∧ i < hi)) = [N] := by simp [c]
      rw [e, e2, List.range_succ, List.map_append, List.map_cons, List.map_nil]
      congr 2; omega
    · have e : min (N + 1) hi - lo = min N hi - lo := by omega
      have e2 : [N].filter (fun i => decide (lo ≤ i ∧ i < hi)) = [] := by simp; omega
      rw [e, e2, List.append_nil]
/-- the numbers of rooms, less one, by which a key is in a room: from lo on, ahead of hi -/
theorem stay_iv {k e : Int} (hk : 0 ≤ k ∧ k < 128) (he : e ∈ turnL k) : ∃ hi : Nat, e.toNat < hi ∧ hi ≤ 139 ∧ (∀ i : Nat, i < 139 → (room k (1 + (i : Int)) = e ↔ e.toNat ≤ i ∧ i < hi)) ∧
    stayD k e = .tuple [.int (e + 1), if hi = 139 then .none else .int ((hi : Int) + 1)] := by
  have hk2 : 0 ≤ k ∧ k < 2 ^ 60 := by omega
  have h0 := turnL_nonneg he
  have hs := turnL_sorted (k := k)
  have hil : (turnL k).idxOf e < (turnL k).length := List.idxOf_lt_length_of_mem he
  have hge : (turnL k)[(turnL k).idxOf e] = e := List.getElem_idxOf hil
  have hek := turnL_small hk.1 he
  unfold stayD
  rw [if_pos he]
  by_cases c : ((turnL k).idxOf e : Int) = (turnL k).length - 1
  · refine ⟨139, by omega, by omega, fun i hi => ?_, by rw [if_pos c, if_pos rfl]⟩
    rw [room_is hk2 (by omega) he]
    constructor
    · rintro ⟨h1, _⟩; omega
    · rintro ⟨h1, _⟩
      refine ⟨by omega, fun e' he' hlt => ?_⟩
      obtain ⟨j, hj, rfl⟩ := List.getElem_of_mem he'
      rcases Nat.lt_trichotomy j ((turnL k).idxOf e) with h | h | h
      · have := List.pairwise_iff_getElem.mp hs _ _ hj hil h
        rw [hge] at this; omega
      · subst h; rw [hge] at hlt; omega
      · omega
  · have hnl : (turnL k).idxOf e + 1 < (turnL k).length := by omega
    have hn : (turnL k).getD ((turnL k).idxOf e + 1) 0 = (turnL k)[(turnL k).idxOf e + 1] := by
      rw [List.getD_eq_getElem?_getD, List.getElem?_eq_getElem hnl]; rfl
    have hnm : (turnL k)[(turnL k).idxOf e + 1] ∈ turnL k := List.getElem_mem hnl
    have hn1 := List.pairwise_iff_getElem.mp hs _ _ hil hnl (Nat.lt_succ_self _)
    rw [hge] at hn1
    have hnk := turnL_small hk.1 hnm
    rw [hn]
    refine ⟨((turnL k)[(turnL k).idxOf e + 1]).toNat, by omega, by omega, fun i hi => ?_, ?_⟩
    · rw [room_is hk2 (by omega) he]
      constructor
      · rintro ⟨h1, h2⟩
        have := h2 _ hnm hn1
        omega
      · rintro ⟨h1, h2⟩
        refine ⟨by omega, fun e' he' hlt => ?_⟩
        obtain ⟨j, hj, rfl⟩ := List.getElem_of_mem he'
        rcases Nat.lt_trichotomy j ((turnL k).idxOf e) with h | h | h
        · have := List.pairwise_iff_getElem.mp hs _ _ hj hil h
          rw [hge] at this; omega
        · subst h; rw [hge] at hlt; omega
        · rcases Nat.lt_or_ge ((turnL k).idxOf e + 1) j with h3 | h3
          · have := List.pairwise_iff_getElem.mp hs _ _ hnl hj h3
            omega
          · have : j = (turnL k).idxOf e + 1 := by omega
            subst this; omega
    · rw [if_neg c, if_neg (by omega), Int.toNat_of_nonneg (by omega)]
theorem stay_out {k e : Int} (hk : 0 ≤ k ∧ k < 128) (he : e ∉ turnL k) : stayD k e = .none ∧ ∀ r, 1 ≤ r → room k r ≠ e := by
  refine ⟨by unfold stayD; rw [if_neg he], fun r hr z => he ?_⟩
  rw [← z]
  exact (room_last (by omega) hr).1
end Bt

set_option Elab.async false
set_option linter.all false
set_option maxRecDepth 100000
namespace DL
open PySem PySem.Spec L2
open PyProof.Rows hiding St
def p_turned : PSpec := fun as Q => ∃ (k : Int), as = [.fz (.int k)] ∧ Q (.fz (.int (Bt.tn k))) as
theorem q_turned {k : Int} {Q : Slot → List Slot → Prop} : p_turned [.fz (.int k)] Q = (Q (.fz (.int (Bt.tn k))) [.fz (.int k)]) :=
  propext ⟨fun ⟨_, e, h⟩ => by simp only [List.cons.injEq, Slot.fz.injEq, Slot.lst.injEq, PyData.list.injEq, PyData.tuple.injEq, PyData.int.injEq, PyData.bool.injEq, PyData.str.injEq, intsInj, Bt.q4Inj, Bt.t3Inj, Bt.llInj, Bt.pInj, Bt.q4sInj, and_true, true_and] at e; obtain ⟨rfl⟩ := e; exact h, fun h => ⟨_, rfl, h⟩⟩
def p_rooms_in_turn : PSpec := fun as Q => ∃ (k : Int), as = [.fz (.int k)] ∧ Q (.lst ((Bt.turnL k).map .int)) as
theorem q_rooms_in_turn {k : Int} {Q : Slot → List Slot → Prop} : p_rooms_in_turn [.fz (.int k)] Q = (Q (.lst ((Bt.turnL k).map .int)) [.fz (.int k)]) :=
  propext ⟨fun ⟨_, e, h⟩ => by simp only [List.cons.injEq, Slot.fz.injEq, Slot.lst.injEq, PyData.list.injEq, PyData.tuple.injEq, PyData.int.injEq, PyData.bool.injEq, PyData.str.injEq, intsInj, Bt.q4Inj, Bt.t3Inj, Bt.llInj, Bt.pInj, Bt.q4sInj, and_true, true_and] at e; obtain ⟨rfl⟩ := e; exact h, fun h => ⟨_, rfl, h⟩⟩
def p_trail : PSpec := fun as Q => ∃ (k r : Int), as = [.fz (.int k), .fz (.int r)] ∧ Q (.lst ((Bt.trailL k r).map pD)) as
theorem q_trail {k r : Int} {Q : Slot → List Slot → Prop} : p_trail [.fz (.int k), .fz (.int r)] Q = (Q (.lst ((Bt.trailL k r).map pD)) [.fz (.int k), .fz (.int r)]) :=
  propext ⟨fun ⟨_, _, e, h⟩ => by simp only [List.cons.injEq, Slot.fz.injEq, Slot.lst.injEq, PyData.list.injEq, PyData.tuple.injEq, PyData.int.injEq, PyData.bool.injEq, PyData.str.injEq, intsInj, Bt.q4Inj, Bt.t3Inj, Bt.llInj, Bt.pInj, Bt.q4sInj, and_true, true_and] at e; obtain ⟨rfl, rfl⟩ := e; exact h, fun h => ⟨_, _, rfl, h⟩⟩
def p_stay : PSpec := fun as Q => ∃ (k e : Int), as = [.fz (.int k), .fz (.int e)] ∧ Q (.fz (Bt.stayD k e)) as
theorem q_stay {k e : Int} {Q : Slot → List Slot → Prop} : p_stay [.fz (.int k), .fz (.int e)] Q = (Q (.fz (Bt.stayD k e)) [.fz (.int k), .fz (.int e)]) :=
  propext ⟨fun ⟨_, _, e, h⟩ => by simp only [List.cons.injEq, Slot.fz.injEq, Slot.lst.injEq, PyData.list.injEq, PyData.tuple.injEq, PyData.int.injEq, PyData.bool.injEq, PyData.str.injEq, intsInj, Bt.q4Inj, Bt.t3Inj, Bt.llInj, Bt.pInj, Bt.q4sInj, and_true, true_and] at e; obtain ⟨rfl, rfl⟩ := e; exact h, fun h => ⟨_, _, rfl, h⟩⟩
def p_line_of : PSpec := fun as Q => ∃ (r : Int), as = [.fz (.int r)] ∧ (1 ≤ r ∧ r ≤ 1000) ∧ Q (.lst ((Bt.lineL r).map .int)) as
theorem q_line_of {r : Int} {Q : Slot → List Slot → Prop} : p_line_of [.fz (.int r)] Q = ((1 ≤ r ∧ r ≤ 1000) ∧ Q (.lst ((Bt.lineL r).map .int)) [.fz (.int r)]) :=
  propext ⟨fun ⟨_, e, h⟩ => by simp only [List.cons.injEq, Slot.fz.injEq, Slot.lst.injEq, PyData.list.injEq, PyData.tuple.injEq, PyData.int.injEq, PyData.bool.injEq, PyData.str.injEq, intsInj, Bt.q4Inj, Bt.t3Inj, Bt.llInj, Bt.pInj, Bt.q4sInj, and_true, true_and] at e; obtain ⟨rfl⟩ := e; exact h, fun h => ⟨_, rfl, h⟩⟩
def p_need_mark : PSpec := fun as Q => ∃ (a m : Int), as = [.fz (.int a), .fz (.int m)] ∧ (0 ≤ a ∧ a ≤ m) ∧ Q (.fz .none) as
theorem q_need_mark {a m : Int} {Q : Slot → List Slot → Prop} : p_need_mark [.fz (.int a), .fz (.int m)] Q = ((0 ≤ a ∧ a ≤ m) ∧ Q (.fz .none) [.fz (.int a), .fz (.int m)]) :=
  propext ⟨fun ⟨_, _, e, h⟩ => by simp only [List.cons.injEq, Slot.fz.injEq, Slot.lst.injEq, PyData.list.injEq, PyData.tuple.injEq, PyData.int.injEq, PyData.bool.injEq, PyData.str.injEq, intsInj, Bt.q4Inj, Bt.t3Inj, Bt.llInj, Bt.pInj, Bt.q4sInj, and_true, true_and] at e; obtain ⟨rfl, rfl⟩ := e; exact h, fun h => ⟨_, _, rfl, h⟩⟩
def p_room_at : PSpec := fun as Q => ∃ (a r : Int), as = [.fz (.int a), .fz (.int r)] ∧ ((0 ≤ a ∧ a < 2 ^ 60) ∧ 1 ≤ r) ∧ Q (.fz (.int (Bt.room (Bt.tn a) r))) as
theorem q_room_at {a r : Int} {Q : Slot → List Slot → Prop} : p_room_at [.fz (.int a), .fz (.int r)] Q = (((0 ≤ a ∧ a < 2 ^ 60) ∧ 1 ≤ r) ∧ Q (.fz (.int (Bt.room (Bt.tn a) r))) [.fz (.int a), .fz (.int r)]) :=
  propext ⟨fun ⟨_, _, e, h⟩ => by simp only [List.cons.injEq, Slot.fz.injEq, Slot.lst.injEq, PyData.list.injEq, PyData.tuple.injEq, PyData.int.injEq, PyData.bool.injEq, PyData.str.injEq, intsInj, Bt.q4Inj, Bt.t3Inj, Bt.llInj, Bt.pInj, Bt.q4sInj, and_true, true_and] at e; obtain ⟨rfl, rfl⟩ := e; exact h, fun h => ⟨_, _, rfl, h⟩⟩
end DL



set_option Elab.async false
set_option linter.all false
set_option maxRecDepth 100000
namespace Bt
open DL
/-- keys, rising, none twice -/
def Keys (ks : List Int) (m : Int) : Prop := ks.Pairwise (· < ·) ∧ (∀ k ∈ ks, 0 ≤ k ∧ k < 2 ^ 60) ∧ (ks.length : Int) ≤ m
theorem sum_snoc (xs : List Int) (x : Int) : (xs ++ [x]).sum = xs.sum + x := by rw [List.sum_append]; simp
theorem lk_range {w : Int} (hw : 0 < w) : ∀ n : Nat, ((List.range n).map fun a : Nat => (0 + (a : Int)) / w + 1).sum = lk w.toNat n
  | 0 => rfl
  | n + 1 => by
    rw [List.range_succ, List.map_append, List.map_cons, List.map_nil, sum_snoc, lk_range hw n, lk_succ]
    have : (((n / w.toNat : Nat)) : Int) = (0 + (n : Int)) / w := by
      rw [Int.natCast_ediv, Int.zero_add, Int.toNat_of_nonneg (by omega)]
    omega
/-- the longest room's rows -/
def mxL : List Int → Int
  | [] => 0
  | a :: l => if mxL l ≤ a then a else mxL l
theorem mxL_ge {l : List Int} : ∀ {a : Int}, a ∈ l → a ≤ mxL l := by
  induction l with
  | nil => intro a h; cases h
  | cons b l ih =>
    intro a h
    unfold mxL
    rcases List.mem_cons.mp h with e | h
    · subst e; split <;> omega
    · have := ih h
      split <;> omega
theorem mxL_mem : ∀ {l : List Int}, l ≠ [] → (∀ a ∈ l, 0 ≤ a) → mxL l ∈ l
  | [], h, _ => absurd rfl h
  | [a], _, h => by
    have := h a (by simp)
    simp [mxL, this]
  | a :: b :: l, _, h => by
    have ih := mxL_mem (l := b :: l) (by simp) fun x hx => h x (List.mem_cons_of_mem _ hx)
    rw [mxL]
    split
    · exact List.mem_cons_self ..
    · exact List.mem_cons_of_mem _ ih
theorem mxL_le {l : List Int} {m : Int} (h : ∀ a ∈ l, a ≤ m) (h0 : 0 ≤ m) : mxL l ≤ m := by
  induction l with
  | nil => exact h0
  | cons a l ih =>
    have := ih fun x hx => h x (List.mem_cons_of_mem _ hx)
    have := h a (by simp)
    unfold mxL
    split <;> omega
theorem mxL_eq {l : List Int} {m : Int} (hm : m ∈ l) (h : ∀ a ∈ l, a ≤ m) (h0 : ∀ a ∈ l, 0 ≤ a) : m = mxL l :=
  Int.le_antisymm (mxL_ge hm) (mxL_le h (h0 m hm))
def mx (ks : List Int) (w r : Int) : Int := mxL ((cnts ks r).map (rowsF · w))
theorem mx_fall {ks : List Int} {w r : Int} (hw : 0 < w ∧ w ≤ 8) (h : 1 ≤ r) : mx ks w (r + 1) ≤ mx ks w r := by
  have hwh := whole_ok h
  have hge : ∀ j, 0 ≤ j → j < r → rowsF (cnt ks r j) w ≤ mx ks w r := fun j h0 h1 => by
    refine mxL_ge (List.mem_map.mpr ⟨cnt ks r j, ?_, rfl⟩)
    unfold cnts
    exact List.mem_map.mpr ⟨j, rng_mem.mpr ⟨h0, h1⟩, rfl⟩
  have h00 := hge 0 (by omega) (by omega)
  have h01 := (rowsF_le (cnt_nonneg (ks := ks) (r := r) (j := 0)) hw).1
  refine mxL_le (fun a ha => ?_) (by omega)
  obtain ⟨c, hc, rfl⟩ := List.mem_map.mp ha
  unfold cnts at hc
  obtain ⟨j, hj, rfl⟩ := List.mem_map.mp hc
  obtain ⟨j0, j1⟩ := rng_mem.mp hj
  have hp := cnt_part (ks := ks) h
  have n1 := cnt_nonneg (ks := ks) (r := r + 1) (j := r - whole r)
  have n2 := cnt_nonneg (ks := ks) (r := r + 1) (j := r)
  have hg := hge (r - whole r) (by omega) (by omega)
  by_cases e1 : j = r - whole r
  · subst e1
    exact Int.le_trans (rows_mono (by omega) hw) hg
  · by_cases e2 : j = r
    · subst e2
      exact Int.le_trans (rows_mono (by omega) hw) hg
    · have e3 : cnt ks (r + 1) j = cnt ks r j := by unfold cnt; rw [in_else h e1 (by omega)]
      show rowsF _ _ ≤ _
      rw [e3]
      exact hge j j0 (by omega)
theorem runs_one {x : Int} : runs [x] = [(1, 2, x)] := rfl
/-- one number more: the same stretch or a new one -/
theorem runs_more {xs : List Int} {x : Int} (h : xs ≠ []) : ∃ l a c, runs xs = l ++ [(a, (xs.length : Int) + 1, c)] ∧ xs.getLast? = some c ∧
    runs (xs ++ [x]) = if x = c then l ++ [(a, (xs.length : Int) + 1 + 1, x)] else l ++ [(a, (xs.length : Int) + 1, c)] ++ [((xs.length : Int) + 1, (xs.length : Int) + 1 + 1, x)] := by
  obtain ⟨l, ⟨a, b, c⟩, e⟩ : ∃ l x, runs xs = l ++ [x] := ⟨_, _, (List.dropLast_concat_getLast (runs_ne h)).symm⟩
  obtain ⟨e1, e2⟩ := runs_last (xs := xs) (a := a) (b := b) (c := c) (by rw [e]; simp)
  refine ⟨l, a, c, by rw [e, e1], e2, ?_⟩
  rw [runs_snoc, e, e1]
  unfold runStep
  simp
/-- numbers that fall by one at most -/
theorem runs_len {f : Nat → Int} (h : ∀ i, f i - 1 ≤ f (i + 1) ∧ f (i + 1) ≤ f i) : ∀ n : Nat, (((runs ((List.range (n + 1)).map f)).length : Nat) : Int) = f 0 - f n + 1
  | 0 => by show (1 : Int) = _; omega
  | n + 1 => by
    have ih := runs_len h n
    have hh := h n
    have hl : ((List.range (n + 1)).map f).getLast? = some (f n) := by rw [List.range_succ, List.map_append]; simp
    obtain ⟨l, a, c, e1, e2, e3⟩ := runs_more (xs := (List.range (n + 1)).map f) (x := f (n + 1)) (by simp)
    rw [hl] at e2
    obtain rfl := Option.some.inj e2
    rw [List.range_succ, List.map_append, List.map_cons, List.map_nil, e3]
    rw [e1, List.length_append] at ih
    simp only [List.length_cons, List.length_nil] at ih
    split
    · rw [List.length_append]; simp only [List.length_cons, List.length_nil]; omega
    · rw [List.length_append, List.length_append]; simp only [List.length_cons, List.length_nil]; omega
theorem sps_len {ks : List Int} {w m : Int} (hw : 0 < w ∧ w ≤ 8) (hm : 1 ≤ m) : (((runs (spsTo ks w m)).length : Nat) : Int) = sp ks w 1 - sp ks w m + 1 := by
  obtain ⟨n, rfl⟩ : ∃ n : Nat, m = (n : Int) + 1 := ⟨(m - 1).toNat, by omega⟩
  have e : spsTo ks w ((n : Int) + 1) = (List.range (n + 1)).map fun i : Nat => sp ks w ((i : Int) + 1) := by
    unfold spsTo rng
    rw [show ((n : Int) + 1).toNat = n + 1 by omega, List.map_map]; rfl
  rw [e, runs_len (f := fun i : Nat => sp ks w ((i : Int) + 1)) (fun i => ?_) n]
  · rfl
  · have := sp_fall (ks := ks) (w := w) (r := (i : Int) + 1) (by omega) hw
    rw [show (((i + 1 : Nat) : Int) + 1) = (i : Int) + 1 + 1 by omega]
    exact this
theorem sps_first {ks : List Int} {w m : Int} (hm : 1 ≤ m) : (spsTo ks w m).getD 0 0 = sp ks w 1 := by
  obtain ⟨n, rfl⟩ : ∃ n : Nat, m = (n : Int) + 1 := ⟨(m - 1).toNat, by omega⟩
  unfold spsTo rng
  rw [show ((n : Int) + 1).toNat = n + 1 by omega, List.range_succ_eq_map]
  rfl
theorem sps_last {ks : List Int} {w m : Int} (hm : 1 ≤ m) : (spsTo ks w m).getLastD 0 = sp ks w m := by
  have := spsTo_succ (ks := ks) (w := w) (r := m - 1) (by omega)
  rw [show m - 1 + 1 = m by omega] at this
  rw [this]; simp
theorem leastR_filter {c : Int} {B : List Q4} {w one : Int} : leastR c B w one = match ((spillsBy c B w).filter fun t => decide (t.2.2 ≤ one)) with
    | [] => .none
    | t :: _ => .int t.1 := by
  unfold leastR
  rw [← List.head?_filter]
  cases (spillsBy c B w).filter fun t => decide (t.2.2 ≤ one) <;> rfl
/-- which bit, and where two keys part -/
def bitN (a b : Int) : Nat := ((List.range 60).find? fun n => decide (a / pw n % 2 ≠ b / pw n % 2)).getD 0
def part (a b : Int) : Int := partAt a b (bitN a b)
theorem bit_uniq {a b : Int} {m n : Nat} (h1 : Bit1 a b m) (h2 : Bit1 a b n) : m = n := by
  rcases Nat.lt_trichotomy m n with h | h | h
  · exact absurd (h2.1 m h) h1.2
  · exact h
  · exact absurd (h1.1 n h) h2.2
theorem bitN_ok {a b : Int} (ha : 0 ≤ a ∧ a < 2 ^ 60) (hb : 0 ≤ b ∧ b < 2 ^ 60) (h : a ≠ b) : bitN a b < 60 ∧ Bit1 a b (bitN a b) := by
  have hp : pw 60 = 2 ^ 60 := by decide
  obtain ⟨n, hn, hB⟩ := bit_ex (N := 60) (a := a) (b := b) (by rw [hp]; exact ha) (by rw [hp]; exact hb) h
  have e : bitN a b = n := by
    unfold bitN
    rw [(List.find?_range_eq_some (n := 60) (i := n)).mpr ⟨decide_eq_true hB.2, List.mem_range.mpr hn, fun j hj => by
      have := hB.1 j hj
      simp [this]⟩]
    rfl
  rw [e]
  exact ⟨hn, hB⟩
theorem part_ok {a b : Int} (ha : 0 ≤ a ∧ a < 2 ^ 60) (hb : 0 ≤ b ∧ b < 2 ^ 60) (h : a ≠ b) : PartsAt a b (part a b) := parts_bit (bitN_ok ha hb h).2
/-- the greatest number by which two of them are parted -/
def MaxPart (l : List Int) (G : Int) : Prop := 1 ≤ G ∧ (∀ a ∈ l, ∀ b ∈ l, a ≠ b → part a b ≤ G) ∧ (G = 1 ∨ ∃ a ∈ l, ∃ b ∈ l, a ≠ b ∧ part a b = G)
theorem maxPart_nil : MaxPart [] 1 := by
  unfold MaxPart
  exact ⟨Int.le_refl _, by simp, Or.inl rfl⟩
def InR (l : List Int) : Prop := ∀ k ∈ l, 0 ≤ k ∧ k < 2 ^ 60
theorem part_comm {a b : Int} (ha : 0 ≤ a ∧ a < 2 ^ 60) (hb : 0 ≤ b ∧ b < 2 ^ 60) (h : a ≠ b) : part a b = part b a :=
  parts_unique (part_ok ha hb h) (parts_sym (part_ok hb ha fun z => h z.symm))
theorem maxPart_snoc {l : List Int} {x G M : Int} (hl : InR (l ++ [x])) (hx : x ∉ l) (h : MaxPart l G) (hM : M ∈ G :: l.map (part x)) (hM2 : ∀ y ∈ G :: l.map (part x), y ≤ M) : MaxPart (l ++ [x]) M := by
  obtain ⟨h1, h2, h3⟩ := h
  have hG := hM2 G (by simp)
  have hxr := hl x (by simp)
  have hlr : ∀ k ∈ l, 0 ≤ k ∧ k < 2 ^ 60 := fun k hk => hl k (by simp [hk])
  refine ⟨by omega, fun a ha b hb hab => ?_, ?_⟩
  · rw [List.mem_append, List.mem_singleton] at ha hb
    rcases ha with ha | rfl <;> rcases hb with hb | rfl
    · have := h2 a ha b hb hab; omega
    · rw [part_comm (hlr a ha) hxr hab]
      exact hM2 _ (List.mem_cons_of_mem _ (List.mem_map.mpr ⟨a, ha, rfl⟩))
    · exact hM2 _ (List.mem_cons_of_mem _ (List.mem_map.mpr ⟨b, hb, rfl⟩))
    · exact absurd rfl hab
  · rcases List.mem_cons.mp hM with rfl | hm
    · rcases h3 with h3 | ⟨a, ha, b, hb, hab, e⟩
      · exact .inl h3
      · exact .inr ⟨a, by simp [ha], b, by simp [hb], hab, e⟩
    · obtain ⟨b, hb, rfl⟩ := List.mem_map.mp hm
      exact .inr ⟨x, by simp, b, by simp [hb], fun z => hx (z ▸ hb), rfl⟩
/-- each key alone -/
theorem maxPart_iff {l : List Int} {G r : Int} (hl : InR l) (hn : l.Nodup) (h : MaxPart l G) (hr : 1 ≤ r) : G ≤ r ↔ ∀ j, 0 ≤ j → j < r → cnt l r j ≤ 1 := by
  obtain ⟨h1, h2, h3⟩ := h
  constructor
  · intro hG j _ _
    unfold cnt
    have hin : ∀ a ∈ inRoom l r j, ∀ b ∈ inRoom l r j, a = b := fun a ha b hb => by
      obtain ⟨ha1, ha2⟩ := List.mem_filter.mp ha
      obtain ⟨hb1, hb2⟩ := List.mem_filter.mp hb
      by_cases e : a = b
      · exact e
      · have := (parts_iff (part_ok (hl a ha1) (hl b hb1) e) hr).mpr (Int.le_trans (h2 a ha1 b hb1 e) hG)
        rw [of_decide_eq_true ha2, of_decide_eq_true hb2] at this
        exact absurd rfl this
    have hnd : (inRoom l r j).Nodup := hn.filter _
    cases e : inRoom l r j with
    | nil => simp
    | cons a t => cases t with
      | nil => simp
      | cons b t =>
        rw [e] at hin hnd
        have := hin a (by simp) b (by simp)
        subst this
        simp at hnd
  · intro hc
    rcases h3 with rfl | ⟨a, ha, b, hb, hab, e⟩
    · exact hr
    · have hP := part_ok (hl a ha) (hl b hb) hab
      rw [e] at hP
      refine (parts_iff hP hr).mp fun z => ?_
      have hb0 := room_bd (k := a) hr
      have := hc (room a r) hb0.1 hb0.2
      unfold cnt at this
      have m1 : a ∈ inRoom l r (room a r) := List.mem_filter.mpr ⟨ha, by simp⟩
      have m2 : b ∈ inRoom l r (room a r) := List.mem_filter.mpr ⟨hb, by simp [z]⟩
      cases e2 : inRoom l r (room a r) with
      | nil => rw [e2] at m1; cases m1
      | cons p t => cases t with
        | nil =>
          rw [e2] at m1 m2
          simp at m1 m2
          exact hab (m1.trans m2.symm)
        | cons q t => rw [e2] at this; simp at this; omega
theorem sp1_iff {l : List Int} {r : Int} (hr : 1 ≤ r) : sp l 1 r ≤ 0 ↔ ∀ j, 0 ≤ j → j < r → cnt l r j ≤ 1 := by
  have key : ∀ ns : List Int, (∀ n ∈ ns, 0 ≤ n) → 0 ≤ spillF ns 1 ∧ (spillF ns 1 ≤ 0 ↔ ∀ n ∈ ns, n ≤ 1) := by
    intro ns
    induction ns with
    | nil => intro _; simp [spillF]
    | cons n ns ih =>
      intro h
      obtain ⟨i1, i2⟩ := ih fun x hx => h x (List.mem_cons_of_mem _ hx)
      have h0 := h n (by simp)
      have e : spillF (n :: ns) 1 = (rowsF n 1 - 1) + spillF ns 1 := rfl
      have hr : rowsF n 1 = if n > 1 then n else 1 := by unfold rowsF; rw [show (n + 1 - 1) / 1 = n by omega]
      rw [e, hr]
      refine ⟨by split <;> omega, ?_⟩
      constructor
      · intro hs x hx
        rcases List.mem_cons.mp hx with rfl | hx
        · split at hs <;> omega
        · exact (i2.mp (by split at hs <;> omega)) x hx
      · intro hs
        have := i2.mpr fun x hx => hs x (List.mem_cons_of_mem _ hx)
        have := hs n (by simp)
        rw [if_neg (by omega)]; omega
  unfold sp
  rw [(key (cnts l r) fun n hn => cnts_nonneg hn).2]
  unfold cnts
  constructor
  · intro h j h0 h1
    exact h _ (List.mem_map.mpr ⟨j, rng_mem.mpr ⟨h0, h1⟩, rfl⟩)
  · intro h n hn
    obtain ⟨j, hj, rfl⟩ := List.mem_map.mp hn
    obtain ⟨h0, h1⟩ := rng_mem.mp hj
    exact h j h0 h1
/-- the first stretch that is small enough -/
theorem runs_find {one : Int} : ∀ {n : Nat} {xs : List Int}, xs.length = n → ((runs xs).find? fun t => decide (t.2.2 ≤ one)).map (·.1) = (xs.findIdx? fun x => decide (x ≤ one)).map fun i => (i : Int) + 1
  | 0, xs, h => by rw [List.length_eq_zero_iff.mp h]; rfl
  | n + 1, xs, h => by
    obtain ⟨ys, y, rfl⟩ : ∃ ys y, xs = ys ++ [y] := by
      have hne : xs ≠ [] := by intro z; rw [z] at h; cases h
      exact ⟨xs.dropLast, xs.getLast hne, (List.dropLast_concat_getLast hne).symm⟩
    have hl : ys.length = n := by simpa using h
    have ih := runs_find (one := one) hl
    by_cases hy : ys = []
    · subst hy
      rw [List.nil_append, runs_one]
      by_cases c : y ≤ one <;> simp [c, List.findIdx?_cons]
    · obtain ⟨l, a, c, e1, e2, e3⟩ := runs_more (xs := ys) (x := y) hy
      rw [List.findIdx?_append, e3]
      rw [e1] at ih
      split
      · rename_i hc
        subst hc
        have e4 : ((l ++ [(a, (ys.length : Int) + 1 + 1, y)]).find? fun t => decide (t.2.2 ≤ one)).map (·.1) = ((l ++ [(a, (ys.length : Int) + 1, y)]).find? fun t => decide (t.2.2 ≤ one)).map (·.1) := by
          rw [List.find?_append, List.find?_append]
          cases l.find? fun t => decide (t.2.2 ≤ one) with
          | some t => rfl
          | none => by_cases c : y ≤ one <;> simp [c]
        rw [e4, ih]
        cases ef : ys.findIdx? fun x => decide (x ≤ one) with
        | some i => simp
        | none =>
          have hyl : y ∈ ys := List.mem_of_getLast? e2
          have := (List.findIdx?_eq_none_iff.mp ef) y hyl
          simp [List.findIdx?_cons, this]
      · rw [List.find?_append (xs := l ++ _)]
        cases ef : (l ++ [(a, (ys.length : Int) + 1, c)]).find? fun t => decide (t.2.2 ≤ one) with
        | some t =>
          rw [ef] at ih
          cases eg : ys.findIdx? fun x => decide (x ≤ one) with
          | some i => rw [eg] at ih; simpa using ih
          | none => rw [eg] at ih; simp at ih
        | none =>
          rw [ef] at ih
          cases eg : ys.findIdx? fun x => decide (x ≤ one) with
          | some i => rw [eg] at ih; simp at ih
          | none =>
            by_cases c : y ≤ one <;> simp [c, List.findIdx?_cons]
theorem find_from {f : Nat → Int} {one : Int} {g : Nat} (h : ∀ i, f i ≤ one ↔ g ≤ i) : ∀ n : Nat, ((List.range n).map f).findIdx? (fun x => decide (x ≤ one)) = if g < n then some g else none
  | 0 => by simp
  | n + 1 => by
    rw [List.range_succ, List.map_append, List.findIdx?_append, find_from h n]
    by_cases c : g < n
    · rw [if_pos c, if_pos (by omega)]; rfl
    · rw [if_neg c]
      have := h n
      by_cases c2 : f n ≤ one
      · rw [if_pos (by omega)]
        have : g = n := by omega
        simp [List.findIdx?_cons, c2, this]
      · rw [if_neg (by omega)]
        simp [List.findIdx?_cons, c2]
theorem least_parted {l : List Int} {G m : Int} (hl : InR l) (hn : l.Nodup) (h : MaxPart l G) (hm : 1 ≤ m) : leastR l.length (book l m) 1 0 = if G ≤ m then .int G else .none := by
  have hG := h.1
  obtain ⟨g, rfl⟩ : ∃ g : Nat, G = (g : Int) + 1 := ⟨(G - 1).toNat, by omega⟩
  have e : spillsBy l.length (book l m) 1 = runs (spsTo l 1 m) := by unfold spillsBy; rw [spills_book hm]
  have hf := runs_find (one := 0) (xs := spsTo l 1 m) rfl
  have e2 : spsTo l 1 m = (List.range m.toNat).map fun i : Nat => sp l 1 ((i : Int) + 1) := by unfold spsTo rng; rw [List.map_map]; rfl
  have e3 := find_from (f := fun i : Nat => sp l 1 ((i : Int) + 1)) (one := 0) (g := g) (fun i => by
    rw [sp1_iff (by omega), ← maxPart_iff hl hn h (by omega)]; omega) m.toNat
  rw [← e2] at e3
  rw [e3] at hf
  unfold leastR
  rw [e]
  cases ef : (runs (spsTo l 1 m)).find? fun t => decide (t.2.2 ≤ 0) with
  | none =>
    rw [ef] at hf
    by_cases c : g < m.toNat
    · rw [if_pos c] at hf; simp at hf
    · rw [if_neg (by omega)]
  | some t =>
    rw [ef] at hf
    by_cases c : g < m.toNat
    · rw [if_pos c] at hf
      simp at hf
      rw [if_pos (by omega)]
      show PySem.PyData.int t.1 = _
      rw [hf]
    · rw [if_neg c] at hf; simp at hf
/-- of three, the two least are one -/
theorem srt_three {p q s : Int} (h : (p ≤ q → p ≤ s → p = q ∨ p = s) ∧ (q ≤ p → q ≤ s → q = p ∨ q = s) ∧ (s ≤ p → s ≤ q → s = p ∨ s = q)) : ∃ x z, srt [p, q, s] = [x, x, z] := by
  have hp := srt_perm [p, q, s]
  have hs := srt_sorted [p, q, s]
  have hl := hp.length_eq
  generalize srt [p, q, s] = l at *
  match l, hl with
  | [x, y, z], _ =>
    simp only [List.pairwise_cons, List.mem_cons, List.not_mem_nil, or_false, forall_eq_or_imp, forall_eq] at hs
    have hx : x ∈ [p, q, s] := hp.mem_iff.mp (by simp)
    have hc := hp.count_eq x
    have hpm : p ∈ [x, y, z] := hp.mem_iff.mpr (by simp)
    have hqm : q ∈ [x, y, z] := hp.mem_iff.mpr (by simp)
    have hsm : s ∈ [x, y, z] := hp.mem_iff.mpr (by simp)
    simp only [List.mem_cons, List.not_mem_nil, or_false] at hx hpm hqm hsm
    refine ⟨x, z, ?_⟩
    have : y = x := by
      by_cases e : y = x
      · exact e
      · have e2 : ¬ z = x := by omega
        simp only [List.count_cons, List.count_nil, beq_iff_eq, e, e2, if_false, if_true] at hc
        rcases hx with rfl | rfl | rfl
        · have := h.1 (by omega) (by omega)
          rcases this with r | r <;> simp [r.symm] at hc <;> omega
        · have := h.2.1 (by omega) (by omega)
          rcases this with r | r <;> simp [r.symm] at hc <;> omega
        · have := h.2.2 (by omega) (by omega)
          rcases this with r | r <;> simp [r.symm] at hc <;> omega
    rw [this]
theorem cutD_drop {α : Type} {xs : List α} {a : Int} (h : 0 ≤ a) : cutD xs (some a) none = xs.drop a.toNat := by
  unfold cutD
  rw [sIx_mid h]
  have e : HT.sIx xs.length xs.length none = xs.length := rfl
  rw [e]
  by_cases hl : a.toNat ≤ xs.length
  · rw [Nat.min_eq_left hl, List.take_of_length_le (by rw [List.length_drop]; omega)]
  · rw [Nat.min_eq_right (by omega), List.drop_eq_nil_of_le (Nat.le_refl _), List.drop_eq_nil_of_le (by omega), List.take_nil]
theorem zip_three {S : List Int} (hp : S.Pairwise (· < ·)) {x : Int × Int × Int} (h : x ∈ S.zip ((S.drop 1).zip (S.drop 2))) : x.1 ∈ S ∧ x.2.1 ∈ S ∧ x.2.2 ∈ S ∧ x.1 < x.2.1 ∧ x.2.1 < x.2.2 := by
  obtain ⟨i, hi, e⟩ := List.getElem_of_mem h
  rw [List.length_zip, List.length_zip, List.length_drop, List.length_drop] at hi
  rw [List.getElem_zip, List.getElem_zip, List.getElem_drop, List.getElem_drop] at e
  subst e
  have h2 : 2 + i < S.length := by omega
  refine ⟨List.getElem_mem _, List.getElem_mem _, List.getElem_mem _, ?_, ?_⟩
  · exact List.pairwise_iff_getElem.mp hp _ _ _ _ (by omega)
  · exact List.pairwise_iff_getElem.mp hp _ _ _ _ (by omega)
theorem sum_perm {a b : List Int} (h : a.Perm b) : a.sum = b.sum := by
  induction h with
  | nil => rfl
  | cons x _ ih => rw [List.sum_cons, List.sum_cons, ih]
  | swap x y l => simp only [List.sum_cons]; omega
  | trans _ _ h1 h2 => exact h1.trans h2
theorem looks_srt {ks : List Int} {w r : Int} (hk : ks.Nodup) (hw : 0 < w ∧ w ≤ 8) : ((srtP (looksRaw ks r w)).map (·.2)).sum = lkAll ks w r := by
  rw [← looks_sum hk hw]
  exact sum_perm ((srtP_perm _).map _)
end Bt
namespace DL
open PySem PySem.Spec L2
open PyProof.Rows hiding St
def p_law_drawn_keys : PSpec := fun as Q => ∃ (L : List D) (m : Int), as = [.lst L, .fz (.int m)] ∧ BagL L ∧ (11 ≤ m ∧ m ≤ 1000) ∧ ∀ ks L', BagL L' → Bt.Keys ks m → Q (.lst (ks.map .int)) [.lst L', .fz (.int m)]
theorem q_law_drawn_keys {L : List D} {m : Int} {Q : Slot → List Slot → Prop} : p_law_drawn_keys [.lst L, .fz (.int m)] Q = (BagL L ∧ (11 ≤ m ∧ m ≤ 1000) ∧ ∀ ks L', BagL L' → Bt.Keys ks m → Q (.lst (ks.map .int)) [.lst L', .fz (.int m)]) :=
  propext ⟨fun ⟨_, _, e, h⟩ => by simp only [List.cons.injEq, Slot.fz.injEq, Slot.lst.injEq, PyData.list.injEq, PyData.tuple.injEq, PyData.int.injEq, PyData.bool.injEq, PyData.str.injEq, intsInj, Bt.q4Inj, Bt.t3Inj, Bt.llInj, Bt.pInj, Bt.q4sInj, and_true, true_and] at e; obtain ⟨rfl, rfl⟩ := e; exact h, fun h => ⟨_, _, rfl, h⟩⟩
def p_law_looks_of : PSpec := fun as Q => ∃ (ks : List Int) (r w : Int), as = [.fz (.list (ks.map .int)), .fz (.int r), .fz (.int w)] ∧ ((1 ≤ r ∧ r ≤ 1000) ∧ Wd w ∧ Ln ks) ∧ Q (.fz (.int (Bt.lkAll ks w r))) as
theorem q_law_looks_of {ks : List Int} {r w : Int} {Q : Slot → List Slot → Prop} : p_law_looks_of [.fz (.list (ks.map .int)), .fz (.int r), .fz (.int w)] Q = (((1 ≤ r ∧ r ≤ 1000) ∧ Wd w ∧ Ln ks) ∧ Q (.fz (.int (Bt.lkAll ks w r))) [.fz (.list (ks.map .int)), .fz (.int r), .fz (.int w)]) :=
  propext ⟨fun ⟨_, _, _, e, h⟩ => by simp only [List.cons.injEq, Slot.fz.injEq, Slot.lst.injEq, PyData.list.injEq, PyData.tuple.injEq, PyData.int.injEq, PyData.bool.injEq, PyData.str.injEq, intsInj, Bt.q4Inj, Bt.t3Inj, Bt.llInj, Bt.pInj, Bt.q4sInj, and_true, true_and] at e; obtain ⟨rfl, rfl, rfl⟩ := e; exact h, fun h => ⟨_, _, _, rfl, h⟩⟩
def p_law_fall_right : PSpec := fun as Q => ∃ (ks : List Int) (w m : Int), as = [.fz (.list (ks.map .int)), .fz (.int w), .fz (.int m)] ∧ ((1 ≤ m ∧ m ≤ 130) ∧ Wd w ∧ ks.length ≤ 1000) ∧ Q (.lst ((Bt.spsTo ks w m).map .int)) as
theorem q_law_fall_right {ks : List Int} {w m : Int} {Q : Slot → List Slot → Prop} : p_law_fall_right [.fz (.list (ks.map .int)), .fz (.int w), .fz (.int m)] Q = (((1 ≤ m ∧ m ≤ 130) ∧ Wd w ∧ ks.length ≤ 1000) ∧ Q (.lst ((Bt.spsTo ks w m).map .int)) [.fz (.list (ks.map .int)), .fz (.int w), .fz (.int m)]) :=
  propext ⟨fun ⟨_, _, _, e, h⟩ => by simp only [List.cons.injEq, Slot.fz.injEq, Slot.lst.injEq, PyData.list.injEq, PyData.tuple.injEq, PyData.int.injEq, PyData.bool.injEq, PyData.str.injEq, intsInj, Bt.q4Inj, Bt.t3Inj, Bt.llInj, Bt.pInj, Bt.q4sInj, and_true, true_and] at e; obtain ⟨rfl, rfl, rfl⟩ := e; exact h, fun h => ⟨_, _, _, rfl, h⟩⟩
def p_law_book_right : PSpec := fun as Q => ∃ (ks : List Int) (w m : Int) (ss : List Int), as = [.fz (.list (ks.map .int)), .fz (.int w), .fz (.int m), .fz (.list (ss.map .int))] ∧ (((1 ≤ m ∧ m ≤ 130) ∧ Wd w ∧ ks.length ≤ 1000) ∧ ss = Bt.spsTo ks w m) ∧ Q (.fz (.bool true)) as
theorem q_law_book_right {ks : List Int} {w m : Int} {ss : List Int} {Q : Slot → List Slot → Prop} : p_law_book_right [.fz (.list (ks.map .int)), .fz (.int w), .fz (.int m), .fz (.list (ss.map .int))] Q = ((((1 ≤ m ∧ m ≤ 130) ∧ Wd w ∧ ks.length ≤ 1000) ∧ ss = Bt.spsTo ks w m) ∧ Q (.fz (.bool true)) [.fz (.list (ks.map .int)), .fz (.int w), .fz (.int m), .fz (.list (ss.map .int))]) :=
  propext ⟨fun ⟨_, _, _, _, e, h⟩ => by simp only [List.cons.injEq, Slot.fz.injEq, Slot.lst.injEq, PyData.list.injEq, PyData.tuple.injEq, PyData.int.injEq, PyData.bool.injEq, PyData.str.injEq, intsInj, Bt.q4Inj, Bt.t3Inj, Bt.llInj, Bt.pInj, Bt.q4sInj, and_true, true_and] at e; obtain ⟨rfl, rfl, rfl, rfl⟩ := e; exact h, fun h => ⟨_, _, _, _, rfl, h⟩⟩
def p_law_parted_right : PSpec := fun as Q => ∃ (ks : List Int) (m : Int), as = [.fz (.list (ks.map .int)), .fz (.int m)] ∧ (Bt.Keys ks 1000 ∧ (2 ≤ m ∧ m ≤ 130)) ∧ Q (.fz (.bool true)) as
theorem q_law_parted_right {ks : List Int} {m : Int} {Q : Slot → List Slot → Prop} : p_law_parted_right [.fz (.list (ks.map .int)), .fz (.int m)] Q = ((Bt.Keys ks 1000 ∧ (2 ≤ m ∧ m ≤ 130)) ∧ Q (.fz (.bool true)) [.fz (.list (ks.map .int)), .fz (.int m)]) :=
  propext ⟨fun ⟨_, _, e, h⟩ => by simp only [List.cons.injEq, Slot.fz.injEq, Slot.lst.injEq, PyData.list.injEq, PyData.tuple.injEq, PyData.int.injEq, PyData.bool.injEq, PyData.str.injEq, intsInj, Bt.q4Inj, Bt.t3Inj, Bt.llInj, Bt.pInj, Bt.q4sInj, and_true, true_and] at e; obtain ⟨rfl, rfl⟩ := e; exact h, fun h => ⟨_, _, rfl, h⟩⟩
end DL

set_option Elab.async false
set_option linter.all false
set_option maxRecDepth 100000
set_option maxHeartbeats 4000000
namespace K30
open PySem PySem.Spec L2 DL
open PyProof.Rows hiding St
def topS (i : Nat) : Stmt := PySem.Challenge.pw_tailrooms_k30_whole_spill_that_falls_one.main.body.getD i (.Pass ⟨0, 0, 0, 0⟩)
abbrev s_whole_rooms : Stmt := topS 1
abbrev N_whole_rooms : List Str := ["rooms", "found"]
theorem sc_whole_rooms : FnScope N_whole_rooms ["rooms"] (defScope s_whole_rooms) := ⟨rfl, rfl, rfl, by decide +kernel, rfl, by decide +kernel, by decide +kernel⟩
abbrev s_turn : Stmt := topS 2
abbrev N_turn : List Str := ["rooms"]
theorem sc_turn : FnScope N_turn ["rooms"] (defScope s_turn) := ⟨rfl, rfl, rfl, by decide +kernel, rfl, by decide +kernel, by decide +kernel⟩
abbrev s_room_of : Stmt := topS 3
abbrev N_room_of : List Str := ["key", "rooms", "whole"]
theorem sc_room_of : FnScope N_room_of ["key", "rooms"] (defScope s_room_of) := ⟨rfl, rfl, rfl, by decide +kernel, rfl, by decide +kernel, by decide +kernel⟩
abbrev s_split_of : Stmt := topS 4
abbrev N_split_of : List Str := ["rooms"]
theorem sc_split_of : FnScope N_split_of ["rooms"] (defScope s_split_of) := ⟨rfl, rfl, rfl, by decide +kernel, rfl, by decide +kernel, by decide +kernel⟩
abbrev s_is_whole : Stmt := topS 6
abbrev N_is_whole : List Str := ["thing"]
theorem sc_is_whole : FnScope N_is_whole ["thing"] (defScope s_is_whole) := ⟨rfl, rfl, rfl, by decide +kernel, rfl, by decide +kernel, by decide +kernel⟩
abbrev s_rows_for : Stmt := topS 8
abbrev N_rows_for : List Str := ["many", "wide"]
theorem sc_rows_for : FnScope N_rows_for ["many", "wide"] (defScope s_rows_for) := ⟨rfl, rfl, rfl, by decide +kernel, rfl, by decide +kernel, by decide +kernel⟩
abbrev s_rows_of : Stmt := topS 9
abbrev N_rows_of : List Str := ["keys", "wide", "rising", "rows", "k"]
theorem sc_rows_of : FnScope N_rows_of ["keys", "wide"] (defScope s_rows_of) := ⟨rfl, rfl, rfl, by decide +kernel, rfl, by decide +kernel, by decide +kernel⟩
abbrev s_looked : Stmt := topS 10
abbrev N_looked : List Str := ["rows", "key", "looks", "row"]
theorem sc_looked : FnScope N_looked ["rows", "key"] (defScope s_looked) := ⟨rfl, rfl, rfl, by decide +kernel, rfl, by decide +kernel, by decide +kernel⟩
abbrev s_book_of : Stmt := topS 13
abbrev N_book_of : List Str := ["keys", "rooms", "held", "book", "many", "room", "new", "place", "goes", "key"]
theorem sc_book_of : FnScope N_book_of ["keys", "rooms"] (defScope s_book_of) := ⟨rfl, rfl, rfl, by decide +kernel, rfl, by decide +kernel, by decide +kernel⟩
abbrev s_is_split : Stmt := topS 14
abbrev N_is_split : List Str := ["thing", "number"]
theorem sc_is_split : FnScope N_is_split ["thing"] (defScope s_is_split) := ⟨rfl, rfl, rfl, by decide +kernel, rfl, by decide +kernel, by decide +kernel⟩
abbrev s_is_book : Stmt := topS 15
abbrev N_is_book : List Str := ["count", "thing", "sizes", "split", "room", "new", "stays", "goes"]
theorem sc_is_book : FnScope N_is_book ["count", "thing"] (defScope s_is_book) := ⟨rfl, rfl, rfl, by decide +kernel, rfl, by decide +kernel, by decide +kernel⟩
abbrev s_counts_by : Stmt := topS 16
abbrev N_counts_by : List Str := ["count", "book", "rooms", "sizes", "room", "new", "stays", "goes"]
theorem sc_counts_by : FnScope N_counts_by ["count", "book", "rooms"] (defScope s_counts_by) := ⟨rfl, rfl, rfl, by decide +kernel, rfl, by decide +kernel, by decide +kernel⟩
abbrev s_spills_by : Stmt := topS 17
abbrev N_spills_by : List Str := ["count", "book", "wide", "rest", "told", "room", "new", "stays", "goes", "first", "behind", "last"]
theorem sc_spills_by : FnScope N_spills_by ["count", "book", "wide"] (defScope s_spills_by) := ⟨rfl, rfl, rfl, by decide +kernel, rfl, by decide +kernel, by decide +kernel⟩
abbrev s_least_rooms : Stmt := topS 18
abbrev N_least_rooms : List Str := ["count", "book", "wide", "most", "first", "behind", "rest"]
theorem sc_least_rooms : FnScope N_least_rooms ["count", "book", "wide", "most"] (defScope s_least_rooms) := ⟨rfl, rfl, rfl, by decide +kernel, rfl, by decide +kernel, by decide +kernel⟩
abbrev s_spread : Stmt := topS 20
abbrev N_spread : List Str := ["keys", "rooms", "held", "key", "room"]
theorem sc_spread : FnScope N_spread ["keys", "rooms"] (defScope s_spread) := ⟨rfl, rfl, rfl, by decide +kernel, rfl, by decide +kernel, by decide +kernel⟩
abbrev s_counts : Stmt := topS 21
abbrev N_counts : List Str := ["keys", "rooms", "row"]
theorem sc_counts : FnScope N_counts ["keys", "rooms"] (defScope s_counts) := ⟨rfl, rfl, rfl, by decide +kernel, rfl, by decide +kernel, by decide +kernel⟩
abbrev s_spill : Stmt := topS 22
abbrev N_spill : List Str := ["sizes", "wide", "many"]
theorem sc_spill : FnScope N_spill ["sizes", "wide"] (defScope s_spill) := ⟨rfl, rfl, rfl, by decide +kernel, rfl, by decide +kernel, by decide +kernel⟩
abbrev s_longest : Stmt := topS 23
abbrev N_longest : List Str := ["sizes", "wide", "rows", "most", "many"]
theorem sc_longest : FnScope N_longest ["sizes", "wide"] (defScope s_longest) := ⟨rfl, rfl, rfl, by decide +kernel, rfl, by decide +kernel, by decide +kernel⟩
abbrev s_all_looks : Stmt := topS 24
abbrev N_all_looks : List Str := ["keys", "rooms", "wide", "told", "held", "rows", "key"]
theorem sc_all_looks : FnScope N_all_looks ["keys", "rooms", "wide"] (defScope s_all_looks) := ⟨rfl, rfl, rfl, by decide +kernel, rfl, by decide +kernel, by decide +kernel⟩
abbrev s_parted : Stmt := topS 26
abbrev N_parted : List Str := ["one", "other", "place"]
theorem sc_parted : FnScope N_parted ["one", "other"] (defScope s_parted) := ⟨rfl, rfl, rfl, by decide +kernel, rfl, by decide +kernel, by decide +kernel⟩
abbrev s_law_bag : Stmt := topS 28
abbrev N_law_bag : List Str := ["script", "cell"]
theorem sc_law_bag : FnScope N_law_bag ["script"] (defScope s_law_bag) := ⟨rfl, rfl, rfl, by decide +kernel, rfl, by decide +kernel, by decide +kernel⟩
abbrev s_law_take : Stmt := topS 29
abbrev N_law_take : List Str := ["bag", "many", "cell", "stirred", "value", "begin", "second"]
theorem sc_law_take : FnScope N_law_take ["bag", "many"] (defScope s_law_take) := ⟨rfl, rfl, rfl, by decide +kernel, rfl, by decide +kernel, by decide +kernel⟩
abbrev s_law_some : Stmt := topS 30
abbrev N_law_some : List Str := ["bag", "things"]
theorem sc_law_some : FnScope N_law_some ["bag", "things"] (defScope s_law_some) := ⟨rfl, rfl, rfl, by decide +kernel, rfl, by decide +kernel, by decide +kernel⟩
abbrev s_law_mixed : Stmt := topS 31
abbrev N_law_mixed : List Str := ["bag", "things", "left", "got"]
theorem sc_law_mixed : FnScope N_law_mixed ["bag", "things"] (defScope s_law_mixed) := ⟨rfl, rfl, rfl, by decide +kernel, rfl, by decide +kernel, by decide +kernel⟩
abbrev s_law_kind : Stmt := topS 32
abbrev N_law_kind : List Str := ["thing", "got"]
theorem sc_law_kind : FnScope N_law_kind ["thing"] (defScope s_law_kind) := ⟨rfl, rfl, rfl, by decide +kernel, rfl, by decide +kernel, by decide +kernel⟩
abbrev s_law_alike : Stmt := topS 33
abbrev N_law_alike : List Str := ["got", "due", "pairs", "at", "one", "other", "name"]
theorem sc_law_alike : FnScope N_law_alike ["got", "due"] (defScope s_law_alike) := ⟨rfl, rfl, rfl, by decide +kernel, rfl, by decide +kernel, by decide +kernel⟩
abbrev s_law_power : Stmt := topS 34
abbrev N_law_power : List Str := ["rooms", "power", "bit"]
theorem sc_law_power : FnScope N_law_power ["rooms"] (defScope s_law_power) := ⟨rfl, rfl, rfl, by decide +kernel, rfl, by decide +kernel, by decide +kernel⟩
abbrev s_law_by : Stmt := topS 35
abbrev N_law_by : List Str := ["room", "rooms", "power"]
theorem sc_law_by : FnScope N_law_by ["room", "rooms"] (defScope s_law_by) := ⟨rfl, rfl, rfl, by decide +kernel, rfl, by decide +kernel, by decide +kernel⟩
abbrev s_law_of : Stmt := topS 36
abbrev N_law_of : List Str := ["keys", "room", "rooms", "by", "key"]
theorem sc_law_of : FnScope N_law_of ["keys", "room", "rooms"] (defScope s_law_of) := ⟨rfl, rfl, rfl, by decide +kernel, rfl, by decide +kernel, by decide +kernel⟩
abbrev s_law_more_rows : Stmt := topS 37
abbrev N_law_more_rows : List Str := ["many", "wide"]
theorem sc_law_more_rows : FnScope N_law_more_rows ["many", "wide"] (defScope s_law_more_rows) := ⟨rfl, rfl, rfl, by decide +kernel, rfl, by decide +kernel, by decide +kernel⟩
abbrev s_law_spill : Stmt := topS 38
abbrev N_law_spill : List Str := ["lots", "wide", "many"]
theorem sc_law_spill : FnScope N_law_spill ["lots", "wide"] (defScope s_law_spill) := ⟨rfl, rfl, rfl, by decide +kernel, rfl, by decide +kernel, by decide +kernel⟩
abbrev s_law_drawn_keys : Stmt := topS 39
abbrev N_law_drawn_keys : List Str := ["bag", "most", "way", "many", "got", "end", "step", "at", "key"]
theorem sc_law_drawn_keys : FnScope N_law_drawn_keys ["bag", "most"] (defScope s_law_drawn_keys) := ⟨rfl, rfl, rfl, by decide +kernel, rfl, by decide +kernel, by decide +kernel⟩
abbrev s_law_looks_of : Stmt := topS 40
abbrev N_law_looks_of : List Str := ["keys", "rooms", "wide", "got", "room", "at"]
theorem sc_law_looks_of : FnScope N_law_looks_of ["keys", "rooms", "wide"] (defScope s_law_looks_of) := ⟨rfl, rfl, rfl, by decide +kernel, rfl, by decide +kernel, by decide +kernel⟩
abbrev s_law_fall_right : Stmt := topS 41
abbrev N_law_fall_right : List Str := ["keys", "wide", "most", "got", "past", "rooms", "own", "now", "room", "many"]
theorem sc_law_fall_right : FnScope N_law_fall_right ["keys", "wide", "most"] (defScope s_law_fall_right) := ⟨rfl, rfl, rfl, by decide +kernel, rfl, by decide +kernel, by decide +kernel⟩
abbrev s_law_book_right : Stmt := topS 42
abbrev N_law_book_right : List Str := ["keys", "wide", "most", "spills", "book", "line", "at", "one", "due", "some", "first", "behind", "told", "rooms"]
theorem sc_law_book_right : FnScope N_law_book_right ["keys", "wide", "most", "spills"] (defScope s_law_book_right) := ⟨rfl, rfl, rfl, by decide +kernel, rfl, by decide +kernel, by decide +kernel⟩
abbrev s_law_parted_right : Stmt := topS 43
abbrev N_law_parted_right : List Str := ["keys", "most", "some", "got", "at", "one", "due", "two", "three", "ways", "other"]
theorem sc_law_parted_right : FnScope N_law_parted_right ["keys", "most"] (defScope s_law_parted_right) := ⟨rfl, rfl, rfl, by decide +kernel, rfl, by decide +kernel, by decide +kernel⟩
abbrev s_law : Stmt := topS 44
abbrev N_law : List Str := ["script", "bag", "again", "keys", "wide", "most", "spills", "past", "rooms", "now", "key", "looks"]
theorem sc_law : FnScope N_law ["script"] (defScope s_law) := ⟨rfl, rfl, rfl, by decide +kernel, rfl, by decide +kernel, by decide +kernel⟩
structure Txt (K : PySem.W.Frag) (mg : Str → Option Value) : Prop where
  abs : mg "abs" = none
  bool : mg "bool" = none
  dict : mg "dict" = none
  enumerate : mg "enumerate" = none
  int : mg "int" = none
  isinstance : mg "isinstance" = none
  len : mg "len" = none
  list : mg "list" = none
  max : mg "max" = none
  range : mg "range" = none
  sorted : mg "sorted" = none
  str : mg "str" = none
  sum : mg "sum" = none
  tuple : mg "tuple" = none
  zip : mg "zip" = none
  d_whole_rooms : DefAt K mg "whole_rooms" s_whole_rooms ["rooms"]
  d_turn : DefAt K mg "turn" s_turn ["rooms"]
  d_room_of : DefAt K mg "room_of" s_room_of ["key", "rooms"]
  d_split_of : DefAt K mg "split_of" s_split_of ["rooms"]
  d_is_whole : DefAt K mg "is_whole" s_is_whole ["thing"]
  d_rows_for : DefAt K mg "rows_for" s_rows_for ["many", "wide"]
  d_rows_of : DefAt K mg "rows_of" s_rows_of ["keys", "wide"]
  d_looked : DefAt K mg "looked" s_looked ["rows", "key"]
  d_book_of : DefAt K mg "book_of" s_book_of ["keys", "rooms"]
  d_is_split : DefAt K mg "is_split" s_is_split ["thing"]
  d_is_book : DefAt K mg "is_book" s_is_book ["count", "thing"]
  d_counts_by : DefAt K mg "counts_by" s_counts_by ["count", "book", "rooms"]
  d_spills_by : DefAt K mg "spills_by" s_spills_by ["count", "book", "wide"]
  d_least_rooms : DefAt K mg "least_rooms" s_least_rooms ["count", "book", "wide", "most"]
  d_spread : DefAt K mg "spread" s_spread ["keys", "rooms"]
  d_counts : DefAt K mg "counts" s_counts ["keys", "rooms"]
  d_spill : DefAt K mg "spill" s_spill ["sizes", "wide"]
  d_longest : DefAt K mg "longest" s_longest ["sizes", "wide"]
  d_all_looks : DefAt K mg "all_looks" s_all_looks ["keys", "rooms", "wide"]
  d_parted : DefAt K mg "parted" s_parted ["one", "other"]
  d_law_bag : DefAt K mg "_law_bag" s_law_bag ["script"]
  d_law_take : DefAt K mg "_law_take" s_law_take ["bag", "many"]
  d_law_some : DefAt K mg "_law_some" s_law_some ["bag", "things"]
  d_law_mixed : DefAt K mg "_law_mixed" s_law_mixed ["bag", "things"]
  d_law_kind : DefAt K mg "_law_kind" s_law_kind ["thing"]
  d_law_alike : DefAt K mg "_law_alike" s_law_alike ["got", "due"]
  d_law_power : DefAt K mg "_law_power" s_law_power ["rooms"]
  d_law_by : DefAt K mg "_law_by" s_law_by ["room", "rooms"]
  d_law_of : DefAt K mg "_law_of" s_law_of ["keys", "room", "rooms"]
  d_law_more_rows : DefAt K mg "_law_more_rows" s_law_more_rows ["many", "wide"]
  d_law_spill : DefAt K mg "_law_spill" s_law_spill ["lots", "wide"]
  d_law_drawn_keys : DefAt K mg "_law_drawn_keys" s_law_drawn_keys ["bag", "most"]
  d_law_looks_of : DefAt K mg "_law_looks_of" s_law_looks_of ["keys", "rooms", "wide"]
  d_law_fall_right : DefAt K mg "_law_fall_right" s_law_fall_right ["keys", "wide", "most"]
  d_law_book_right : DefAt K mg "_law_book_right" s_law_book_right ["keys", "wide", "most", "spills"]
  d_law_parted_right : DefAt K mg "_law_parted_right" s_law_parted_right ["keys", "most"]
  d_law : DefAt K mg "law" s_law ["script"]
  c_MOST_SPLITS : ∃ t, mg "MOST_SPLITS" = some (.int 129 t)
end K30

set_option Elab.async false
set_option linter.all false
set_option maxRecDepth 100000
set_option maxHeartbeats 4000000
namespace K30
open PySem PySem.Spec L2 DL
open PyProof.Rows hiding St
local macro_rules | `(tactic| walk_at "dl") => `(tactic| ((try simp only [List.cons_append, List.nil_append, uns_0, uns_s]); (try simp (maxSteps := 3000000) -implicitDefEqProofs only [↓slotK_0, ↓slotK_s, ↓setK_0, ↓setK_s, ↓frzK_f, ↓frzK_l, ↓frzK_o, ↓spotK_f, ↓spotK_l, ↓spotK_o, ↓flatK_f, ↓flatK_l, ↓flatK_0, ↓getK_p, ↓toDK_f, ↓toDK_l, ↓toDsK_0, ↓toDsK_s, ↓toDsK_fz, ↓blK_b, ↓getK_d, ↓getK_v, ↓getsK_0, ↓getsK_s, ↓allK_0, ↓allK_s, ↓argK_0, ↓argK_s, ↓e_K, ↓e_name, ↓e_move, ↓e_nmB, ↓e_of, ↓e_bin, ↓e_bl, ↓e_chn, ↓e_and, ↓e_or, ↓e_not, ↓e_andV, ↓e_orV, ↓e_notV, ↓e_if, ↓e_nil, ↓e_cons, ↓e_tup, ↓e_lst, ↓e_cb, ↓e_isi, ↓negK_i, ↓e_neg, ↓e_fn0, ↓e_fn1, ↓callK_v, ↓e_noPart, ↓e_part, ↓e_sl, ↓e_rev, ↓slK_l, ↓slK_t, ↓revK_l, ↓e_add, ↓e_addL, ↓e_addT, ↓e_addS, ↓e_sub, ↓e_mul, ↓e_mulL, ↓e_div, ↓e_mod, ↓e_pow, ↓e_shl, ↓e_lt, ↓e_le, ↓e_gt, ↓e_ge, ↓e_eq, ↓e_ne, ↓e_eqS, ↓e_neS, ↓e_eqB, ↓e_neB, ↓e_eqL, ↓e_neL, ↓e_eqT, ↓e_neT, ↓e_eqN, ↓e_eqIN, ↓e_is, ↓e_isB, ↓e_isnot, ↓e_isnotB, ↓e_in, ↓e_inT, ↓e_notin, ↓e_ix, ↓e_ixT, ↓e_len, ↓e_lenT, ↓e_lenS, ↓intsK_m, ↓intsK_0, ↓intsK_s, ↓e_sum, ↓e_max, ↓e_min, ↓e_max2, ↓e_min2, ↓e_abs, ↓e_int, ↓e_intB, ↓e_list, ↓e_listT, ↓e_tuple, ↓boolsK_m, ↓e_all, ↓e_any, ↓e_sorted, ↓sortK_m, ↓sortK_p, ↓isN_i, ↓isN_n, ↓isN_l, ↓isN_t, ↓e_next, ↓e_seq, ↓e_break, ↓e_cont, ↓e_drop, ↓e_ret, ↓e_retN, ↓e_ifS, ↓e_set, ↓e_asg, ↓e_gnm, ↓e_gtp, ↓e_gs0, ↓e_gss, ↓lstK_l, ↓e_append, ↓extK_l, ↓e_extend, ↓e_popAt, ↓e_reverse, ↓e_setI2, ↓fzK_f, ↓e_aug, ↓e_augI2, ↓e_par, ↓e_par3, ↓e_index, ↓ite_dec, ↓ite_ndec, ↓ite_tr, ↓ite_fa, ↓ite_nt, ↓e_listZip, ↓lzK_l, ↓lzK_t, ↓at_0, ↓at_1, ↓at_2, ↓at_3, ↓tpK_2, ↓tpK_2', ↓tpK_3', ↓tpK_4', ↓tpK_3, ↓tpK_4, ↓e_lc, ↓wipeK_n, ↓wipeK_c, ↓e_yes, ↓rep_int, ↓eqK_nilI, ↓eqK_nilP, ↓eqK_ints, ↓atK_last, ↓eqK_Ni, ↓List.length_map, ↓Int.toNat_natCast, ↓e_for, ↓e_iLst, ↓e_iTpl, ↓e_iRg1, ↓e_iRg2, ↓e_iEnm, ↓e_iZp, ↓lsK_l, ↓tsK_t, ↓rg1K_i, ↓rg2K_i, ↓en1K_l, ↓zpK_l, ↓e_neNN, ↓ite_T, ↓ite_F, ↓og_0, ↓og_1, ↓og_2, ↓og_3, ↓is_0, ↓is_1, ↓is_2, ↓is_3, ↓aug_0, ↓aug_1, ↓aug_2, ↓aug_3, ↓ndK_v, ↓ndK_p, ↓ovK_o, ↓atOK_0, ↓atOK_l, ↓atOK_i, ↓kidK_0, ↓kidK_1, ↓kidK_2, ↓kidK_3, ↓put_0, ↓put_l0, ↓put_l1, ↓put_l2, ↓put_i0, ↓put_i1, ↓put_i2, ↓put_i3, ↓dctK_d, ↓olK_l, ↓keyK_i, ↓keyK_s, ↓ovOf_f, ↓ovOf_l, ↓ovOf_o, ↓chK_e, ↓e_lcO, ↓e_dnew, ↓e_dget, ↓e_din, ↓e_dput, ↓flK_i, ↓flK_n, ↓e_dget2, ↓e_dpop, ↓e_dlen, ↓e_appP, ↓e_ixP, ↓e_callK, ↓e_callN, ↓e_kSort, ↓e_kCopy, ↓e_kList, ↓e_dictP, ↓e_oNil, ↓e_oCons, ↓e_lstO, ↓e_slO, ↓ikK_i, ↓sdct_keys, ↓sdct_get, ↓sdct_put, ↓idct_put, ↓idct_get, ↓toD_ll, ↓e_llD, ↓e_q4D, ↓e_t3D, ↓e_pD, ↓olK_ll, ↓pinned_l, ↓pinned_d, ↓pinned_i, ↓eq_self, ↓e_frz, ↓e_q4sD, ↓e_lenP, ↓e_iZp3, ↓zp3K_l, ↓q_all_looks, ↓q_best_l, ↓q_best_n, ↓q_best_t, ↓q_book_of, ↓q_counts, ↓q_counts_by, ↓q_fewest_for, ↓q_free_of, ↓q_is_book, ↓q_is_put_l, ↓q_is_put_n, ↓q_is_put_t, ↓q_is_split, ↓q_is_whole, ↓q_joined_of, ↓q_keys_for, ↓q_last_bits, ↓q_law_book_right, ↓q_law_by, ↓q_law_drawn_keys, ↓q_law_fall_right, ↓q_law_kind, ↓q_law_looks_of, ↓q_law_mixed, ↓q_law_more_rows, ↓q_law_of, ↓q_law_parted_right, ↓q_law_power, ↓q_law_some, ↓q_law_spill, ↓q_law_take, ↓q_least_rooms, ↓q_level, ↓q_longest, ↓q_looked, ↓q_most_for, ↓q_needs_of, ↓q_parted, ↓q_put, ↓q_room_of, ↓q_rows_for, ↓q_rows_of, ↓q_spill, ↓q_spill_behind, ↓q_spills_by, ↓q_split_of, ↓q_spread, ↓q_turn, ↓q_twos_to, ↓q_whole_rooms, ↓uns_0, ↓uns_s, ↓getD_0, List.cons_append, List.nil_append, List.length_cons, List.length_nil, true_and, and_true])))
section
variable {P : Program} {w : World} {K : PySem.W.Frag} {mg : Str → Option Value} {base : Heap}
theorem okd_whole_rooms (T : Txt K mg) : Okd P w K mg base 1 "whole_rooms" 1 [] p_whole_rooms := by
  refine T.d_whole_rooms.okP sc_whole_rooms 1 rfl rfl fun f cdv A outer s H E hr => ⟨_, _,
    (dss_cons (ds_set 1 sc_whole_rooms.nd de_int)
      (dss_cons (ds_while PassesOwn.never (dt_cmp (op_le) sr_le (db_of (de_op op_mulU sr_mul (db_of de_int) (db_var 1))) (db_var 0) (nomark _))
      (dss_one (ds_set 1 sc_whole_rooms.nd (de_op op_mulU sr_mul (db_of de_int) (db_var 1)))))
      (dss_one (ds_ret (de_move 1))))), fun as Qd h => ?_⟩
  obtain ⟨r, rfl, hr, q⟩ := h
  walk_at "dl"
  have hw := Bt.whole_ok hr
  refine ⟨fun m ρ => ∃ n : Nat, n + m = Bt.lev r ∧ ρ = [.fz (.int r), .fz (.int (Bt.pw n))], Bt.lev r, ⟨0, by omega, rfl⟩, ?_⟩
  rintro m _ ⟨n, hm, rfl⟩
  walk_at "dl"
  refine ⟨mulOk_l (by decide) (by decide), ?_⟩
  have hl := Bt.lev_ok hr
  split
  · rename_i h1
    have hn : n ≠ Bt.lev r := fun e => by rw [e] at h1; omega
    refine ⟨mulOk_l (by decide) (by decide), Wk.mk ⟨m - 1, by omega, n + 1, by omega, ?_⟩⟩
    rw [Bt.pw_s]
  · rename_i h1
    have hn : n = Bt.lev r := by
      rcases Nat.lt_or_ge n (Bt.lev r) with h2 | h2
      · have := Bt.pw_lt h2; omega
      · omega
    rw [hn]
    exact q
theorem okd_is_whole (T : Txt K mg) : Okd P w K mg base 1 "is_whole" 1 [] p_is_whole := by
  refine T.d_is_whole.okP sc_is_whole 0 rfl rfl fun f cdv A outer s H E hr => ⟨_, _,
    (dss_one (ds_ret (de_and (de_isi .int (by rfl) T.isinstance (db_var 0) (pe_bltn (by rfl) T.int (by decide +kernel) rfl)) (de_one (de_not (de_isi .bool (by rfl) T.isinstance (db_var 0) (pe_bltn (by rfl) T.bool (by decide +kernel) rfl))))))), fun as Qd h => ?_⟩
  obtain ⟨i, rfl, q⟩ := h
  walk_at "dl"
  exact q
theorem okd_rows_for (T : Txt K mg) : Okd P w K mg base 1 "rows_for" 2 [] p_rows_for := by
  refine T.d_rows_for.okP sc_rows_for 0 rfl rfl fun f cdv A outer s H E hr => ⟨_, _,
    (dss_one (ds_ret (de_callB (cr_maxU rfl) sc_max (by rfl) T.max (by decide +kernel) (da_cons (db_of de_int) (da_cons (db_of (de_op op_fdivW sr_div (db_of (de_op op_sub sr_sub (db_of (de_op op_addU sr_add (db_var 0) (db_var 1))) (db_of de_int))) (db_var 1))) da_nil))))), fun as Qd h => ?_⟩
  obtain ⟨m, w, rfl, hw, q⟩ := h
  walk_at "dl"
  exact ⟨hw.div, q⟩
theorem okd_looked (T : Txt K mg) : Okd P w K mg base 1 "looked" 2 [] p_looked := by
  refine T.d_looked.okP sc_looked 2 rfl rfl fun f cdv A outer s H E hr => ⟨_, _,
    (dss_cons (ds_set 2 sc_looked.nd de_int)
      (dss_cons (ds_for PassesOwn.never rfl (di_list (de_var 0)) (dg_name 3 sc_looked.nd)
      (dss_cons (ds_aug 2 sc_looked.nd ip_add (db_of de_int))
      (dss_one (ds_if (dw_pt (dw_and (dt_cmp (op_neU hr.units) sr_ne (db_var 3) (db_of (de_lst da_nil)) (nomark _)) (dw_and1 (dt_cmp (op_ge) sr_ge (db_of (de_ix (db_var 3) (db_of (de_neg (db_of de_int))))) (db_var 1) (nomark _)))))
      (dss_one (ds_ret (de_tup (da_cons (db_of (de_cmp (op_in_seq) sr_in (db_var 1) (db_var 3) rfl)) (da_cons (db_of (de_var 2)) da_nil)))))
      dss_nil))))
      (dss_one (ds_ret (de_tup (da_cons (db_of de_bl) (da_cons (db_of (de_var 2)) da_nil))))))), fun as Qd h => ?_⟩
  obtain ⟨rs, k, rfl, ⟨hn, hr⟩, q⟩ := h
  have hn' : rs.length ≤ 1000000 := hn
  walk_at "dl"
  refine FR.all Bt.llD (fun pre post ρ => ∃ s3, Bt.look rs k 0 = Bt.look post k pre.length ∧ ρ = [.fz (.list (rs.map Bt.llD)), .fz (.int k), .fz (.int pre.length), s3]) ⟨_, rfl, rfl⟩ ?_ ?_
  · rintro pre r post _ e ⟨s3, hk, rfl⟩
    rw [hk] at q
    rw [Bt.look_cons] at q hk
    walk_at "dl"
    refine ⟨by decide, ?_⟩
    have next : ∀ s, Bt.look rs k 0 = Bt.look post k (pre.length + 1) → Wk (fun ρ => ∃ s3, Bt.look rs k 0 = Bt.look post k ((pre ++ [r]).length : Nat) ∧ ρ = [.fz (.list (rs.map Bt.llD)), .fz (.int k), .fz (.int ((pre ++ [r]).length : Nat)), s3]) [.fz (.list (rs.map Bt.llD)), .fz (.int k), .fz (.int (pre.length + 1)), s] := fun s h => Wk.mk ⟨s, by simpa using h, by simp⟩
    by_cases h1 : r = []
    · rw [if_pos (by simp [h1])]
      rw [if_neg (by simp [h1])] at hk
      exact next _ hk
    · rw [if_neg (by simp [h1]), atK_lastM 0 h1]
      walk_at "dl"
      by_cases h2 : k ≤ r.getLastD 0
      · rw [if_pos h2]
        rw [if_pos ⟨h1, h2⟩] at q
        rw [inK_ints]
        exact ⟨by decide, q⟩
      · rw [if_neg h2]
        rw [if_neg (fun z => h2 z.2)] at hk
        exact next _ hk
  · rintro _ ⟨s3, hk, rfl⟩
    rw [hk] at q
    walk_at "dl"
    exact ⟨by decide, q⟩
theorem okd_counts_by (T : Txt K mg) : Okd P w K mg base 1 "counts_by" 3 [] p_counts_by := by
  refine T.d_counts_by.okP sc_counts_by 5 rfl rfl fun f cdv A outer s H E hr => ⟨_, _,
    (dss_cons (ds_set 3 sc_counts_by.nd (de_lst (da_cons (db_of (de_var 0)) da_nil)))
      (dss_cons (ds_for PassesOwn.never rfl (di_list (de_slice (db_var 1) do_none (do_some (db_of (de_op op_sub sr_sub (db_var 2) (db_of de_int)))))) (dg_tup rfl (dgs_cons (dg_name 4 sc_counts_by.nd) (dgs_cons (dg_name 5 sc_counts_by.nd) (dgs_cons (dg_name 6 sc_counts_by.nd) (dgs_cons (dg_name 7 sc_counts_by.nd) dgs_nil)))))
      (dss_cons (ds_setI 3 (de_var 6) (db_var 4))
      (dss_one (ds_expr (de_append 3 (de_var 7))))))
      (dss_one (ds_ret (de_move 3))))), fun as Qd h => ?_⟩
  obtain ⟨c, B, r, rfl, ⟨hr, hn, hs⟩, q⟩ := h
  have hn' : B.length ≤ 1000000 := hn
  walk_at "dl"
  rw [cutD_map, cutD_take (by omega)]
  refine ⟨by decide, ?_⟩
  refine FR.all Bt.q4D (fun pre post ρ => ∃ s4 s5 s6 s7, ρ = [.fz (.int c), .fz (.list (B.map Bt.q4D)), .fz (.int r), .lst ((Bt.sizes c pre).map .int), s4, s5, s6, s7]) ⟨_, _, _, _, rfl⟩ ?_ ?_
  · rintro pre x post _ e ⟨s4, s5, s6, s7, rfl⟩
    have hsl := Bt.sizes_len (c := c) (B := pre)
    have hx : B[pre.length]? = some x := by
      have h1 : (B.take (r - 1).toNat)[pre.length]? = some x := by rw [e]; simp
      rw [List.getElem?_take] at h1
      split at h1
      · exact h1
      · cases h1
    obtain ⟨h1, h2⟩ := hs _ _ hx
    have hpl : pre.length < B.length := (List.getElem?_eq_some_iff.mp hx).1
    have hw := Bt.whole_ok (r := (pre.length : Int) + 1) (by omega)
    obtain ⟨a, b, s, g⟩ := x
    dsimp only at h1 h2
    walk_at "dl"
    rw [isK_ints (by omega) (by omega)]
    walk_at "dl"
    have e5 : ((Bt.sizes c pre).set a.toNat s).map PyData.int ++ [.int g] = (Bt.sizes c (pre ++ [(a, b, s, g)])).map .int := by
      rw [Bt.sizes_snoc]; unfold Bt.szStep; simp
    rw [e5]
    exact ⟨by rw [List.length_set, sizeLine_eq]; omega, Wk.mk ⟨_, _, _, _, rfl⟩⟩
  · rintro _ ⟨s4, s5, s6, s7, rfl⟩
    walk_at "dl"
    exact q
theorem okd_parted (T : Txt K mg) : Okd P w K mg base 1 "parted" 2 [] p_parted := by
  refine T.d_parted.okP sc_parted 1 rfl rfl fun f cdv A outer s H E hr => ⟨_, _,
    (dss_cons (ds_set 2 sc_parted.nd de_int)
      (dss_cons (ds_while PassesOwn.never (dt_cmp (op_eqU hr.units) sr_eq (db_of (de_op op_mod sr_mod (db_of (de_op op_fdivW sr_div (db_var 0) (db_var 2))) (db_of de_int))) (db_of (de_op op_mod sr_mod (db_of (de_op op_fdivW sr_div (db_var 1) (db_var 2))) (db_of de_int))) (nomark _))
      (dss_one (ds_set 2 sc_parted.nd (de_op op_mulU sr_mul (db_var 2) (db_of de_int)))))
      (dss_one (ds_ret (de_op op_addU sr_add (db_of (de_callB (cr_maxU rfl) sc_max (by rfl) T.max (by decide +kernel) (da_cons (db_of (de_op op_mod sr_mod (db_var 0) (db_of (de_op op_mulU sr_mul (db_of de_int) (db_var 2))))) (da_cons (db_of (de_op op_mod sr_mod (db_var 1) (db_of (de_op op_mulU sr_mul (db_of de_int) (db_var 2))))) da_nil)))) (db_of de_int)))))), fun as Qd h => ?_⟩
  obtain ⟨a, b, rfl, n, hn, hb, q⟩ := h
  obtain ⟨hb1, hb2⟩ := hb
  walk_at "dl"
  refine ⟨fun m ρ => ∃ k : Nat, k + m = n ∧ ρ = [.fz (.int a), .fz (.int b), .fz (.int (Bt.pw k))], n, ⟨0, by omega, rfl⟩, ?_⟩
  rintro m _ ⟨k, hm, rfl⟩
  have hp := Bt.pw_pos k
  have hp2 : Bt.pw k < 2 ^ 100 := by
    have := Bt.pw_lt (show k < 100 by omega)
    have e : Bt.pw 100 = 2 ^ 100 := by decide +kernel
    omega
  walk_at "dl"
  refine ⟨⟨hp, hp2⟩, by decide, ⟨hp, hp2⟩, by decide, ?_⟩
  split
  · rename_i h1
    have hk : k ≠ n := fun e => by subst e; exact hb2 h1
    refine ⟨mulOk_r (by decide) (by decide), Wk.mk ⟨m - 1, by omega, k + 1, by omega, ?_⟩⟩
    rw [Bt.pw_s, Int.mul_comm]
  · rename_i h1
    have hk : k = n := by
      rcases Nat.lt_or_ge k n with h2 | h2
      · exact absurd (hb1 k h2) h1
      · omega
    subst hk
    unfold Bt.partAt at q
    rw [Bt.pw_s] at q
    exact ⟨mulOk_l (by decide) (by decide), by omega, mulOk_l (by decide) (by decide), by omega, q⟩
theorem okd_law_bag (T : Txt K mg) : Okd P w K mg base 1 "_law_bag" 1 [0] (p_law_bag K) := by
  refine T.d_law_bag.okL sc_law_bag 1 rfl (by decide) rfl fun f cdv A outer s H E hr => ⟨_, _,
    (dss_one (ds_ret (de_lst (da_cons (db_of de_int) (da_cons (db_of de_int) (da_cons (db_of de_int) (da_cons (db_of (de_lc rfl sc_law_bag.nd (di_list (de_scr 0)) (blkOk_by (own := [("cell", 1)]) (N := N_law_bag) (sc := defScope s_law_bag) (by decide +kernel))
        (fun _ _ _ _ _ => (dg_name 1 sc_law_bag.nd)) (fun _ _ _ _ _ => dts_nil)
        (fun _ _ _ _ _ => (de_callB call_abs sc_abs (by rfl) T.abs (by decide +kernel) (da_cons (db_var 1) da_nil))))) da_nil))))))), fun a as Qd h => ?_⟩
  obtain ⟨ns, eq, hn, q⟩ := h
  cases eq
  walk_at "dl"
  refine e_scr ?_
  walk_at "dl"
  rw [cutD_map]
  have hl := cutD_len ns none (some 63)
  refine LC.ints absI (by rw [sizeLine_eq]; omega) (fun n _ Kt Kf hk => ?_) ?_
  · walk_at "dl"
    exact hk _ rfl
  · walk_at "dl"
    refine ⟨by decide, q _ ⟨0, 1234567891, 0, _, rfl, by decide, by decide, by decide, by decide, by rw [List.length_map]; omega, fun c hc => ?_⟩⟩
    obtain ⟨n, _, rfl⟩ := List.mem_map.mp hc
    unfold absI
    split <;> omega
theorem okd_law_take (T : Txt K mg) : Okd P w K mg base 1 "_law_take" 2 [0] (p_law_take) := by
  refine T.d_law_take.okL sc_law_take 5 rfl (by decide) rfl fun f cdv A outer s H E hr => ⟨_, _,
    (dss_cons (ds_if (dt_cmp (op_eqU hr.units) sr_eq (db_of (de_ix (db_var 0) (db_of de_int))) (db_of de_int) (nomark _))
      (dss_cons (ds_set 2 sc_law_take.nd (de_ix (db_of (de_op op_addU sr_add (db_of (de_slice (db_of (de_ix (db_var 0) (db_of de_int))) (do_some (db_of (de_ix (db_var 0) (db_of de_int)))) do_none)) (db_of (de_lst (da_cons (db_of de_int) da_nil))))) (db_of de_int)))
      (dss_cons (ds_augI 0 ip_add (db_of de_int) (db_of de_int))
      (dss_cons (ds_setI 0 (de_if (dt_cmp (op_ge) sr_ge (db_var 2) (db_of (de_op op_pow sr_pow (db_of de_int) (db_of de_int))) (nomark _)) (de_var 2) de_int) (db_of de_int))
      (dss_cons (ds_set 3 sc_law_take.nd (de_op op_addU sr_add (db_of (de_op op_addU sr_add (db_of (de_op op_mulU sr_mul (db_of (de_ix (db_var 0) (db_of de_int))) (db_of de_int))) (db_of (de_op op_mod sr_mod (db_of (de_callTy call_int1 sc_int (by rfl) T.int (by decide +kernel) (da_cons (db_var 2) da_nil))) (db_of de_int))))) (db_of (de_op op_mulU sr_mul (db_of de_int) (db_of (de_ix (db_var 0) (db_of de_int)))))))
      (dss_one (ds_setI 0 (de_op op_mod sr_mod (db_of (de_callTy call_int1 sc_int (by rfl) T.int (by decide +kernel) (da_cons (db_var 3) da_nil))) (db_of de_int)) (db_of de_int)))))))
      dss_nil)
      (dss_cons (ds_if (dt_cmp (op_gt) sr_gt (db_of (de_ix (db_var 0) (db_of de_int))) (db_of de_int) (nomark _))
      (dss_cons (ds_set 4 sc_law_take.nd (de_op op_mod sr_mod (db_of (de_callTy call_int1 sc_int (by rfl) T.int (by decide +kernel) (da_cons (db_of (de_ix (db_var 0) (db_of de_int))) da_nil))) (db_var 1)))
      (dss_cons (ds_setI 0 (de_op op_fdivW sr_div (db_of (de_callTy call_int1 sc_int (by rfl) T.int (by decide +kernel) (da_cons (db_of (de_ix (db_var 0) (db_of de_int))) da_nil))) (db_var 1)) (db_of de_int))
      (dss_one (ds_ret (de_move 4)))))
      dss_nil)
      (dss_cons (ds_set 5 sc_law_take.nd (de_op op_mod sr_mod (db_of (de_callTy call_int1 sc_int (by rfl) T.int (by decide +kernel) (da_cons (db_of (de_op op_mulU sr_mul (db_of (de_op op_addU sr_add (db_of (de_ix (db_var 0) (db_of de_int))) (db_of de_int))) (db_of de_int))) da_nil))) (db_of de_int)))
      (dss_cons (ds_set 6 sc_law_take.nd (de_op op_mod sr_mod (db_of (de_callTy call_int1 sc_int (by rfl) T.int (by decide +kernel) (da_cons (db_of (de_op op_mulU sr_mul (db_of (de_op op_mod sr_mod (db_of (de_callTy call_int1 sc_int (by rfl) T.int (by decide +kernel) (da_cons (db_of (de_op op_mulU sr_mul (db_var 5) (db_var 5))) da_nil))) (db_of de_int))) (db_of de_int))) da_nil))) (db_of de_int)))
      (dss_one (ds_ret (de_op op_mod sr_mod (db_of (de_callTy call_int1 sc_int (by rfl) T.int (by decide +kernel) (da_cons (db_of (de_op op_fdivW sr_div (db_var 6) (db_of de_int))) da_nil))) (db_var 1)))))))), fun a as Qd h => ?_⟩
  obtain ⟨L, m, e, ⟨b0, b1, b2, cs, rfl, h0, h1, h2, h3, hl, hc⟩, hm, q⟩ := h
  cases e
  walk_at "dl"
  by_cases z : b0 = 0
  · rw [if_pos z]
    obtain ⟨n, r, hn, e⟩ := take_head hc (some b2) none
    have hlen := cutD_len (cs.map PyData.int) (some b2) none
    rw [List.length_map] at hlen
    rw [e]
    refine ⟨by decide, by rw [sizeLine_eq]; omega, ?_⟩
    walk_at "dl"
    have em : ∀ a : Int, -(2 ^ 64) < a % 1000000007 ∧ a % 1000000007 < 2 ^ 64 := fun a => by omega
    have ew : ∀ a : Int, 0 ≤ a % 2147483647 ∧ a % 2147483647 < 2147483647 := fun a => by omega
    refine ⟨⟨by decide, by decide, by decide⟩, ?_⟩
    split
    all_goals
      refine ⟨mulOk_r (by decide) (by decide), by decide, mulOk_l (by decide) (by decide), by decide, ?_⟩
      split
      · refine ⟨hm.1, hm, q _ _ ⟨_, _, _, _, rfl, Int.ediv_nonneg (by omega) (by omega), (ew _).1, (ew _).2, by omega, hl, hc⟩ (Int.emod_nonneg _ (by omega)) (Int.emod_lt_of_pos _ hm.1)⟩
      · exact ⟨mulOk_r (by decide) (by decide), by decide, mulOk_l (em _).1 (em _).2, by decide, mulOk_r (by decide) (by decide), by decide, ⟨by decide, by decide⟩, hm.1, q _ _ ⟨_, _, _, _, rfl, by omega, (ew _).1, (ew _).2, by omega, hl, hc⟩ (Int.emod_nonneg _ (by omega)) (Int.emod_lt_of_pos _ hm.1)⟩
  · rw [if_neg z, if_pos (by omega)]
    exact ⟨hm.1, hm, q _ _ ⟨_, _, _, _, rfl, Int.ediv_nonneg h0 (by omega), h1, h2, h3, hl, hc⟩ (Int.emod_nonneg _ (by omega)) (Int.emod_lt_of_pos _ hm.1)⟩
theorem okd_law_kind (T : Txt K mg) : Okd P w K mg base 1 "_law_kind" 1 [] p_law_kind := by
  refine T.d_law_kind.okP sc_law_kind 1 rfl rfl fun f cdv A outer s H E hr => ⟨_, _,
    (dss_cons (ds_set 1 sc_law_kind.nd (de_lst (da_cons (db_of (de_isi .bool (by rfl) T.isinstance (db_var 0) (pe_bltn (by rfl) T.bool (by decide +kernel) rfl))) (da_cons (db_of (de_isi .int (by rfl) T.isinstance (db_var 0) (pe_bltn (by rfl) T.int (by decide +kernel) rfl))) (da_cons (db_of (de_isi .str (by rfl) T.isinstance (db_var 0) (pe_bltn (by rfl) T.str (by decide +kernel) rfl))) da_nil)))))
      (dss_cons (ds_set 1 sc_law_kind.nd (de_op op_addU sr_add (db_var 1) (db_of (de_lst (da_cons (db_of (de_isi .tuple (by rfl) T.isinstance (db_var 0) (pe_bltn (by rfl) T.tuple (by decide +kernel) rfl))) (da_cons (db_of (de_isi .list (by rfl) T.isinstance (db_var 0) (pe_bltn (by rfl) T.list (by decide +kernel) rfl))) (da_cons (db_of (de_isi .dict (by rfl) T.isinstance (db_var 0) (pe_bltn (by rfl) T.dict (by decide +kernel) rfl))) da_nil)))))))
      (dss_one (ds_ret (de_if (dt_cmp (op_in_seq) sr_in (db_of de_bl) (db_var 1) rfl) (de_index (db_var 1) (db_of de_bl)) (de_neg (db_of de_int))))))), fun as Qd h => ?_⟩
  obtain ⟨d, rfl, q⟩ := h
  walk_at "dl"
  refine ⟨by decide, by decide, by decide, ?_⟩
  cases d <;> first | exact ⟨⟨rfl, rfl⟩, ⟨rfl, rfl⟩, q⟩ | exact ⟨⟨rfl, rfl⟩, q⟩
theorem okd_law_power (T : Txt K mg) : Okd P w K mg base 1 "_law_power" 1 [] p_law_power := by
  refine T.d_law_power.okP sc_law_power 2 rfl rfl fun f cdv A outer s H E hr => ⟨_, _,
    (dss_cons (ds_set 1 sc_law_power.nd de_int)
      (dss_cons (ds_for PassesOwn.never rfl (di_range1 (by rfl) T.range (da_cons (db_of de_int) da_nil)) (dg_name 2 sc_law_power.nd)
      (dss_one (ds_set 1 sc_law_power.nd (de_if (dt_cmp (op_le) sr_le (db_of (de_op op_mulU sr_mul (db_of de_int) (db_var 1))) (db_var 0) (nomark _)) (de_op op_mulU sr_mul (db_of de_int) (db_var 1)) (de_var 1)))))
      (dss_one (ds_ret (de_move 1))))), fun as Qd h => ?_⟩
  obtain ⟨r, rfl, ⟨hr, hr2⟩, q⟩ := h
  have hl := Bt.lev_ok hr
  have hb : Bt.lev r < 61 := Bt.lev_lt hr (by unfold Bt.pw; simpa using hr2)
  walk_at "dl"
  refine ⟨⟨by omega, by omega⟩, ?_⟩
  refine FR.range0 (fun i ρ => ∃ s2, ρ = [.fz (.int r), .fz (.int (Bt.pw (min i (Bt.lev r)))), s2]) ⟨_, by rw [Nat.zero_min]; rfl⟩ ?_ ?_
  · rintro i _ hi ⟨s2, rfl⟩
    walk_at "dl"
    refine ⟨mulOk_l (by decide) (by decide), ?_⟩
    split
    · rename_i h1
      have hn : i < Bt.lev r := by
        rcases Nat.lt_or_ge i (Bt.lev r) with h2 | h2
        · exact h2
        · rw [Nat.min_eq_right h2] at h1; omega
      refine ⟨mulOk_l (by decide) (by decide), Wk.mk ⟨.fz (.int i), ?_⟩⟩
      rw [Nat.min_eq_left (by omega), Nat.min_eq_left (by omega), Bt.pw_s]
    · rename_i h1
      have hn : Bt.lev r ≤ i := by
        rcases Nat.lt_or_ge i (Bt.lev r) with h2 | h2
        · rw [Nat.min_eq_left (by omega)] at h1
          have := Bt.pw_lt h2; omega
        · exact h2
      refine Wk.mk ⟨.fz (.int i), ?_⟩
      rw [Nat.min_eq_right hn, Nat.min_eq_right (by omega)]
  · rintro _ ⟨s2, rfl⟩
    walk_at "dl"
    have e : min (Int.toNat 61) (Bt.lev r) = Bt.lev r := Nat.min_eq_right (by show _ ≤ 61; omega)
    rw [e]
    exact q
theorem okd_law_more_rows (T : Txt K mg) : Okd P w K mg base 1 "_law_more_rows" 2 [] p_law_more_rows := by
  refine T.d_law_more_rows.okP sc_law_more_rows 0 rfl rfl fun f cdv A outer s H E hr => ⟨_, _,
    (dss_one (ds_ret (de_if (dt_cmp (op_gt) sr_gt (db_var 0) (db_of de_int) (nomark _)) (de_callTy call_int1 sc_int (by rfl) T.int (by decide +kernel) (da_cons (db_of (de_op op_fdivW sr_div (db_of (de_op op_sub sr_sub (db_var 0) (db_of de_int))) (db_var 1))) da_nil)) de_int))), fun as Qd h => ?_⟩
  obtain ⟨m, w, rfl, hw, q⟩ := h
  unfold Bt.moreR at q
  walk_at "dl"
  split
  · rename_i hm
    rw [if_pos hm] at q
    exact ⟨hw.div, q⟩
  · rename_i hm
    rw [if_neg hm] at q
    exact q
theorem okd_turn (T : Txt K mg) : Okd P w K mg base 2 "turn" 1 [] p_turn := by
  refine T.d_turn.okP sc_turn 0 rfl rfl fun f cdv A outer s H E hr => ⟨_, _,
    (dss_one (ds_ret (de_op op_sub sr_sub (db_var 0) (db_of (de_fn [] (okd_whole_rooms T) (hr.mono (by decide)) (da_cons (db_of (de_var 0)) da_nil)))))), fun as Qd h => ?_⟩
  obtain ⟨r, rfl, hr, q⟩ := h
  walk_at "dl"
  exact ⟨hr, q⟩
theorem okd_room_of (T : Txt K mg) : Okd P w K mg base 2 "room_of" 2 [] p_room_of := by
  refine T.d_room_of.okP sc_room_of 1 rfl rfl fun f cdv A outer s H E hr => ⟨_, _,
    (dss_cons (ds_set 2 sc_room_of.nd (de_fn [] (okd_whole_rooms T) (hr.mono (by decide)) (da_cons (db_of (de_var 1)) da_nil)))
      (dss_cons (ds_if (dt_cmp (op_lt) sr_lt (db_of (de_op op_mod sr_mod (db_var 0) (db_var 2))) (db_of (de_op op_sub sr_sub (db_var 1) (db_var 2))) (nomark _))
      (dss_one (ds_ret (de_op op_mod sr_mod (db_var 0) (db_of (de_op op_mulU sr_mul (db_of de_int) (db_var 2))))))
      dss_nil)
      (dss_one (ds_ret (de_op op_mod sr_mod (db_var 0) (db_var 2)))))), fun as Qd h => ?_⟩
  obtain ⟨k, r, rfl, hr, q⟩ := h
  have hw := Bt.whole_ok hr
  walk_at "dl"
  unfold Bt.room at q
  refine ⟨hr, by omega, ?_⟩
  split
  · rename_i h1
    rw [if_pos h1] at q
    exact ⟨mulOk_l (by decide) (by decide), by omega, q⟩
  · rename_i h1
    rw [if_neg h1] at q
    exact ⟨by omega, q⟩
theorem okd_rows_of (T : Txt K mg) : Okd P w K mg base 2 "rows_of" 2 [] p_rows_of := by
  refine T.d_rows_of.okP sc_rows_of 3 rfl rfl fun f cdv A outer s H E hr => ⟨_, _,
    (dss_cons (ds_set 2 sc_rows_of.nd (de_callB cr_sortU sc_sortU (by rfl) T.sorted (by decide +kernel) (da_cons (db_var 0) da_nil)))
      (dss_cons (ds_set 3 sc_rows_of.nd (de_lst da_nil))
      (dss_cons (ds_for PassesOwn.never rfl (di_range1 (by rfl) T.range (da_cons (db_of (de_fn [] (okd_rows_for T) (hr.mono (by decide)) (da_cons (db_of (de_callB call_len sc_len (by rfl) T.len PySem.boot_len (da_cons (db_var 2) da_nil))) (da_cons (db_of (de_var 1)) da_nil)))) da_nil)) (dg_name 4 sc_rows_of.nd)
      (dss_one (ds_expr (de_append 3 (de_slice (db_var 2) (do_some (db_of (de_op op_mulU sr_mul (db_var 4) (db_var 1)))) (do_some (db_of (de_op op_addU sr_add (db_of (de_op op_mulU sr_mul (db_var 4) (db_var 1))) (db_var 1)))))))))
      (dss_one (ds_ret (de_move 3)))))), fun as Qd h => ?_⟩
  obtain ⟨ks, w, rfl, ⟨hw, hn⟩, q⟩ := h
  have hn' : ks.length ≤ 1000000 := hn
  have hsl : (srt ks).length = ks.length := (srt_perm ks).length_eq
  have hw1 := hw.1
  have hw2 := hw.2
  have hrb : 0 ≤ rowsF ks.length w ∧ rowsF ks.length w ≤ 1000008 := by
    unfold rowsF
    have : ((ks.length : Int) + w - 1) / w ≤ (ks.length : Int) + w - 1 := Int.ediv_le_self _ (by omega)
    split <;> omega
  walk_at "dl"
  rw [hsl]
  refine ⟨by decide, hw, ⟨by omega, by omega⟩, ?_⟩
  refine FR.range0 (fun i ρ => ∃ s4, ρ = [.fz (.list (ks.map .int)), .fz (.int w), .lst ((srt ks).map .int), .lst (((List.range i).map fun i => ((srt ks).drop (i * w.toNat)).take w.toNat).map Bt.llD), s4]) ⟨_, rfl⟩ ?_ ?_
  · rintro i _ hi ⟨s4, rfl⟩
    walk_at "dl"
    refine ⟨hw.mul', hw.mul', by rw [sizeLine_eq]; simp; omega, Wk.mk ⟨.fz (.int i), ?_⟩⟩
    rw [cutD_dt (Int.mul_nonneg (by omega) (by omega)) (by omega)]
    have e : ((i : Int) * w).toNat = i * w.toNat := by
      rw [Int.toNat_mul (by omega) (by omega), Int.toNat_natCast]
    rw [e, List.range_succ]
    simp [Bt.llD, List.map_take, List.map_drop]
  · rintro _ ⟨s4, rfl⟩
    walk_at "dl"
    exact q
theorem okd_is_split (T : Txt K mg) : Okd P w K mg base 2 "is_split" 1 [] p_is_split := by
  refine T.d_is_split.okP sc_is_split 1 rfl rfl fun f cdv A outer s H E hr => ⟨_, _,
    (dss_cons (ds_if (dw_pt (dw_or (dt_not (dt_val (de_isi .tuple (by rfl) T.isinstance (db_var 0) (pe_bltn (by rfl) T.tuple (by decide +kernel) rfl)))) (dw_or1 (dt_cmp (op_neU hr.units) sr_ne (db_of (de_callB call_len sc_len (by rfl) T.len PySem.boot_len (da_cons (db_var 0) da_nil))) (db_of de_int) (nomark _)))))
      (dss_one (ds_ret de_bl))
      dss_nil)
      (dss_cons (ds_for PassesOwn.never rfl (di_tup (de_var 0)) (dg_name 1 sc_is_split.nd)
      (dss_one (ds_if (dt_not (dt_val (de_fn [] (okd_is_whole T) (hr.mono (by decide)) (da_cons (db_of (de_var 1)) da_nil))))
      (dss_one (ds_ret de_bl))
      dss_nil)))
      (dss_one (ds_ret de_bl)))), fun as Qd h => ?_⟩
  obtain ⟨a, b, c, d, rfl, q⟩ := h
  walk_at "dl"
  rw [if_pos (by simp [isTy]), if_pos (by decide)]
  refine FR.mem (fun ρ => ∃ s1, ρ = [.fz (.tuple [.int a, .int b, .int c, .int d]), s1]) ⟨_, rfl⟩ ?_ ?_
  · rintro x hx _ ⟨s1, rfl⟩
    obtain ⟨i, rfl⟩ : ∃ i : Int, x = .int i := by
      simp only [List.mem_cons, List.not_mem_nil, or_false] at hx
      rcases hx with rfl | rfl | rfl | rfl <;> exact ⟨_, rfl⟩
    walk_at "dl"
    exact Wk.mk ⟨_, rfl⟩
  · rintro _ ⟨s1, rfl⟩
    walk_at "dl"
    exact q
theorem okd_spills_by (T : Txt K mg) : Okd P w K mg base 2 "spills_by" 3 [] p_spills_by := by
  refine T.d_spills_by.okP sc_spills_by 9 rfl rfl fun f cdv A outer s H E hr => ⟨_, _,
    (dss_cons (ds_set 3 sc_spills_by.nd (de_op op_sub sr_sub (db_of (de_fn [] (okd_rows_for T) (hr.mono (by decide)) (da_cons (db_of (de_var 0)) (da_cons (db_of (de_var 2)) da_nil)))) (db_of de_int)))
      (dss_cons (ds_set 4 sc_spills_by.nd (de_lst (da_cons (db_of (de_tup (da_cons (db_of de_int) (da_cons (db_of de_int) (da_cons (db_of (de_var 3)) da_nil))))) da_nil)))
      (dss_cons (ds_for PassesOwn.never rfl (di_list (de_var 1)) (dg_tup rfl (dgs_cons (dg_name 5 sc_spills_by.nd) (dgs_cons (dg_name 6 sc_spills_by.nd) (dgs_cons (dg_name 7 sc_spills_by.nd) (dgs_cons (dg_name 8 sc_spills_by.nd) dgs_nil)))))
      (dss_cons (ds_set 3 sc_spills_by.nd (de_op op_sub sr_sub (db_of (de_op op_sub sr_sub (db_of (de_op op_addU sr_add (db_of (de_op op_addU sr_add (db_var 3) (db_of (de_fn [] (okd_rows_for T) (hr.mono (by decide)) (da_cons (db_of (de_var 7)) (da_cons (db_of (de_var 2)) da_nil)))))) (db_of (de_fn [] (okd_rows_for T) (hr.mono (by decide)) (da_cons (db_of (de_var 8)) (da_cons (db_of (de_var 2)) da_nil)))))) (db_of de_int))) (db_of (de_fn [] (okd_rows_for T) (hr.mono (by decide)) (da_cons (db_of (de_op op_addU sr_add (db_var 7) (db_var 8))) (da_cons (db_of (de_var 2)) da_nil))))))
      (dss_cons (ds_asg (de_ix (db_var 4) (db_of (de_neg (db_of de_int)))) (dg_tup rfl (dgs_cons (dg_name 9 sc_spills_by.nd) (dgs_cons (dg_name 10 sc_spills_by.nd) (dgs_cons (dg_name 11 sc_spills_by.nd) dgs_nil)))))
      (dss_one (ds_if (dt_cmp (op_eqU hr.units) sr_eq (db_var 3) (db_var 11) (nomark _))
      (dss_one (ds_setI 4 (de_tup (da_cons (db_of (de_var 9)) (da_cons (db_of (de_op op_addU sr_add (db_var 10) (db_of de_int))) (da_cons (db_of (de_var 3)) da_nil)))) (db_of (de_neg (db_of de_int)))))
      (dss_one (ds_expr (de_append 4 (de_tup (da_cons (db_of (de_var 10)) (da_cons (db_of (de_op op_addU sr_add (db_var 10) (db_of de_int))) (da_cons (db_of (de_var 3)) da_nil))))))))))))
      (dss_one (ds_ret (de_move 4)))))), fun as Qd h => ?_⟩
  obtain ⟨c, B, w, rfl, ⟨hw, hn⟩, q⟩ := h
  have hn' : B.length ≤ 1000000 := hn
  walk_at "dl"
  refine ⟨hw, by decide, by decide, ?_⟩
  refine FR.all Bt.q4D (fun pre post ρ => ∃ s5 s6 s7 s8 s9 s10 s11, ρ = [.fz (.int c), .fz (.list (B.map Bt.q4D)), .fz (.int w), .fz (.int (Bt.spillsAll c pre w).1), .lst ((Bt.spillsAll c pre w).2.map Bt.t3D), s5, s6, s7, s8, s9, s10, s11]) ⟨_, _, _, _, _, _, _, rfl⟩ ?_ ?_
  · rintro pre x post _ e ⟨s5, s6, s7, s8, s9, s10, s11, rfl⟩
    have hpl : pre.length < B.length := by rw [e]; simp
    have hne := Bt.spills_ne (c := c) (w := w) (B := pre)
    have hlen := Bt.spills_len (c := c) (w := w) (B := pre)
    have hs := Bt.spills_snoc (c := c) (w := w) (B := pre) (q := x)
    obtain ⟨a, b, s, g⟩ := x
    unfold Bt.spStep at hs
    dsimp only at hs
    rw [hs]
    generalize (Bt.spillsAll c pre w).1 = rest at *
    generalize (Bt.spillsAll c pre w).2 = told at *
    walk_at "dl"
    rw [atK_lastM (0, 0, 0) hne]
    walk_at "dl"
    refine ⟨hw, hw, hw, ?_⟩
    split
    · rename_i h1
      refine ⟨by decide, ?_⟩
      have e4 : PyData.tuple [.int (told.getLastD (0, 0, 0)).1, .int ((told.getLastD (0, 0, 0)).2.1 + 1), .int (rest + rowsF s w + rowsF g w - 1 - rowsF (s + g) w)] = Bt.t3D ((told.getLastD (0, 0, 0)).1, (told.getLastD (0, 0, 0)).2.1 + 1, rest + rowsF s w + rowsF g w - 1 - rowsF (s + g) w) := rfl
      rw [e4, isK_lastM hne]
      (try walk_at "dl")
      exact Wk.mk ⟨_, _, _, _, _, _, _, rfl⟩
    · rename_i h1
      have e4 : told.map Bt.t3D ++ [PyData.tuple [.int (told.getLastD (0, 0, 0)).2.1, .int ((told.getLastD (0, 0, 0)).2.1 + 1), .int (rest + rowsF s w + rowsF g w - 1 - rowsF (s + g) w)]] = (told ++ [((told.getLastD (0, 0, 0)).2.1, (told.getLastD (0, 0, 0)).2.1 + 1, rest + rowsF s w + rowsF g w - 1 - rowsF (s + g) w)]).map Bt.t3D := by rw [List.map_append]; rfl
      rw [e4]
      exact ⟨by decide, by rw [sizeLine_eq]; omega, Wk.mk ⟨_, _, _, _, _, _, _, rfl⟩⟩
  · rintro _ ⟨s5, s6, s7, s8, s9, s10, s11, rfl⟩
    walk_at "dl"
    exact q
theorem okd_spill (T : Txt K mg) : Okd P w K mg base 2 "spill" 2 [] p_spill := by
  refine T.d_spill.okP sc_spill 1 rfl rfl fun f cdv A outer s H E hr => ⟨_, _,
    (dss_one (ds_ret (de_callB (cr_sum rfl) sc_sum (by rfl) T.sum (by decide +kernel) (da_cons (db_of (de_lc rfl sc_spill.nd (di_list (de_var 0)) (blkOk_by (own := [("many", 2)]) (N := N_spill) (sc := defScope s_spill) (by decide +kernel))
        (fun _ _ _ _ _ => (dg_name 2 sc_spill.nd)) (fun _ _ _ _ _ => dts_nil)
        (fun _ _ _ _ _ => (de_op op_sub sr_sub (db_of (de_fn [] (okd_rows_for T) (hr.mono (by decide)) (da_cons (db_of (de_var 2)) (da_cons (db_of (de_var 1)) da_nil)))) (db_of de_int))))) da_nil)))), fun as Qd h => ?_⟩
  obtain ⟨ns, w, rfl, hw, hn, q⟩ := h
  walk_at "dl"
  refine LC.ints (fun n => rowsF n w - 1) hn.sz (fun n _ Kt Kf hk => ?_) ?_
  · walk_at "dl"
    (try simp only [q_rows_for])
    walk_at "dl"
    exact ⟨hw, hk _ rfl⟩
  · walk_at "dl"
    exact q
theorem okd_longest (T : Txt K mg) : Okd P w K mg base 2 "longest" 2 [] p_longest := by
  refine T.d_longest.okP sc_longest 3 rfl rfl fun f cdv A outer s H E hr => ⟨_, _,
    (dss_cons (ds_setLc 2 rfl sc_longest.nd (sw_true rfl rfl rfl (by decide +kernel)) (di_list (de_var 0)) (blkOk_by (own := [("many", 4)]) (N := N_longest) (sc := defScope s_longest) (by decide +kernel))
        (fun _ _ _ _ _ => (dg_name 4 sc_longest.nd)) (fun _ _ _ _ _ => dts_nil)
        (fun _ _ _ _ _ => (de_fn [] (okd_rows_for T) (hr.mono (by decide)) (da_cons (db_of (de_var 4)) (da_cons (db_of (de_var 1)) da_nil)))))
      (dss_cons (ds_set 3 sc_longest.nd (de_callB (cr_maxU rfl) sc_max (by rfl) T.max (by decide +kernel) (da_cons (db_var 2) da_nil)))
      (dss_one (ds_ret (de_tup (da_cons (db_of (de_var 3)) (da_cons (db_of (de_index (db_var 2) (db_var 3))) da_nil))))))), fun as Qd h => ?_⟩
  obtain ⟨ns, w, rfl, hw, hn, h0, q⟩ := h
  walk_at "dl"
  refine LC.ints (fun n => rowsF n w) hn.sz (fun n _ Kt Kf hk => ?_) ?_
  · walk_at "dl"
    (try simp only [q_rows_for])
    walk_at "dl"
    exact ⟨hw, hk _ rfl⟩
  · walk_at "dl"
    refine ⟨by simpa [List.length_pos_iff] using h0, fun m hm hy => ?_⟩
    rw [idxK_ints hm]
    exact ⟨by decide, q m hm (fun n hn' => hy _ (List.mem_map.mpr ⟨n, hn', rfl⟩))⟩
theorem okd_law_some (T : Txt K mg) : Okd P w K mg base 2 "_law_some" 2 [0] (p_law_some) := by
  refine T.d_law_some.okL sc_law_some 0 rfl (by decide) rfl fun f cdv A outer s H E hr => ⟨_, _,
    (dss_one (ds_ret (de_ix (db_var 1) (db_of (de_fn [(0, 0)] (okd_law_take T) (hr.mono (by decide)) (da_cons (db_var 0) (da_cons (db_of (de_callB call_len sc_len (by rfl) T.len PySem.boot_len (da_cons (db_var 1) da_nil))) da_nil))))))), fun a as Qd h => ?_⟩
  obtain ⟨L, xs, e, hb, hx, q⟩ := h
  cases e
  walk_at "dl"
  (try simp only [q_law_take])
  walk_at "dl"
  exact ⟨hb, ⟨by omega, by omega⟩, fun v L' hL h0 h1 => atK_int h0 h1 fun x hx' => q x hx' L' hL⟩
theorem okd_law_mixed (T : Txt K mg) : Okd P w K mg base 2 "_law_mixed" 2 [0] (p_law_mixed) := by
  refine T.d_law_mixed.okL sc_law_mixed 2 rfl (by decide) rfl fun f cdv A outer s H E hr => ⟨_, _,
    (dss_cons (ds_par 2 3 rfl sc_law_mixed.nd
      (de_callTy call_list_of sc_list (by rfl) T.list (by decide +kernel) (da_cons (db_var 1) da_nil))
      (de_lst da_nil))
      (dss_cons (ds_while PassesOwn.never (dt_cmp (op_neU hr.units) sr_ne (db_var 2) (db_of (de_lst da_nil)) (nomark _))
      (dss_one (ds_expr (de_append 3 (de_popAt 2 (db_of (de_fn [(0, 0)] (okd_law_take T) (hr.mono (by decide)) (da_cons (db_var 0) (da_cons (db_of (de_callB call_len sc_len (by rfl) T.len PySem.boot_len (da_cons (db_var 2) da_nil))) da_nil)))))))))
      (dss_one (ds_ret (de_move 3))))), fun a as Qd h => ?_⟩
  obtain ⟨L, xs, e, hL, hn, hg, q⟩ := h
  cases e
  walk_at "dl"
  have hn' : xs.length ≤ 1000000 := hn
  refine ⟨by decide, ?_⟩
  refine ⟨fun m ρ => ∃ L' left got, BagL L' ∧ left.length = m ∧ (left ++ got).Perm xs ∧ ρ = [.lst L', .fz (.list xs), .lst left, .lst got], xs.length, ⟨L, xs, [], hL, rfl, by simp, rfl⟩, ?_⟩
  rintro m _ ⟨L', left, got, hL', rfl, hp, rfl⟩
  have hlen := hp.length_eq
  rw [List.length_append] at hlen
  walk_at "dl"
  refine ⟨by decide, ?_⟩
  rw [eqK_nilG fun x hx => hg x (hp.mem_iff.mp (by simp [hx]))]
  by_cases hl : left = []
  · subst hl
    rw [if_pos (by simp)]
    exact q got L' hL' (by simpa using hp)
  · have h0 : 0 < left.length := List.length_pos_iff.mpr hl
    rw [if_neg (by simp [hl])]
    refine ⟨hL', ⟨by omega, by omega⟩, fun v L2 hL2 v0 v1 => ⟨v0, by omega, ?_⟩⟩
    have hv : v.toNat < left.length := by omega
    rw [List.getElem?_eq_getElem hv]
    show _ < _ ∧ _
    refine ⟨by rw [sizeLine_eq]; omega, Wk.mk ⟨left.length - 1, by omega, L2, _, _, hL2, ?_, ?_, rfl⟩⟩
    · rw [List.length_eraseIdx]; simp [hv]
    · have e1 : (left[v.toNat] :: left.eraseIdx v.toNat).Perm left := Bt.erase_perm hv
      refine List.Perm.trans ?_ hp
      refine List.Perm.trans ?_ (e1.append_right got)
      rw [List.cons_append]
      have := List.perm_middle (a := left[v.toNat]) (l₁ := left.eraseIdx v.toNat ++ got) (l₂ := [])
      simpa [List.append_assoc] using this
theorem okd_law_alike (T : Txt K mg) : Okd P w K mg base 2 "_law_alike" 2 [] p_law_alike := by
  refine T.d_law_alike.okP sc_law_alike 5 rfl rfl fun f cdv A outer s H E hr => ⟨_, _,
    (dss_cons (ds_par 2 3 rfl sc_law_alike.nd
      (de_lst (da_cons (db_of (de_tup (da_cons (db_of (de_var 0)) (da_cons (db_of (de_var 1)) da_nil)))) da_nil))
      de_int)
      (dss_cons (ds_while PassesOwn.never (dt_cmp (op_lt) sr_lt (db_var 3) (db_of (de_callB call_len sc_len (by rfl) T.len PySem.boot_len (da_cons (db_var 2) da_nil))) (nomark _))
      (dss_cons (ds_asg (de_ix (db_var 2) (db_var 3)) (dg_tup rfl (dgs_cons (dg_name 4 sc_law_alike.nd) (dgs_cons (dg_name 5 sc_law_alike.nd) dgs_nil))))
      (dss_cons (ds_aug 3 sc_law_alike.nd ip_add (db_of de_int))
      (dss_cons (ds_if (dt_cmp (op_neU hr.units) sr_ne (db_of (de_fn [] (okd_law_kind T) (hr.mono (by decide)) (da_cons (db_of (de_var 4)) da_nil))) (db_of (de_fn [] (okd_law_kind T) (hr.mono (by decide)) (da_cons (db_of (de_var 5)) da_nil))) (nomark _))
      (dss_one (ds_ret de_bl))
      dss_nil)
      (dss_one (ds_if (dt_val (de_isi2 .tuple .list (by rfl) T.isinstance (db_var 4) (pe_bltn (by rfl) T.tuple (by decide +kernel) rfl) (pe_bltn (by rfl) T.list (by decide +kernel) rfl)))
      (dss_cons (ds_if (dt_cmp (op_neU hr.units) sr_ne (db_of (de_callB call_len sc_len (by rfl) T.len PySem.boot_len (da_cons (db_var 4) da_nil))) (db_of (de_callB call_len sc_len (by rfl) T.len PySem.boot_len (da_cons (db_var 5) da_nil))) (nomark _))
      (dss_one (ds_ret de_bl))
      dss_nil)
      (dss_one (ds_expr (de_extend 2 (db_of (de_listZip rfl (by rfl) T.list (by rfl) T.zip (da_cons (db_of (de_var 4)) (da_cons (db_of (de_var 5)) da_nil))))))))
      (dss_one (ds_if (dt_val (de_isi .dict (by rfl) T.isinstance (db_var 4) (pe_bltn (by rfl) T.dict (by decide +kernel) rfl)))
      dss_never
      (dss_one (ds_if (dt_cmp (op_neU hr.units) sr_ne (db_var 4) (db_var 5) (nomark _))
      (dss_one (ds_ret de_bl))
      dss_nil))))))))))
      (dss_one (ds_ret de_bl)))), fun as Qd h => ?_⟩
  obtain ⟨d, n, rfl, hd, hn, q⟩ := h
  walk_at "dl"
  refine ⟨by decide, by decide, ?_⟩
  refine ⟨fun m ρ => ∃ (pre rest : List D) (s4 s5 : Slot), ρ = [.fz d, .fz d, .lst (pre ++ rest.map twin), .fz (.int pre.length), s4, s5, .un] ∧ ALs m rest ∧ pre.length + m ≤ 1000000, n, ⟨[], [d], _, _, rfl, by simpa using ALs.cons hd .nil, by simpa using hn⟩, ?_⟩
  rintro m _ ⟨pre, rest, s4, s5, rfl, hr', hm⟩
  walk_at "dl"
  cases hr' with
  | nil =>
    simpa using q
  | cons h1 h2 =>
    rename_i n1 m1 x r
    rw [if_pos (by simp; omega)]
    simp only [List.map_cons, atK_twin]
    walk_at "dl"
    (try simp only [q_law_kind])
    walk_at "dl"
    have hl := h2.len
    cases h1
    all_goals simp only [isTy, Bool.or_false, Bool.false_or, Bool.false_eq_true, if_false, if_true, Bool.or_self]
    all_goals (try walk_at "dl")
    case list k ds hds =>
      rw [zipD_self]
      refine ⟨by simp; rw [sizeLine_eq]; have := hds.len; omega, Wk.mk ⟨m1 + k, by omega, pre ++ [twin (.list ds)], r ++ ds, _, _, env_s2, h2.app hds, by simp; omega⟩⟩
    case tuple k ds hds =>
      rw [zipD_self]
      refine ⟨by simp; rw [sizeLine_eq]; have := hds.len; omega, Wk.mk ⟨m1 + k, by omega, pre ++ [twin (.tuple ds)], r ++ ds, _, _, env_s2, h2.app hds, by simp; omega⟩⟩
    all_goals exact Wk.mk ⟨m1, by omega, pre ++ [twin _], r, _, _, env_s1, h2, by simp; omega⟩
theorem okd_law_by (T : Txt K mg) : Okd P w K mg base 2 "_law_by" 2 [] p_law_by := by
  refine T.d_law_by.okP sc_law_by 1 rfl rfl fun f cdv A outer s H E hr => ⟨_, _,
    (dss_cons (ds_set 2 sc_law_by.nd (de_fn [] (okd_law_power T) (hr.mono (by decide)) (da_cons (db_of (de_var 1)) da_nil)))
      (dss_one (ds_ret (de_if (dw_pt (dw_or (dt_cmp (op_lt) sr_lt (db_var 0) (db_of (de_op op_sub sr_sub (db_var 1) (db_var 2))) (nomark _)) (dw_or1 (dt_cmp (op_ge) sr_ge (db_var 0) (db_var 2) (nomark _))))) (de_op op_mulU sr_mul (db_of de_int) (db_var 2)) (de_var 2))))), fun as Qd h => ?_⟩
  obtain ⟨j, r, rfl, hr, q⟩ := h
  walk_at "dl"
  unfold Bt.by_ at q
  refine ⟨hr, ?_⟩
  split
  · rename_i h1
    rw [if_pos (.inl h1)] at q
    exact ⟨mulOk_l (by decide) (by decide), q⟩
  · rename_i h1
    split
    · rename_i h2
      rw [if_pos (.inr h2)] at q
      exact ⟨mulOk_l (by decide) (by decide), q⟩
    · rename_i h2
      rw [if_neg (by omega)] at q
      exact q
theorem okd_law_spill (T : Txt K mg) : Okd P w K mg base 2 "_law_spill" 2 [] p_law_spill := by
  refine T.d_law_spill.okP sc_law_spill 1 rfl rfl fun f cdv A outer s H E hr => ⟨_, _,
    (dss_one (ds_ret (de_callB (cr_sum rfl) sc_sum (by rfl) T.sum (by decide +kernel) (da_cons (db_of (de_lc rfl sc_law_spill.nd (di_list (de_var 0)) (blkOk_by (own := [("many", 2)]) (N := N_law_spill) (sc := defScope s_law_spill) (by decide +kernel))
        (fun _ _ _ _ _ => (dg_name 2 sc_law_spill.nd)) (fun _ _ _ _ _ => dts_nil)
        (fun _ _ _ _ _ => (de_fn [] (okd_law_more_rows T) (hr.mono (by decide)) (da_cons (db_of (de_var 2)) (da_cons (db_of (de_var 1)) da_nil)))))) da_nil)))), fun as Qd h => ?_⟩
  obtain ⟨ns, w, rfl, ⟨hw, hn⟩, q⟩ := h
  walk_at "dl"
  refine LC.ints (fun n => Bt.moreR n w) hn.sz (fun n _ Kt Kf hk => ?_) ?_
  · walk_at "dl"
    exact ⟨hw, hk _ rfl⟩
  · walk_at "dl"
    exact q
theorem okd_split_of (T : Txt K mg) : Okd P w K mg base 3 "split_of" 1 [] p_split_of := by
  refine T.d_split_of.okP sc_split_of 0 rfl rfl fun f cdv A outer s H E hr => ⟨_, _,
    (dss_one (ds_ret (de_tup (da_cons (db_of (de_fn [] (okd_turn T) (hr.mono (by decide)) (da_cons (db_of (de_var 0)) da_nil))) (da_cons (db_of (de_var 0)) da_nil))))), fun as Qd h => ?_⟩
  obtain ⟨r, rfl, hr, q⟩ := h
  walk_at "dl"
  exact ⟨hr, by decide, q⟩
theorem okd_least_rooms (T : Txt K mg) : Okd P w K mg base 3 "least_rooms" 4 [] p_least_rooms := by
  refine T.d_least_rooms.okP sc_least_rooms 3 rfl rfl fun f cdv A outer s H E hr => ⟨_, _,
    (dss_cons (ds_for PassesOwn.never rfl (di_list (de_fn [] (okd_spills_by T) (hr.mono (by decide)) (da_cons (db_of (de_var 0)) (da_cons (db_of (de_var 1)) (da_cons (db_of (de_var 2)) da_nil))))) (dg_tup rfl (dgs_cons (dg_name 4 sc_least_rooms.nd) (dgs_cons (dg_name 5 sc_least_rooms.nd) (dgs_cons (dg_name 6 sc_least_rooms.nd) dgs_nil))))
      (dss_one (ds_if (dt_cmp (op_le) sr_le (db_var 6) (db_var 3) (nomark _))
      (dss_one (ds_ret (de_move 4)))
      dss_nil)))
      (dss_one (ds_ret de_non))), fun as Qd h => ?_⟩
  obtain ⟨c, B, w, m, rfl, ⟨hw, hn⟩, q⟩ := h
  walk_at "dl"
  refine ⟨⟨hw, hn⟩, ?_⟩
  unfold Bt.leastR at q
  refine FR.all Bt.t3D (fun pre post ρ => ∃ s4 s5 s6, (Bt.spillsBy c B w).find? (fun t => decide (t.2.2 ≤ m)) = post.find? (fun t => decide (t.2.2 ≤ m)) ∧ ρ = [.fz (.int c), .fz (.list (B.map Bt.q4D)), .fz (.int w), .fz (.int m), s4, s5, s6]) ⟨_, _, _, rfl, rfl⟩ ?_ ?_
  · rintro pre x post _ e ⟨s4, s5, s6, hk, rfl⟩
    obtain ⟨f, b, t⟩ := x
    rw [hk] at q
    rw [List.find?_cons] at q hk
    dsimp only at q hk
    walk_at "dl"
    by_cases h1 : t ≤ m
    · rw [if_pos h1]
      rw [show decide (t ≤ m) = true from by simpa using h1] at q
      exact q
    · rw [if_neg h1]
      rw [show decide (t ≤ m) = false from by simpa using h1] at hk
      exact Wk.mk ⟨_, _, _, hk, rfl⟩
  · rintro _ ⟨s4, s5, s6, hk, rfl⟩
    rw [hk] at q
    walk_at "dl"
    exact q
theorem okd_spread (T : Txt K mg) : Okd P w K mg base 3 "spread" 2 [] p_spread := by
  refine T.d_spread.okP sc_spread 3 rfl rfl fun f cdv A outer s H E hr => ⟨_, _,
    (dss_cons (ds_setLcO 2 rfl sc_spread.nd (sw_true rfl rfl rfl (by decide +kernel)) (di_range1 (by rfl) T.range (da_cons (db_var 1) da_nil)) (blkOk_by (own := [("room", 4)]) (N := N_spread) (sc := defScope s_spread) (by decide +kernel))
        (fun _ _ _ _ _ => (dg_name 4 sc_spread.nd)) (fun _ _ _ _ _ => dts_nil)
        (fun _ _ _ _ _ => (de_lst da_nil)))
      (dss_cons (ds_for PassesOwn.never rfl (di_list (de_callB cr_sortU sc_sortU (by rfl) T.sorted (by decide +kernel) (da_cons (db_var 0) da_nil))) (dg_name 3 sc_spread.nd)
      (dss_one (ds_expr (de_appendP (db_ixP (db_var 2) (db_of (de_fn [] (okd_room_of T) (hr.mono (by decide)) (da_cons (db_of (de_var 3)) (da_cons (db_of (de_var 1)) da_nil))))) (de_var 3)))))
      (dss_one (ds_ret (de_var 2))))), fun as Qd h => ?_⟩
  obtain ⟨ks, r, rfl, ⟨hr, hr2, hn⟩, q⟩ := h
  have hn' : ks.length ≤ 1000000 := hn
  have hsl : (srt ks).length = ks.length := (srt_perm ks).length_eq
  walk_at "dl"
  refine ⟨⟨by omega, by omega⟩, ?_⟩
  refine LCO.all (xs := List.range r.toNat) (fun i => PyData.int (0 + (i : Nat))) (fun _ => lo []) (by rw [List.length_range, sizeLine_eq]; omega) (fun n _ Kt Kf hk => ?_) ?_
  · walk_at "dl"
    exact ⟨by decide, hk _ rfl⟩
  · walk_at "dl"
    have hm : ∀ pre : List Int, (Bt.rng r).map (fun j => (Bt.inRoom pre r j).map PyData.int) = (Bt.rng r).map (fun j => (Bt.inRoom pre r j).map PyData.int) := fun _ => rfl
    refine FR.all PyData.int (fun pre post ρ => ∃ s3, ρ = [.fz (.list (ks.map .int)), .fz (.int r), .ov (llO ((Bt.rng r).map fun j => (Bt.inRoom pre r j).map PyData.int)), s3, .un]) ⟨.un, ?_⟩ ?_ ?_
    · have e : (Bt.rng r).map (fun j => (Bt.inRoom [] r j).map PyData.int) = (List.range r.toNat).map fun _ => [] := by unfold Bt.rng; rw [List.map_map]; rfl
      rw [e]; unfold llO; rw [List.map_map]; rfl
    · rintro pre x post _ e ⟨s3, rfl⟩
      have hb := Bt.room_bd (k := x) hr
      have hpl : pre.length < ks.length := by rw [← hsl, e]; simp
      have hlen : ((Bt.rng r).map fun j => (Bt.inRoom pre r j).map PyData.int).length = r.toNat := by rw [List.length_map, Bt.rng_len]
      walk_at "dl"
      refine ⟨hr, ?_⟩
      have hl : (Bt.room x r).toNat < ((Bt.rng r).map fun j => (Bt.inRoom pre r j).map PyData.int).length := by rw [hlen]; omega
      refine kid_ll (by simp) hb.1 (by rw [hlen]; omega) fun p => ?_
      walk_at "dl"
      rw [at_ll hl]
      walk_at "dl"
      rw [at_ll hl]
      walk_at "dl"
      rw [put_llA hl, Bt.in_snoc hr]
      refine ⟨?_, Wk.mk ⟨_, rfl⟩⟩
      rw [Bt.rng_map_getD hb.1 hb.2, List.length_map, sizeLine_eq]
      have := Bt.in_len (ks := pre) (r := r) (j := Bt.room x r)
      omega
    · rintro _ ⟨s3, rfl⟩
      walk_at "dl"
      unfold Bt.lots at q
      rw [List.map_map] at q ⊢
      exact q
theorem okd_law_of (T : Txt K mg) : Okd P w K mg base 3 "_law_of" 3 [] p_law_of := by
  refine T.d_law_of.okP sc_law_of 2 rfl rfl fun f cdv A outer s H E hr => ⟨_, _,
    (dss_cons (ds_set 3 sc_law_of.nd (de_frz (de_fn [] (okd_law_by T) (hr.mono (by decide)) (da_cons (db_of (de_var 1)) (da_cons (db_of (de_var 2)) da_nil)))))
      (dss_one (ds_ret (de_lc rfl sc_law_of.nd (di_list (de_callB cr_sortU sc_sortU (by rfl) T.sorted (by decide +kernel) (da_cons (db_var 0) da_nil))) (blkOk_by (own := [("key", 4)]) (N := N_law_of) (sc := defScope s_law_of) (by decide +kernel))
        (fun _ _ _ _ _ => (dg_name 4 sc_law_of.nd)) (fun _ _ _ _ _ => dts_one (dt_cmp ((opR_as (r' := rEqU K) (op_eqU hr.units))) sr_eq (db_of (de_op op_mod sr_mod (db_of (de_callTy call_int1 sc_int (by rfl) T.int (by decide +kernel) (da_cons (db_var 4) da_nil))) (db_var 3))) (db_var 1) (nomark _)))
        (fun _ _ _ _ _ => (de_var 4)))))), fun as Qd h => ?_⟩
  obtain ⟨ks, j, r, rfl, ⟨hr, hj, hn⟩, q⟩ := h
  have hw := Bt.whole_ok hr.1
  have hb : 0 < Bt.by_ j r := by unfold Bt.by_; split <;> omega
  walk_at "dl"
  refine ⟨hr, ?_⟩
  refine LC.filt (ns := srt ks) (fun k => decide (Bt.room k r = j)) (fun k => k) (by have := hn.sz; rw [(srt_perm ks).length_eq]; exact this) (fun n _ Kt Kf ht hf => ?_) ?_
  · walk_at "dl"
    refine ⟨hb, ?_⟩
    have e := Bt.by_room (k := n) hr.1 hj.1 hj.2
    split
    · rename_i h1
      exact ht (by simpa using e.mp h1) _ rfl
    · rename_i h1
      exact hf (by simpa using fun z => h1 (e.mpr z)) _ rfl
  · walk_at "dl"
    unfold Bt.inRoom at q
    rw [List.map_id']
    exact q
theorem okd_law_drawn_keys (T : Txt K mg) : Okd P w K mg base 3 "_law_drawn_keys" 2 [0] (p_law_drawn_keys) := by
  refine T.d_law_drawn_keys.okL sc_law_drawn_keys 7 rfl (by decide) rfl fun f cdv A outer s H E hr => ⟨_, _,
    (dss_cons (ds_par3 2 3 4 rfl sc_law_drawn_keys.nd
      (de_fn [(0, 0)] (okd_law_take T) (hr.mono (by decide)) (da_cons (db_var 0) (da_cons (db_of de_int) da_nil)))
      (de_fn [(0, 0)] (okd_law_some T) (hr.mono (by decide)) (da_cons (db_var 0) (da_cons (db_of (de_lst (da_cons (db_of (de_fn [(0, 0)] (okd_law_take T) (hr.mono (by decide)) (da_cons (db_var 0) (da_cons (db_of de_int) da_nil)))) (da_cons (db_of (de_fn [(0, 0)] (okd_law_take T) (hr.mono (by decide)) (da_cons (db_var 0) (da_cons (db_of (de_op op_addU sr_add (db_var 1) (db_of de_int))) da_nil)))) da_nil)))) da_nil)))
      de_dnew)
      (dss_cons (ds_par 5 6 rfl sc_law_drawn_keys.nd
      (de_fn [(0, 0)] (okd_law_take T) (hr.mono (by decide)) (da_cons (db_var 0) (da_cons (db_of de_int) da_nil)))
      (de_op op_addU sr_add (db_of (de_op op_mulU sr_mul (db_of de_int) (db_of (de_fn [(0, 0)] (okd_law_take T) (hr.mono (by decide)) (da_cons (db_var 0) (da_cons (db_of de_int) da_nil)))))) (db_of de_int)))
      (dss_cons (ds_for PassesOwn.never rfl (di_range1 (by rfl) T.range (da_cons (db_var 3) da_nil)) (dg_name 7 sc_law_drawn_keys.nd)
      (dss_cons (ds_set 8 sc_law_drawn_keys.nd (de_ix (db_of (de_lst (da_cons (db_of (de_op op_mulU sr_mul (db_var 7) (db_var 6))) (da_cons (db_of (de_fn [(0, 0)] (okd_law_take T) (hr.mono (by decide)) (da_cons (db_var 0) (da_cons (db_of de_int) da_nil)))) (da_cons (db_of (de_fn [(0, 0)] (okd_law_take T) (hr.mono (by decide)) (da_cons (db_var 0) (da_cons (db_of (de_op op_pow sr_pow (db_of de_int) (db_of de_int))) da_nil)))) (da_cons (db_of (de_op op_addU sr_add (db_of (de_op op_mulU sr_mul (db_of de_int) (db_var 7))) (db_var 5))) (da_cons (db_of (de_op op_sub sr_sub (db_of (de_op op_sub sr_sub (db_of (de_op op_pow sr_pow (db_of de_int) (db_of de_int))) (db_of de_int))) (db_of (de_fn [(0, 0)] (okd_law_take T) (hr.mono (by decide)) (da_cons (db_var 0) (da_cons (db_of de_int) da_nil)))))) da_nil))))))) (db_var 2)))
      (dss_one (ds_dput (hu_of hr) de_bl (db_var 4) (db_var 8)))))
      (dss_one (ds_ret (de_callK (cr_sortD rfl) sk_sort (by rfl) T.sorted (by decide +kernel) (db_var 4))))))), fun a as Qd h => ?_⟩
  obtain ⟨L, m, e, hL, ⟨hm, hm2⟩, q⟩ := h
  cases e
  walk_at "dl"
  refine ⟨hL, ⟨by decide, by decide⟩, ?_⟩
  rintro wy L1 hL1 hw0 hw1
  refine ⟨hL1, ⟨by decide, by decide⟩, ?_⟩
  rintro n12 L2 hL2 ha0 ha1
  refine ⟨hL2, ⟨by omega, by omega⟩, ?_⟩
  rintro nm L3 hL3 hb0 hb1
  refine ⟨by decide, hL3, ⟨by decide, by decide⟩, ?_⟩
  rintro y hy L4 hL4
  obtain ⟨n, rfl, hn⟩ : ∃ b : Int, y = .int b ∧ (0 ≤ b ∧ b ≤ m) := by
    simp only [List.mem_cons, List.not_mem_nil, or_false] at hy
    rcases hy with rfl | rfl
    · exact ⟨_, rfl, by omega⟩
    · exact ⟨_, rfl, by omega⟩
  clear hy
  walk_at "dl"
  refine ⟨hL4, ⟨by decide, by decide⟩, ?_⟩
  rintro en L5 hL5 hc0 hc1
  refine ⟨hL5, ⟨by decide, by decide⟩, ?_⟩
  rintro st L6 hL6 hd0 hd1
  refine ⟨mulOk_l (by decide) (by decide), ⟨by omega, by omega⟩, ?_⟩
  refine FR.range0 (fun i ρ => ∃ (L' : List D) (ks : List Int) (s7 s8 : DL.Slot), BagL L' ∧ ks.Nodup ∧ ks.length ≤ i ∧ (∀ k ∈ ks, 0 ≤ k ∧ k < 2 ^ 60) ∧ ρ = [.lst L', .fz (.int m), .fz (.int wy), .fz (.int n), .ov (.dct none (sdct ks (.bool true))), .fz (.int en), .fz (.int (2 * st + 1)), s7, s8]) ⟨L6, [], _, _, hL6, .nil, Nat.le_refl _, by simp, rfl⟩ ?_ ?_
  · rintro i _ hi ⟨L7, ks, s7, s8, hL7, hnd, hkl, hkb, rfl⟩
    walk_at "dl"
    refine ⟨mulOk_r (by omega) (by omega), hL7, ⟨by decide, by decide⟩, ?_⟩
    rintro v1 M1 hM1 hv1 hv1'
    refine ⟨⟨by decide, by decide, by decide⟩, hM1, ⟨by decide, by decide⟩, ?_⟩
    rintro v2 M2 hM2 hv2 hv2'
    refine ⟨mulOk_l (by decide) (by decide), ⟨by decide, by decide, by decide⟩, hM2, ⟨by decide, by decide⟩, ?_⟩
    rintro v3 M3 hM3 hv3 hv3'
    have hmul : 0 ≤ (i : Int) * (2 * st + 1) ∧ (i : Int) * (2 * st + 1) ≤ 1000 * 79 := by
      refine ⟨Int.mul_nonneg (by omega) (by omega), Int.mul_le_mul (by omega) (by omega) (by omega) (by omega)⟩
    refine ⟨by decide, ?_⟩
    refine (atK_map (xs := [(i : Int) * (2 * st + 1), v1, v2, 64 * (i : Int) + en, 2 ^ Int.toNat 60 - 1 - v3]) (f := PyData.int) (d := (0 : Int)) hw0 (by simp; omega)).mpr ?_
    have h60 : (2 : Int) ^ Int.toNat 60 = 1152921504606846976 := rfl
    have hk : 0 ≤ ([(i : Int) * (2 * st + 1), v1, v2, 64 * (i : Int) + en, 2 ^ Int.toNat 60 - 1 - v3] : List Int).getD wy.toNat 0 ∧ ([(i : Int) * (2 * st + 1), v1, v2, 64 * (i : Int) + en, 2 ^ Int.toNat 60 - 1 - v3] : List Int).getD wy.toNat 0 < 2 ^ 60 := by
      rw [h60] at hv2' ⊢
      have : wy = 0 ∨ wy = 1 ∨ wy = 2 ∨ wy = 3 ∨ wy = 4 := by omega
      rcases this with rfl | rfl | rfl | rfl | rfl <;> simp <;> omega
    generalize ([(i : Int) * (2 * st + 1), v1, v2, 64 * (i : Int) + en, 2 ^ Int.toNat 60 - 1 - v3] : List Int).getD wy.toNat 0 = k at *
    walk_at "dl"
    rw [sdct_len]
    refine ⟨by rw [sizeLine_eq]; omega, Wk.mk ?_⟩
    split
    · exact ⟨_, _, _, _, hM3, hnd, by omega, hkb, rfl⟩
    · rename_i hin
      refine ⟨_, _, _, _, hM3, ?_, by simp; omega, ?_, rfl⟩
      · rw [List.nodup_append]
        exact ⟨hnd, by simp, fun a ha b hb => by rw [List.mem_singleton.mp hb]; intro z; exact hin (z ▸ ha)⟩
      · intro k' hk'
        rcases List.mem_append.mp hk' with h1 | h1
        · exact hkb k' h1
        · rw [List.mem_singleton.mp h1]; exact hk
  · rintro _ ⟨L7, ks, s7, s8, hL7, hnd, hkl, hkb, rfl⟩
    walk_at "dl"
    have hp := srt_perm ks
    exact q _ _ hL7 ⟨Bt.srt_lt hnd, fun k hk => hkb k (hp.mem_iff.mp hk), by rw [hp.length_eq]; omega⟩
theorem okd_book_of (T : Txt K mg) : Okd P w K mg base 4 "book_of" 2 [] p_book_of := by
  refine T.d_book_of.okP sc_book_of 8 rfl rfl fun f cdv A outer s H E hr => ⟨_, _,
    (dss_cons (ds_set 2 sc_book_of.nd (de_lst (da_cons (db_of (de_callTy call_list_of sc_list (by rfl) T.list (by decide +kernel) (da_cons (db_var 0) da_nil))) da_nil)))
      (dss_cons (ds_set 3 sc_book_of.nd (de_lst da_nil))
      (dss_cons (ds_for PassesOwn.never rfl (di_range2 (by rfl) T.range (da_cons (db_of de_int) (da_cons (db_var 1) da_nil))) (dg_name 4 sc_book_of.nd)
      (dss_cons (ds_asg (de_fn [] (okd_split_of T) (hr.mono (by decide)) (da_cons (db_of (de_var 4)) da_nil)) (dg_tup rfl (dgs_cons (dg_name 5 sc_book_of.nd) (dgs_cons (dg_name 6 sc_book_of.nd) dgs_nil))))
      (dss_cons (ds_set 7 sc_book_of.nd (de_frz (de_op op_sub sr_sub (db_var 6) (db_var 5))))
      (dss_cons (ds_setLc 8 rfl sc_book_of.nd (sw_true rfl rfl rfl (by decide +kernel)) (di_list (de_ix (db_var 2) (db_var 5))) (blkOk_by (own := [("key", 9)]) (N := N_book_of) (sc := defScope s_book_of) (by decide +kernel))
        (fun _ _ _ _ _ => (dg_name 9 sc_book_of.nd)) (fun _ _ _ _ _ => dts_one (dt_cmp ((opR_as (r' := rEqU K) (op_eqU hr.units))) sr_eq (db_of (de_op op_mod sr_mod (db_of (de_op op_fdivW sr_div (db_var 9) (db_var 7))) (db_of de_int))) (db_of de_int) (nomark _)))
        (fun _ _ _ _ _ => (de_var 9)))
      (dss_cons (ds_setI 2 (de_lc rfl sc_book_of.nd (di_list (de_ix (db_var 2) (db_var 5))) (blkOk_by (own := [("key", 9)]) (N := N_book_of) (sc := defScope s_book_of) (by decide +kernel))
        (fun _ _ _ _ _ => (dg_name 9 sc_book_of.nd)) (fun _ _ _ _ _ => dts_one (dt_cmp ((opR_as (r' := rEqU K) (op_eqU hr.units))) sr_eq (db_of (de_op op_mod sr_mod (db_of (de_op op_fdivW sr_div (db_var 9) (db_var 7))) (db_of de_int))) (db_of de_int) (nomark _)))
        (fun _ _ _ _ _ => (de_var 9))) (db_var 5))
      (dss_cons (ds_expr (de_append 2 (de_var 8)))
      (dss_one (ds_expr (de_append 3 (de_tup (da_cons (db_of (de_var 5)) (da_cons (db_of (de_var 6)) (da_cons (db_of (de_callB call_len sc_len (by rfl) T.len PySem.boot_len (da_cons (db_of (de_ix (db_var 2) (db_var 5))) da_nil))) (da_cons (db_of (de_callB call_len sc_len (by rfl) T.len PySem.boot_len (da_cons (db_var 8) da_nil))) da_nil))))))))))))))
      (dss_one (ds_ret (de_move 3)))))), fun as Qd h => ?_⟩
  obtain ⟨ks, r, rfl, ⟨hr, hr2, hn⟩, q⟩ := h
  have hn' : ks.length ≤ 1000000 := hn
  walk_at "dl"
  refine ⟨by decide, by decide, ⟨⟨by decide, by decide⟩, ⟨by omega, by omega⟩⟩, ?_⟩
  refine FR.range (fun i ρ => ∃ s4 s5 s6 s7 s8, ρ = [.fz (.list (ks.map .int)), .fz (.int r), .lst ((((Bt.rng ((i : Int) + 1)).map fun j => Bt.inRoom ks ((i : Int) + 1) j)).map Bt.llD), .lst ((Bt.book ks ((i : Int) + 1)).map Bt.q4D), s4, s5, s6, s7, s8, .un]) ⟨.un, .un, .un, .un, .un, ?_⟩ ?_ ?_
  · have e : Bt.inRoom ks 1 0 = ks := by
      unfold Bt.inRoom
      rw [List.filter_eq_self]
      intro a _; simp [Bt.room_1]
    have e2 : (Bt.rng (((0 : Nat) : Int) + 1)).map (fun j => Bt.inRoom ks (((0 : Nat) : Int) + 1) j) = [ks] := by
      show [Bt.inRoom ks 1 0] = _; rw [e]
    rw [e2]; rfl
  · rintro i _ hi ⟨s4, s5, s6, s7, s8, rfl⟩
    obtain ⟨R, hR⟩ : ∃ R : Int, R = 1 + i := ⟨_, rfl⟩
    have hw := Bt.whole_ok (r := R) (by omega)
    have e1 : (i : Int) + 1 = R := by omega
    have e2 : ((i + 1 : Nat) : Int) + 1 = R + 1 := by omega
    simp only [e1, e2, ← hR]
    walk_at "dl"
    have hlen : ((Bt.rng R).map fun j => Bt.inRoom ks R j).length = R.toNat := by rw [List.length_map, Bt.rng_len]
    have e3 : R - (R - Bt.whole R) = Bt.whole R := by omega
    refine ⟨by omega, ?_⟩
    rw [atK_map [] (by omega) (by omega), Bt.rng_map_getD (by omega) (by omega), e3]
    walk_at "dl"
    have hin : (Bt.inRoom ks R (R - Bt.whole R)).length ≤ sizeLine := by
      have := Bt.in_len (ks := ks) (r := R) (j := R - Bt.whole R); rw [sizeLine_eq]; omega
    have hd : divOk (Bt.whole R) := ⟨by omega, by omega⟩
    refine LC.filt (fun k => decide (k / Bt.whole R % 2 = 1)) (fun k => k) hin (fun n _ Kt Kf ht hf => ?_) ?_
    · walk_at "dl"
      refine ⟨hd, by decide, ?_⟩
      split
      · rename_i h1
        exact ht (by simpa using h1) _ rfl
      · rename_i h1
        exact hf (by simpa using h1) _ rfl
    walk_at "dl"
    rw [atK_map [] (by omega) (by omega), Bt.rng_map_getD (by omega) (by omega)]
    walk_at "dl"
    refine LC.filt (fun k => decide (k / Bt.whole R % 2 = 0)) (fun k => k) hin (fun n _ Kt Kf ht hf => ?_) ?_
    · walk_at "dl"
      refine ⟨hd, by decide, ?_⟩
      split
      · rename_i h1
        exact ht (by simpa using h1) _ rfl
      · rename_i h1
        exact hf (by simpa using h1) _ rfl
    walk_at "dl"
    rw [Bt.in_stay (by omega), Bt.in_go (by omega), List.map_id', List.map_id']
    have e4 : PyData.list ((Bt.inRoom ks (R + 1) (R - Bt.whole R)).map .int) = Bt.llD (Bt.inRoom ks (R + 1) (R - Bt.whole R)) := rfl
    rw [e4, isK_map (by omega) (by omega)]
    walk_at "dl"
    have e5 : List.map Bt.llD (((Bt.rng R).map fun j => Bt.inRoom ks R j).set (R - Bt.whole R).toNat (Bt.inRoom ks (R + 1) (R - Bt.whole R))) ++ [PyData.list ((Bt.inRoom ks (R + 1) R).map .int)] = ((Bt.rng (R + 1)).map fun j => Bt.inRoom ks (R + 1) j).map Bt.llD := by
      rw [← Bt.in_book (by omega), List.map_append]; rfl
    rw [e5, atK_map [] (by omega) (by rw [List.length_map, Bt.rng_len]; omega), Bt.rng_map_getD (by omega) (by omega)]
    walk_at "dl"
    have e6 : (Bt.book ks R).map Bt.q4D ++ [.tuple [.int (R - Bt.whole R), .int R, .int ((Bt.inRoom ks (R + 1) (R - Bt.whole R)).length : Int), .int ((Bt.inRoom ks (R + 1) R).length : Int)]] = (Bt.book ks (R + 1)).map Bt.q4D := by
      rw [Bt.book_succ (by omega), List.map_append]; rfl
    rw [e6]
    exact ⟨by rw [List.length_set, hlen, sizeLine_eq]; omega, by decide, by rw [Bt.book_len, sizeLine_eq]; omega, Wk.mk ⟨_, _, _, _, _, rfl⟩⟩
  · rintro _ ⟨s4, s5, s6, s7, s8, rfl⟩
    walk_at "dl"
    have e : ((r - 1).toNat : Int) + 1 = r := by omega
    rw [e]
    exact q
theorem okd_is_book (T : Txt K mg) : Okd P w K mg base 4 "is_book" 2 [] p_is_book := by
  refine T.d_is_book.okP sc_is_book 6 rfl rfl fun f cdv A outer s H E hr => ⟨_, _,
    (dss_cons (ds_if (dw_pt (dw_or (dt_not (dt_val (de_isi .list (by rfl) T.isinstance (db_var 1) (pe_bltn (by rfl) T.list (by decide +kernel) rfl)))) (dw_or1 (dt_cmp (op_gt) sr_gt (db_of (de_callB call_len sc_len (by rfl) T.len PySem.boot_len (da_cons (db_var 1) da_nil))) (db_of (de_cst (v := (.int 129)) (d := (.int 129)) (pe_glob rfl T.c_MOST_SPLITS.choose_spec ⟨_, rfl⟩) (fun _ => .int _))) (nomark _)))))
      (dss_one (ds_ret de_bl))
      dss_nil)
      (dss_cons (ds_set 2 sc_is_book.nd (de_lst (da_cons (db_of (de_var 0)) da_nil)))
      (dss_cons (ds_for PassesOwn.never rfl (di_list (de_var 1)) (dg_name 3 sc_is_book.nd)
      (dss_cons (ds_if (dt_not (dt_val (de_fn [] (okd_is_split T) (hr.mono (by decide)) (da_cons (db_of (de_var 3)) da_nil))))
      (dss_one (ds_ret de_bl))
      dss_nil)
      (dss_cons (ds_asg (de_var 3) (dg_tup rfl (dgs_cons (dg_name 4 sc_is_book.nd) (dgs_cons (dg_name 5 sc_is_book.nd) (dgs_cons (dg_name 6 sc_is_book.nd) (dgs_cons (dg_name 7 sc_is_book.nd) dgs_nil))))))
      (dss_cons (ds_if (dw_pt (dw_or (dt_cmp (op_neU hr.units) sr_ne (db_of (de_tup (da_cons (db_of (de_var 4)) (da_cons (db_of (de_var 5)) da_nil)))) (db_of (de_fn [] (okd_split_of T) (hr.mono (by decide)) (da_cons (db_of (de_callB call_len sc_len (by rfl) T.len PySem.boot_len (da_cons (db_var 2) da_nil))) da_nil))) (nomark _)) (dw_or (dt_cmp (op_lt) sr_lt (db_var 6) (db_of de_int) (nomark _)) (dw_or (dt_cmp (op_lt) sr_lt (db_var 7) (db_of de_int) (nomark _)) (dw_or1 (dt_cmp (op_neU hr.units) sr_ne (db_of (de_op op_addU sr_add (db_var 6) (db_var 7))) (db_of (de_ix (db_var 2) (db_var 4))) (nomark _)))))))
      (dss_one (ds_ret de_bl))
      dss_nil)
      (dss_cons (ds_setI 2 (de_var 6) (db_var 4))
      (dss_one (ds_expr (de_append 2 (de_var 7)))))))))
      (dss_one (ds_ret de_bl))))), fun as Qd h => ?_⟩
  obtain ⟨c, B, rfl, hn, q⟩ := h
  have hn' : B.length ≤ 1000000 := hn
  unfold Bt.isBook at q
  walk_at "dl"
  rw [if_pos (by simp [isTy])]
  by_cases hl : 129 < (B.length : Int)
  · rw [if_pos hl]
    rw [show decide (B.length ≤ 129) = false from by simp; omega] at q
    exact q
  · rw [if_neg hl]
    rw [show decide (B.length ≤ 129) = true from by simp; omega, Bool.true_and] at q
    refine ⟨by decide, ?_⟩
    refine FR.all Bt.q4D (fun pre post ρ => ∃ s3 s4 s5 s6 s7, Bt.bookOk [c] B = Bt.bookOk (Bt.sizes c pre) post ∧ ρ = [.fz (.int c), .fz (.list (B.map Bt.q4D)), .lst ((Bt.sizes c pre).map .int), s3, s4, s5, s6, s7]) ⟨_, _, _, _, _, rfl, rfl⟩ ?_ ?_
    · rintro pre x post _ e ⟨s3, s4, s5, s6, s7, hk, rfl⟩
      obtain ⟨a, b, s, g⟩ := x
      have hsl := Bt.sizes_len (c := c) (B := pre)
      have hpl : pre.length < B.length := by rw [e]; simp
      have hw := Bt.whole_ok (r := ((Bt.sizes c pre).length : Int)) (by omega)
      rw [hk] at q
      rw [Bt.bookOk_cons] at q hk
      dsimp only at q hk
      walk_at "dl"
      refine ⟨by decide, by omega, ?_⟩
      rw [eqK_t2]
      walk_at "dl"
      by_cases h1 : a = (Bt.sizes c pre).length - Bt.whole (Bt.sizes c pre).length ∧ b = (Bt.sizes c pre).length
      · rw [if_pos h1]
        simp only [h1, decide_true, Bool.true_and, and_self] at q hk
        by_cases h2 : s < 0
        · rw [if_pos h2]
          rw [show decide (0 ≤ s) = false from by simp; omega] at q
          exact q
        · rw [if_neg h2]
          rw [show decide (0 ≤ s) = true from by simp; omega] at q hk
          by_cases h3 : g < 0
          · rw [if_pos h3]
            rw [show decide (0 ≤ g) = false from by simp; omega] at q
            exact q
          · rw [if_neg h3]
            rw [show decide (0 ≤ g) = true from by simp; omega] at q hk
            simp only [Bool.true_and, h1.1] at q hk
            rw [h1.1, atK_ints (by omega) (by omega)]
            walk_at "dl"
            by_cases h4 : s + g = (Bt.sizes c pre).getD (((Bt.sizes c pre).length : Int) - Bt.whole (Bt.sizes c pre).length).toNat 0
            · rw [if_pos h4]
              rw [show decide (s + g = (Bt.sizes c pre).getD (((Bt.sizes c pre).length : Int) - Bt.whole (Bt.sizes c pre).length).toNat 0) = true from by simpa using h4, Bool.true_and] at q hk
              rw [isK_ints (by omega) (by omega)]
              refine ⟨by rw [List.length_map, List.length_set, sizeLine_eq]; omega, ?_⟩
              have e5 : ((Bt.sizes c pre).set (((Bt.sizes c pre).length : Int) - Bt.whole (Bt.sizes c pre).length).toNat s).map PyData.int ++ [.int g] = (Bt.sizes c (pre ++ [(((Bt.sizes c pre).length : Int) - Bt.whole (Bt.sizes c pre).length, b, s, g)])).map .int := by
                rw [Bt.sizes_snoc]; unfold Bt.szStep; simp
              rw [e5]
              refine Wk.mk ⟨_, _, _, _, _, ?_, rfl⟩
              rw [hk, Bt.sizes_snoc]; rfl
            · rw [if_neg h4]
              rw [show decide (s + g = (Bt.sizes c pre).getD (((Bt.sizes c pre).length : Int) - Bt.whole (Bt.sizes c pre).length).toNat 0) = false from by simpa using h4, Bool.false_and] at q
              exact q
      · rw [if_neg h1]
        rw [show decide (a = ((Bt.sizes c pre).length : Int) - Bt.whole (Bt.sizes c pre).length ∧ b = (Bt.sizes c pre).length) = false from by simpa using h1] at q
        exact q
    · rintro _ ⟨s3, s4, s5, s6, s7, hk, rfl⟩
      rw [hk] at q
      walk_at "dl"
      exact q
theorem okd_counts (T : Txt K mg) : Okd P w K mg base 4 "counts" 2 [] p_counts := by
  refine T.d_counts.okP sc_counts 1 rfl rfl fun f cdv A outer s H E hr => ⟨_, _,
    (dss_one (ds_ret (de_lc rfl sc_counts.nd (di_list (de_fn [] (okd_spread T) (hr.mono (by decide)) (da_cons (db_of (de_var 0)) (da_cons (db_of (de_var 1)) da_nil)))) (blkOk_by (own := [("row", 2)]) (N := N_counts) (sc := defScope s_counts) (by decide +kernel))
        (fun _ _ _ _ _ => (dg_name 2 sc_counts.nd)) (fun _ _ _ _ _ => dts_nil)
        (fun _ _ _ _ _ => (de_callB (callR_as (r' := fun xs H Q => ∃ x n, xs = [x] ∧ LenV K x H n ∧ Q (.int n) H) call_len) sc_len (by rfl) T.len PySem.boot_len (da_cons (db_var 2) da_nil)))))), fun as Qd h => ?_⟩
  obtain ⟨ks, r, rfl, ⟨hr, hr2, hn⟩, q⟩ := h
  have hn' : ks.length ≤ 1000000 := hn
  walk_at "dl"
  refine ⟨⟨hr, hr2, hn⟩, ?_⟩
  refine LC.all Bt.llD (fun l => .int l.length) (by unfold Bt.lots; rw [List.length_map, Bt.rng_len, sizeLine_eq]; omega) (fun l _ Kt Kf hk => ?_) ?_
  · walk_at "dl"
    exact hk _ rfl
  · walk_at "dl"
    have e : (Bt.lots ks r).map (fun l => PyData.int l.length) = (Bt.cnts ks r).map .int := by
      unfold Bt.lots Bt.cnts
      rw [List.map_map, List.map_map]
      refine List.map_congr_left fun j _ => ?_
      show PyData.int _ = PyData.int _
      unfold Bt.cnt Bt.inRoom
      rw [((srt_perm ks).filter _).length_eq]
    rw [e]
    exact q
theorem okd_all_looks (T : Txt K mg) : Okd P w K mg base 4 "all_looks" 3 [] p_all_looks := by
  refine T.d_all_looks.okP sc_all_looks 4 rfl rfl fun f cdv A outer s H E hr => ⟨_, _,
    (dss_cons (ds_set 3 sc_all_looks.nd (de_lst da_nil))
      (dss_cons (ds_for PassesOwn.never rfl (di_list (de_fn [] (okd_spread T) (hr.mono (by decide)) (da_cons (db_of (de_var 0)) (da_cons (db_of (de_var 1)) da_nil)))) (dg_name 4 sc_all_looks.nd)
      (dss_cons (ds_set 5 sc_all_looks.nd (de_frz (de_fn [] (okd_rows_of T) (hr.mono (by decide)) (da_cons (db_of (de_var 4)) (da_cons (db_of (de_var 2)) da_nil)))))
      (dss_one (ds_expr (de_extend 3 (db_of (de_lc rfl sc_all_looks.nd (di_list (de_var 4)) (blkOk_by (own := [("key", 6)]) (N := N_all_looks) (sc := defScope s_all_looks) (by decide +kernel))
        (fun _ _ _ _ _ => (dg_name 6 sc_all_looks.nd)) (fun _ _ _ _ _ => dts_nil)
        (fun _ _ _ _ _ => (de_tup (da_cons (db_of (de_var 6)) (da_cons (db_of (de_ixK (K := K) rfl (db_of (de_fn [] (okd_looked T) (hr.mono (by decide)) (da_cons (db_of (de_var 5)) (da_cons (db_of (de_var 6)) da_nil)))) (db_of de_int))) da_nil)))))))))))
      (dss_one (ds_ret (de_callB cr_sortU sc_sortU (by rfl) T.sorted (by decide +kernel) (da_cons (db_var 3) da_nil)))))), fun as Qd h => ?_⟩
  obtain ⟨ks, r, w, rfl, ⟨hr, hr2, hn, hw⟩, q⟩ := h
  have hn' : ks.length ≤ 1000000 := hn
  walk_at "dl"
  refine ⟨by decide, ⟨hr, hr2, hn⟩, ?_⟩
  have hfl := (Bt.lots_flat (ks := ks) hr).length_eq
  refine FR.all Bt.llD (fun pre post ρ => ∃ s4 s5, ρ = [.fz (.list (ks.map .int)), .fz (.int r), .fz (.int w), .lst ((pre.flatMap fun h => h.map fun k => (k, (Bt.look (Bt.rowsOf h w) k 0).2)).map pD), s4, s5, .un]) ⟨_, _, rfl⟩ ?_ ?_
  · rintro pre x post _ e ⟨s4, s5, rfl⟩
    have hx : x.length ≤ ks.length := Bt.lots_mem (r := r) (by rw [e]; simp)
    have hrw := Bt.rowsOf_ln hw (show x.length ≤ 1000000 by omega)
    walk_at "dl"
    refine ⟨⟨hw, show x.length ≤ 1000000 by omega⟩, ?_⟩
    refine LC.all PyData.int (fun k => pD (k, (Bt.look (Bt.rowsOf x w) k 0).2)) (by rw [sizeLine_eq]; omega) (fun k _ Kt Kf hk => ?_) ?_
    · walk_at "dl"
      exact ⟨hrw, by decide, hk _ rfl⟩
    · walk_at "dl"
      have e5 : (pre.flatMap fun h => h.map fun k => (k, (Bt.look (Bt.rowsOf h w) k 0).2)).map pD ++ x.map (fun k => PyData.tuple [.int k, .int (Bt.look (Bt.rowsOf x w) k 0).2]) = ((pre ++ [x]).flatMap fun h => h.map fun k => (k, (Bt.look (Bt.rowsOf h w) k 0).2)).map pD := by
        rw [List.flatMap_append, List.map_append]; simp [Function.comp_def, pD]
      rw [e5]
      refine ⟨?_, Wk.mk ⟨_, _, rfl⟩⟩
      have h1 : (pre.flatMap fun h => h.map fun k => (k, (Bt.look (Bt.rowsOf h w) k 0).2)).length = pre.flatten.length := by
        rw [List.length_flatMap, List.length_flatten]; simp
      rw [e, List.flatten_append, List.length_append, List.flatten_cons, List.length_append] at hfl
      rw [h1, sizeLine_eq]; omega
  · rintro _ ⟨s4, s5, rfl⟩
    walk_at "dl"
    exact q
theorem okd_law_looks_of (T : Txt K mg) : Okd P w K mg base 4 "_law_looks_of" 3 [] p_law_looks_of := by
  refine T.d_law_looks_of.okP sc_law_looks_of 3 rfl rfl fun f cdv A outer s H E hr => ⟨_, _,
    (dss_cons (ds_set 3 sc_law_looks_of.nd de_int)
      (dss_cons (ds_for PassesOwn.never rfl (di_range1 (by rfl) T.range (da_cons (db_var 1) da_nil)) (dg_name 4 sc_law_looks_of.nd)
      (dss_one (ds_aug 3 sc_law_looks_of.nd ip_add (db_of (de_callB (cr_sum rfl) sc_sum (by rfl) T.sum (by decide +kernel) (da_cons (db_of (de_lc rfl sc_law_looks_of.nd (di_range1 (by rfl) T.range (da_cons (db_of (de_callB call_len sc_len (by rfl) T.len PySem.boot_len (da_cons (db_of (de_fn [] (okd_law_of T) (hr.mono (by decide)) (da_cons (db_of (de_var 0)) (da_cons (db_of (de_var 4)) (da_cons (db_of (de_var 1)) da_nil))))) da_nil))) da_nil)) (blkOk_by (own := [("at", 5)]) (N := N_law_looks_of) (sc := defScope s_law_looks_of) (by decide +kernel))
        (fun _ _ _ _ _ => (dg_name 5 sc_law_looks_of.nd)) (fun _ _ _ _ _ => dts_nil)
        (fun _ _ _ _ _ => (de_op (opR_as (r' := rAddU K) (op_addU)) sr_add (db_of (de_op op_fdivW sr_div (db_var 5) (db_var 2))) (db_of de_int))))) da_nil))))))
      (dss_one (ds_ret (de_move 3))))), fun as Qd h => ?_⟩
  obtain ⟨ks, r, w, rfl, ⟨⟨hr, hr2⟩, hw, hn⟩, q⟩ := h
  have hn' : ks.length ≤ 1000000 := hn
  walk_at "dl"
  refine ⟨⟨by omega, by omega⟩, ?_⟩
  refine FR.range0 (fun i ρ => ∃ s4, ρ = [.fz (.list (ks.map .int)), .fz (.int r), .fz (.int w), .fz (.int ((List.range i).map fun j : Nat => Bt.lk w.toNat (Bt.cnt ks r j).toNat).sum), s4, .un]) ⟨_, rfl⟩ ?_ ?_
  · rintro i _ hi ⟨s4, rfl⟩
    have hil : (Bt.inRoom (srt ks) r i).length = (Bt.cnt ks r i).toNat := by
      unfold Bt.cnt Bt.inRoom
      rw [((srt_perm ks).filter _).length_eq]; omega
    have hil2 := Bt.in_len (ks := srt ks) (r := r) (j := i)
    rw [(srt_perm ks).length_eq] at hil2
    have hw1 := hw.1
    walk_at "dl"
    refine ⟨⟨⟨by omega, by omega⟩, ⟨by omega, by omega⟩, hn⟩, ⟨by omega, by omega⟩, ?_⟩
    unfold rangeD
    refine LC.toI (fun a : Nat => PyData.int (0 + (a : Int))) (fun a : Nat => (0 + (a : Int)) / w + 1) (by rw [List.length_range, sizeLine_eq]; omega) (fun a _ Kt Kf hk => ?_) ?_
    · walk_at "dl"
      exact ⟨hw.div, hk _ rfl⟩
    walk_at "dl"
    rw [Bt.lk_range hw1, hil]
    have e : ((List.range i).map fun j : Nat => Bt.lk w.toNat (Bt.cnt ks r j).toNat).sum + Bt.lk w.toNat (Bt.cnt ks r i).toNat = ((List.range (i + 1)).map fun j : Nat => Bt.lk w.toNat (Bt.cnt ks r j).toNat).sum := by
      rw [List.range_succ, List.map_append, List.map_cons, List.map_nil, Bt.sum_snoc]
    rw [e]
    exact Wk.mk ⟨_, rfl⟩
  · rintro _ ⟨s4, rfl⟩
    have : ((List.range r.toNat).map fun j : Nat => Bt.lk w.toNat (Bt.cnt ks r j).toNat).sum = Bt.lkAll ks w r := by
      unfold Bt.lkAll Bt.cnts Bt.rng
      rw [List.map_map, List.map_map]; rfl
    rw [this]
    walk_at "dl"
    exact q
theorem okd_law_fall_right (T : Txt K mg) : Okd P w K mg base 5 "_law_fall_right" 3 [] p_law_fall_right := by
  refine T.d_law_fall_right.okP sc_law_fall_right 7 rfl rfl fun f cdv A outer s H E hr => ⟨_, _,
    (dss_cons (ds_par 3 4 rfl sc_law_fall_right.nd
      (de_lst da_nil)
      de_non)
      (dss_cons (ds_for PassesOwn.never rfl (di_range2 (by rfl) T.range (da_cons (db_of de_int) (da_cons (db_of (de_op op_addU sr_add (db_var 2) (db_of de_int))) da_nil))) (dg_name 5 sc_law_fall_right.nd)
      (dss_cons (ds_setLc 6 rfl sc_law_fall_right.nd (sw_true rfl rfl rfl (by decide +kernel)) (di_range1 (by rfl) T.range (da_cons (db_var 5) da_nil)) (blkOk_by (own := [("room", 8)]) (N := N_law_fall_right) (sc := defScope s_law_fall_right) (by decide +kernel))
        (fun _ _ _ _ _ => (dg_name 8 sc_law_fall_right.nd)) (fun _ _ _ _ _ => dts_nil)
        (fun _ _ _ _ _ => (de_callB (callR_as (r' := fun xs H Q => ∃ x n, xs = [x] ∧ LenV K x H n ∧ Q (.int n) H) call_len) sc_len (by rfl) T.len PySem.boot_len (da_cons (db_of (de_fn [] (okd_law_of T) (hr.mono (by decide)) (da_cons (db_of (de_var 0)) (da_cons (db_of (de_var 8)) (da_cons (db_of (de_var 5)) da_nil))))) da_nil))))
      (dss_cons (ds_set 7 sc_law_fall_right.nd (de_tup (da_cons (db_of (de_fn [] (okd_law_spill T) (hr.mono (by decide)) (da_cons (db_of (de_var 6)) (da_cons (db_of (de_var 1)) da_nil)))) (da_cons (db_of (de_callB (cr_maxU rfl) sc_max (by rfl) T.max (by decide +kernel) (da_cons (db_of (de_lc rfl sc_law_fall_right.nd (di_list (de_var 6)) (blkOk_by (own := [("many", 9)]) (N := N_law_fall_right) (sc := defScope s_law_fall_right) (by decide +kernel))
        (fun _ _ _ _ _ => (dg_name 9 sc_law_fall_right.nd)) (fun _ _ _ _ _ => dts_nil)
        (fun _ _ _ _ _ => (de_callB (callR_as (r' := rMaxU K) (cr_maxU rfl)) sc_max (by rfl) T.max (by decide +kernel) (da_cons (db_of de_int) (da_cons (db_of (de_callTy call_int1 sc_int (by rfl) T.int (by decide +kernel) (da_cons (db_of (de_op op_fdivW sr_div (db_of (de_op op_sub sr_sub (db_of (de_op (opR_as (r' := rAddU K) (op_addU)) sr_add (db_var 9) (db_var 1))) (db_of de_int))) (db_var 1))) da_nil))) da_nil)))))) da_nil))) da_nil))))
      (dss_cons (ds_if (dt_not (dt_val (de_fn [] (okd_law_alike T) (hr.mono (by decide)) (da_cons (db_of (de_lst (da_cons (db_of (de_fn [] (okd_counts T) (hr.mono (by decide)) (da_cons (db_of (de_var 0)) (da_cons (db_of (de_var 5)) da_nil)))) (da_cons (db_of (de_fn [] (okd_spill T) (hr.mono (by decide)) (da_cons (db_of (de_var 6)) (da_cons (db_of (de_var 1)) da_nil)))) (da_cons (db_of (de_ix (db_of (de_fn [] (okd_longest T) (hr.mono (by decide)) (da_cons (db_of (de_var 6)) (da_cons (db_of (de_var 1)) da_nil)))) (db_of de_int))) da_nil))))) (da_cons (db_of (de_lst (da_cons (db_of (de_var 6)) (da_cons (db_of (de_ix (db_var 7) (db_of de_int))) (da_cons (db_of (de_ix (db_var 7) (db_of de_int))) da_nil))))) da_nil)))))
      (dss_one (ds_ret de_non))
      dss_nil)
      (dss_cons (ds_if (dw_pt (dw_and (dt_cmp (op_notU) sr_isnot (db_var 4) (db_of de_non) (nomark _)) (dw_and1 (dw_pt (dw_or (dt_not (dt_chain (op_le) (op_le) sr_le sr_le (db_of (de_op op_sub sr_sub (db_of (de_ix (db_var 4) (db_of de_int))) (db_of de_int))) (db_of (de_ix (db_var 7) (db_of de_int))) (db_of (de_ix (db_var 4) (db_of de_int))))) (dw_or1 (dt_cmp (op_gt) sr_gt (db_of (de_ix (db_var 7) (db_of de_int))) (db_of (de_ix (db_var 4) (db_of de_int))) (nomark _))))))))
      (dss_one (ds_ret de_non))
      dss_nil)
      (dss_one (ds_par 3 4 rfl sc_law_fall_right.nd
      (de_op op_addU sr_add (db_var 3) (db_of (de_lst (da_cons (db_of (de_ix (db_var 7) (db_of de_int))) da_nil))))
      (de_var 7))))))))
      (dss_one (ds_ret (de_move 3))))), fun as Qd h => ?_⟩
  obtain ⟨ks, w, m, rfl, ⟨⟨hm, hm2⟩, hw, hn⟩, q⟩ := h
  walk_at "dl"
  refine ⟨by decide, ⟨⟨by decide, by decide⟩, ⟨by omega, by omega⟩⟩, ?_⟩
  refine FR.range (fun i ρ => ∃ s5 s6 s7, ρ = [.fz (.list (ks.map .int)), .fz (.int w), .fz (.int m), .lst ((Bt.spsTo ks w i).map .int), if i = 0 then .fz .none else .fz (.tuple [.int (Bt.sp ks w i), .int (Bt.mx ks w i)]), s5, s6, s7, .un, .un]) ⟨_, _, _, rfl⟩ ?_ ?_
  · rintro i _ hi ⟨s5, s6, s7, rfl⟩
    have hR : (1 : Int) + (i : Int) = ((i : Int) + 1) := by omega
    rw [hR]
    walk_at "dl"
    refine ⟨⟨by omega, by omega⟩, ?_⟩
    unfold rangeD
    have hR0 : ((i : Int) + 1).toNat = i + 1 := by omega
    refine LC.toI (fun a : Nat => PyData.int (0 + (a : Int))) (fun a : Nat => Bt.cnt ks ((i : Int) + 1) a) (by rw [List.length_range, sizeLine_eq]; omega) (fun a ha Kt Kf hk => ?_) ?_
    · have ha := List.mem_range.mp ha
      have e : (((Bt.inRoom (srt ks) ((i : Int) + 1) (0 + (a : Int))).length : Nat) : Int) = Bt.cnt ks ((i : Int) + 1) a := by
        unfold Bt.cnt Bt.inRoom
        rw [((srt_perm ks).filter _).length_eq, Int.zero_add]
      walk_at "dl"
      rw [e]
      exact ⟨⟨⟨by omega, by omega⟩, ⟨by omega, by omega⟩, show _ ≤ 1000000 by omega⟩, hk _ rfl⟩
    have ec : ((List.range ((i : Int) + 1).toNat).map fun a : Nat => Bt.cnt ks ((i : Int) + 1) a) = Bt.cnts ks ((i : Int) + 1) := by
      unfold Bt.cnts Bt.rng
      rw [List.map_map]; rfl
    rw [ec]
    have hcl := Bt.cnts_len (ks := ks) (r := (i : Int) + 1)
    have hcn : ∀ c ∈ Bt.cnts ks ((i : Int) + 1), 0 ≤ c := fun c hc => Bt.cnts_nonneg hc
    walk_at "dl"
    refine ⟨⟨hw, show _ ≤ 1000000 by omega⟩, ?_⟩
    refine LC.ints (fun c => rowsF c w) (by rw [sizeLine_eq]; omega) (fun c hc Kt Kf hk => ?_) ?_
    · have h0 := hcn c hc
      walk_at "dl"
      exact ⟨hw.div, hk _ rfl⟩
    have hrn : ∀ a ∈ (Bt.cnts ks ((i : Int) + 1)).map (rowsF · w), 0 ≤ a := fun a ha => by
      obtain ⟨c, hc, rfl⟩ := List.mem_map.mp ha
      have := (Bt.rowsF_le (hcn c hc) hw).1
      show 0 ≤ rowsF c w
      omega
    have hcne : Bt.cnts ks ((i : Int) + 1) ≠ [] := by intro z; rw [z] at hcl; simp at hcl
    walk_at "dl"
    refine ⟨by omega, ?_⟩
    rintro M hM hM2
    obtain rfl : M = Bt.mx ks w ((i : Int) + 1) := Bt.mxL_eq hM hM2 hrn
    refine ⟨by decide, ⟨by omega, by omega, show _ ≤ 1000000 by omega⟩, hw, show _ ≤ 1000000 by omega, hw, show _ ≤ 1000000 by omega, hcne, ?_⟩
    rintro M2 hM3 hM4
    obtain rfl : M2 = Bt.mx ks w ((i : Int) + 1) := Bt.mxL_eq hM3 (fun a ha => by
      obtain ⟨c, hc, rfl⟩ := List.mem_map.mp ha
      exact hM4 c hc) hrn
    refine ⟨by decide, by decide, ?_⟩
    have hsR : Bt.spillR (Bt.cnts ks ((i : Int) + 1)) w = Bt.sp ks w ((i : Int) + 1) := Bt.spillR_eq hcn hw
    rw [hsR]
    refine q_alike (n := 1000) (by rfl) (.le (.list (.cons .ints (.cons .int (.cons .int .nil)))) (by omega)) (by omega) ?_
    have hsx : Bt.spsTo ks w (((i + 1 : Nat) : Int)) = Bt.spsTo ks w i ++ [Bt.sp ks w ((i : Int) + 1)] := by
      rw [Int.natCast_add]; exact Bt.spsTo_succ (by omega)
    have hsl := Bt.spsTo_len (ks := ks) (w := w) (r := (i : Int))
    have fin : ∀ s5 s6 s7 : DL.Slot, [DL.Slot.fz (.list (ks.map .int)), .fz (.int w), .fz (.int m), .lst ((Bt.spsTo ks w i).map PyData.int ++ [PyData.int (Bt.sp ks w ((i : Int) + 1))]), .fz (.tuple [.int (Bt.sp ks w ((i : Int) + 1)), .int (Bt.mx ks w ((i : Int) + 1))]), s5, s6, s7, .un, .un]
        = [.fz (.list (ks.map .int)), .fz (.int w), .fz (.int m), .lst ((Bt.spsTo ks w ((i + 1 : Nat) : Int)).map .int), if i + 1 = 0 then .fz .none else .fz (.tuple [.int (Bt.sp ks w ((i + 1 : Nat) : Int)), .int (Bt.mx ks w ((i + 1 : Nat) : Int))]), s5, s6, s7, .un, .un] := fun s5 s6 s7 => by
      rw [hsx, if_neg (Nat.succ_ne_zero i), List.map_append, Int.natCast_add]; rfl
    by_cases h0 : i = 0
    · rw [if_pos h0]
      walk_at "dl"
      exact ⟨by decide, by rw [hsl, sizeLine_eq]; omega, Wk.mk ⟨_, _, _, fin _ _ _⟩⟩
    · have hf := Bt.sp_fall (ks := ks) (w := w) (r := (i : Int)) (by omega) hw
      have hx := Bt.mx_fall (ks := ks) (w := w) (r := (i : Int)) hw (by omega)
      rw [if_neg h0]
      walk_at "dl"
      rw [if_pos hf.1, if_pos hf.2, if_neg (by omega)]
      exact ⟨by decide, by rw [hsl, sizeLine_eq]; omega, Wk.mk ⟨_, _, _, fin _ _ _⟩⟩
  · rintro _ ⟨s5, s6, s7, rfl⟩
    rw [show ((m + 1 - 1).toNat : Int) = m by omega]
    walk_at "dl"
    exact q
theorem okd_law_book_right (T : Txt K mg) : Okd P w K mg base 5 "_law_book_right" 4 [] p_law_book_right := by
  refine T.d_law_book_right.okP sc_law_book_right 10 rfl rfl fun f cdv A outer s H E hr => ⟨_, _,
    (dss_cons (ds_parT 4 5 rfl sc_law_book_right.nd
      (de_frz (de_fn [] (okd_book_of T) (hr.mono (by decide)) (da_cons (db_of (de_var 0)) (da_cons (db_of (de_var 2)) da_nil))))
      (de_lst da_nil))
      (dss_cons (ds_for PassesOwn.never rfl (di_enum (by rfl) T.enumerate (da_cons (db_of (de_var 3)) da_nil)) (dg_tup rfl (dgs_cons (dg_name 6 sc_law_book_right.nd) (dgs_cons (dg_name 7 sc_law_book_right.nd) dgs_nil)))
      (dss_one (ds_if (dw_pt (dw_and (dt_cmp (op_neU hr.units) sr_ne (db_var 5) (db_of (de_lst da_nil)) (nomark _)) (dw_and1 (dt_cmp (op_eqU hr.units) sr_eq (db_of (de_ix (db_of (de_ix (db_var 5) (db_of (de_neg (db_of de_int))))) (db_of de_int))) (db_var 7) (nomark _)))))
      (dss_one (ds_setI 5 (de_tup (da_cons (db_of (de_ix (db_of (de_ix (db_var 5) (db_of (de_neg (db_of de_int))))) (db_of de_int))) (da_cons (db_of (de_op op_addU sr_add (db_var 6) (db_of de_int))) (da_cons (db_of (de_var 7)) da_nil)))) (db_of (de_neg (db_of de_int)))))
      (dss_one (ds_expr (de_append 5 (de_tup (da_cons (db_of (de_op op_addU sr_add (db_var 6) (db_of de_int))) (da_cons (db_of (de_op op_addU sr_add (db_var 6) (db_of de_int))) (da_cons (db_of (de_var 7)) da_nil))))))))))
      (dss_cons (ds_if (dt_not (dt_val (de_fn [] (okd_law_alike T) (hr.mono (by decide)) (da_cons (db_of (de_lst (da_cons (db_of (de_fn [] (okd_is_book T) (hr.mono (by decide)) (da_cons (db_of (de_callB call_len sc_len (by rfl) T.len PySem.boot_len (da_cons (db_var 0) da_nil))) (da_cons (db_of (de_var 4)) da_nil)))) (da_cons (db_of (de_fn [] (okd_spills_by T) (hr.mono (by decide)) (da_cons (db_of (de_callB call_len sc_len (by rfl) T.len PySem.boot_len (da_cons (db_var 0) da_nil))) (da_cons (db_of (de_var 4)) (da_cons (db_of (de_var 1)) da_nil))))) da_nil)))) (da_cons (db_of (de_lst (da_cons (db_of de_bl) (da_cons (db_of (de_var 5)) da_nil)))) da_nil)))))
      (dss_one (ds_ret de_bl))
      dss_nil)
      (dss_cons (ds_if (dt_cmp (op_neU hr.units) sr_ne (db_of (de_callB call_len sc_len (by rfl) T.len PySem.boot_len (da_cons (db_var 5) da_nil))) (db_of (de_op op_addU sr_add (db_of (de_op op_sub sr_sub (db_of (de_ix (db_var 3) (db_of de_int))) (db_of (de_ix (db_var 3) (db_of (de_neg (db_of de_int))))))) (db_of de_int))) (nomark _))
      (dss_one (ds_ret de_bl))
      dss_nil)
      (dss_cons (ds_for PassesOwn.never rfl (di_range1 (by rfl) T.range (da_cons (db_of (de_op op_addU sr_add (db_of (de_ix (db_var 3) (db_of de_int))) (db_of de_int))) da_nil)) (dg_name 7 sc_law_book_right.nd)
      (dss_cons (ds_setLc 8 (g := (gTup K _ (gCons _ (gCons _ (gCons _ gNil))))) rfl sc_law_book_right.nd (sw_true rfl rfl rfl (by decide +kernel)) (di_list (de_var 5)) (blkOk_by (own := [("first", 10), ("behind", 11), ("told", 12)]) (N := N_law_book_right) (sc := defScope s_law_book_right) (by decide +kernel))
        (fun _ _ _ _ _ => (dg_tup rfl (dgs_cons (dg_name 10 sc_law_book_right.nd) (dgs_cons (dg_name 11 sc_law_book_right.nd) (dgs_cons (dg_name 12 sc_law_book_right.nd) dgs_nil))))) (fun _ _ _ _ _ => dts_one (dt_cmp (op_le) sr_le (db_var 12) (db_var 7) (nomark _)))
        (fun _ _ _ _ _ => (de_var 10)))
      (dss_one (ds_if (dt_not (dt_val (de_fn [] (okd_law_alike T) (hr.mono (by decide)) (da_cons (db_of (de_fn [] (okd_least_rooms T) (hr.mono (by decide)) (da_cons (db_of (de_callB call_len sc_len (by rfl) T.len PySem.boot_len (da_cons (db_var 0) da_nil))) (da_cons (db_of (de_var 4)) (da_cons (db_of (de_var 1)) (da_cons (db_of (de_var 7)) da_nil)))))) (da_cons (db_of (de_if (dt_cmp (op_neU hr.units) sr_ne (db_var 8) (db_of (de_lst da_nil)) (nomark _)) (de_ix (db_var 8) (db_of de_int)) de_non)) da_nil)))))
      (dss_one (ds_ret de_bl))
      dss_nil))))
      (dss_cons (ds_set 9 sc_law_book_right.nd (de_lst (da_cons (db_of de_int) (da_cons (db_of (de_var 2)) (da_cons (db_of (de_op op_addU sr_add (db_of de_int) (db_of (de_op op_fdivW sr_div (db_var 2) (db_of de_int))))) da_nil)))))
      (dss_one (ds_ret (de_fn [] (okd_law_alike T) (hr.mono (by decide)) (da_cons (db_of (de_lc rfl sc_law_book_right.nd (di_list (de_var 9)) (blkOk_by (own := [("rooms", 13)]) (N := N_law_book_right) (sc := defScope s_law_book_right) (by decide +kernel))
        (fun _ _ _ _ _ => (dg_name 13 sc_law_book_right.nd)) (fun _ _ _ _ _ => dts_nil)
        (fun _ _ _ _ _ => (de_fn [] (okd_counts_by T) (hr.mono (by decide)) (da_cons (db_of (de_callB (callR_as (r' := fun xs H Q => ∃ x n, xs = [x] ∧ LenV K x H n ∧ Q (.int n) H) call_len) sc_len (by rfl) T.len PySem.boot_len (da_cons (db_var 0) da_nil))) (da_cons (db_of (de_var 4)) (da_cons (db_of (de_var 13)) da_nil))))))) (da_cons (db_of (de_lc rfl sc_law_book_right.nd (di_list (de_var 9)) (blkOk_by (own := [("rooms", 13)]) (N := N_law_book_right) (sc := defScope s_law_book_right) (by decide +kernel))
        (fun _ _ _ _ _ => (dg_name 13 sc_law_book_right.nd)) (fun _ _ _ _ _ => dts_nil)
        (fun _ _ _ _ _ => (de_fn [] (okd_counts T) (hr.mono (by decide)) (da_cons (db_of (de_var 0)) (da_cons (db_of (de_var 13)) da_nil)))))) da_nil))))))))))), fun as Qd h => ?_⟩
  obtain ⟨ks, w, m, ss, rfl, ⟨⟨⟨hm, hm2⟩, hw, hn⟩, hs⟩, q⟩ := h
  have hsl := Bt.spsTo_len (ks := ks) (w := w) (r := m)
  rw [← hs] at hsl
  walk_at "dl"
  rw [enumD_map]
  refine ⟨⟨by omega, by omega, show _ ≤ 1000000 by omega⟩, by decide, ?_⟩
  refine FR.all (xs := ss.zipIdx) _ (fun pre post ρ => ∃ s6 s7, ρ = [.fz (.list (ks.map .int)), .fz (.int w), .fz (.int m), .fz (.list (ss.map .int)), .fz (.list ((Bt.book ks m).map Bt.q4D)), .lst ((Bt.runs (pre.map (·.1))).map Bt.t3D), s6, s7, .un, .un, .un, .un, .un, .un]) ⟨_, _, rfl⟩ ?_ ?_
  · rintro pre x post _ e ⟨s6, s7, rfl⟩
    obtain ⟨z1, z2⟩ := Bt.zipIdx_pre e
    have hbl : pre.length < ss.length := by
      have := congrArg List.length z2
      rw [List.length_append, List.length_cons, List.length_map] at this; omega
    have hrl := Bt.runs_le (xs := pre.map (·.1))
    rw [List.length_map] at hrl
    walk_at "dl"
    refine ⟨by decide, ?_⟩
    rw [eqK_nilG fun d hd => by
      obtain ⟨t, _, rfl⟩ := List.mem_map.mp hd
      exact Gd.t3 (n := 49)]
    by_cases hp : pre = []
    · subst hp
      rw [decide_eq_true (by rfl)]
      walk_at "dl"
      have e0 : x.2 = 0 := by simpa using z1
      have e1 : (Bt.runs (([] : List (Int × Nat)).map (·.1))).map Bt.t3D ++ [PyData.tuple [.int ((x.2 : Int) + 1), .int ((x.2 : Int) + 2), .int x.1]] = (Bt.runs ((([] : List (Int × Nat)) ++ [x]).map (·.1))).map Bt.t3D := by
        rw [e0]; rfl
      refine ⟨by decide, by decide, Wk.mk ?_⟩
      rw [e1]
      exact ⟨_, _, rfl⟩
    · have hpm : pre.map (·.1) ≠ [] := by simpa using hp
      obtain ⟨l, a, c, e1, e2, e3⟩ := Bt.runs_more (xs := pre.map (·.1)) (x := x.1) hpm
      rw [List.length_map] at e1 e3
      have hrne := Bt.runs_ne hpm
      have hgl : (l ++ [(a, (pre.length : Int) + 1, c)]).getLastD (0, 0, 0) = (a, (pre.length : Int) + 1, c) := by simp
      have hln : l ++ [(a, (pre.length : Int) + 1, c)] ≠ [] := by simp
      have hmx : (pre ++ [x]).map (·.1) = pre.map (·.1) ++ [x.1] := by simp
      rw [decide_eq_false (by simpa using hrne), e1]
      walk_at "dl"
      rw [atK_lastM (f := Bt.t3D) (0, 0, 0) hln, hgl]
      walk_at "dl"
      split
      · rename_i hc
        rw [if_pos hc.symm] at e3
        rw [atK_lastM (f := Bt.t3D) (0, 0, 0) hln, hgl]
        walk_at "dl"
        have e5 : (l ++ [(a, (pre.length : Int) + 1, c)]).dropLast ++ [(a, (x.2 : Int) + 2, x.1)] = Bt.runs ((pre ++ [x]).map (·.1)) := by
          rw [hmx, e3, List.dropLast_concat, z1, show (pre.length : Int) + 2 = (pre.length : Int) + 1 + 1 by omega]
        refine ⟨by decide, (isK_lastM (f := Bt.t3D) (v := (a, (x.2 : Int) + 2, x.1)) hln).mpr ?_⟩
        rw [e5]
        exact Wk.mk ⟨_, _, rfl⟩
      · rename_i hc
        rw [if_neg (fun z => hc z.symm)] at e3
        have e4 : (l ++ [(a, (pre.length : Int) + 1, c)]).map Bt.t3D ++ [PyData.tuple [.int ((x.2 : Int) + 1), .int ((x.2 : Int) + 2), .int x.1]] = (Bt.runs ((pre ++ [x]).map (·.1))).map Bt.t3D := by
          rw [hmx, e3, z1, List.map_append (l₂ := [((pre.length : Int) + 1, _, _)]), show (pre.length : Int) + 2 = (pre.length : Int) + 1 + 1 by omega]; rfl
        have hl1 : (l ++ [(a, (pre.length : Int) + 1, c)]).length ≤ pre.length := by rw [← e1]; exact hrl
        refine ⟨by decide, by rw [sizeLine_eq]; omega, Wk.mk ?_⟩
        rw [e4]
        exact ⟨_, _, rfl⟩
  · rintro _ ⟨s6, s7, rfl⟩
    have hz : (ss.zipIdx).map (·.1) = ss := List.zipIdx_map_fst 0 ss
    have hbl := Bt.book_len (ks := ks) (r := m)
    have hsb : Bt.spillsBy ks.length (Bt.book ks m) w = Bt.runs ss := by unfold Bt.spillsBy; rw [Bt.spills_book hm, hs]
    have hrl := Bt.runs_le (xs := ss)
    rw [hz]
    walk_at "dl"
    rw [hsb, Bt.isBook_book hm hm2]
    refine ⟨show _ ≤ 1000000 by omega, ⟨hw, show _ ≤ 1000000 by omega⟩, by decide, by decide, ?_⟩
    refine q_alike (n := 1000) (by rfl) (.le (.list (.cons .bool (.cons (.lm fun x _ => ALe.t3) .nil))) (by omega)) (by omega) ?_
    have hnn : ss ≠ [] := by intro z; rw [z] at hsl; simp at hsl; omega
    have hrn := Bt.sps_len (ks := ks) (w := w) hw hm
    have hg0 : ss.getD (Int.toNat 0) 0 = Bt.sp ks w 1 := by rw [hs]; exact Bt.sps_first hm
    have hg1 : ss.getLastD 0 = Bt.sp ks w m := by rw [hs]; exact Bt.sps_last hm
    have hsp1 := Bt.sp_nonneg (ks := ks) (w := w) (r := 1) hw
    have hsp2 : Bt.sp ks w 1 ≤ ks.length := by
      unfold Bt.sp
      rw [Bt.cnts_1]
      have := Bt.rowsF_le (m := (ks.length : Int)) (by omega) hw
      show rowsF _ _ - 1 + 0 ≤ _
      omega
    rw [← hs] at hrn
    walk_at "dl"
    rw [atK_map (f := PyData.int) (d := 0) (by decide) (by omega), hg0]
    rw [atK_lastM (f := PyData.int) 0 hnn, hg1]
    walk_at "dl"
    rw [if_pos hrn]
    rw [atK_map (f := PyData.int) (d := 0) (by decide) (by omega), hg0]
    walk_at "dl"
    refine ⟨⟨by omega, by omega⟩, ?_⟩
    refine FR.range0 (fun i ρ => ∃ s6 s7 s8, ρ = [.fz (.list (ks.map .int)), .fz (.int w), .fz (.int m), .fz (.list (ss.map .int)), .fz (.list ((Bt.book ks m).map Bt.q4D)), .fz (.list ((Bt.runs ss).map Bt.t3D)), s6, s7, s8, .un, .un, .un, .un, .un]) ⟨_, _, _, rfl⟩ ?_ ?_
    · rintro one _ hone ⟨s6, s7, s8, rfl⟩
      walk_at "dl"
      refine LC.filtA (xs := Bt.runs ss) Bt.t3D (fun t => decide (t.2.2 ≤ (one : Int))) (fun t => PyData.int t.1) (by rw [sizeLine_eq]; omega) (fun t ht Kt Kf hkt hkf => ?_) ?_
      · walk_at "dl"
        split
        · rename_i h; exact hkt (decide_eq_true h) _ rfl
        · rename_i h; exact hkf (decide_eq_false h) _ rfl
      have hlr : Bt.leastR ks.length (Bt.book ks m) w one = match (Bt.runs ss).filter fun t => decide (t.2.2 ≤ (one : Int)) with
        | [] => .none
        | t :: _ => .int t.1 := by
        have e := Bt.leastR_filter (c := ks.length) (B := Bt.book ks m) (w := w) (one := (one : Int))
        rw [hsb] at e
        exact e
      walk_at "dl"
      refine ⟨⟨hw, show _ ≤ 1000000 by omega⟩, by decide, ?_⟩
      rw [eqK_nilG fun d hd => by
        obtain ⟨t, _, rfl⟩ := List.mem_map.mp hd
        exact Gd.int, hlr]
      cases ef : (Bt.runs ss).filter fun t => decide (t.2.2 ≤ (one : Int)) with
      | nil =>
        rw [decide_eq_true (by rfl)]
        walk_at "dl"
        refine q_alike (n := 1) (by rfl) .none (by omega) ?_
        walk_at "dl"
        exact Wk.mk ⟨_, _, _, rfl⟩
      | cons t l =>
        rw [decide_eq_false (by simp), List.map_cons]
        walk_at "dl"
        refine q_alike (n := 1) (by rfl) .int (by omega) ?_
        walk_at "dl"
        exact Wk.mk ⟨_, _, _, rfl⟩
    · rintro _ ⟨s6, s7, s8, rfl⟩
      have hcb : ∀ r, 1 ≤ r → r ≤ m → Bt.sizes ks.length ((Bt.book ks m).take (r - 1).toNat) = Bt.cnts ks r := fun r h1 h2 => by
        rw [Bt.book_take (by omega), Bt.sizes_book (by omega)]
      have hrs : ∀ r ∈ ([1, m, 1 + m / 2] : List Int), 1 ≤ r ∧ r ≤ m := fun r hr => by
        simp only [List.mem_cons, List.not_mem_nil, or_false] at hr
        omega
      walk_at "dl"
      refine ⟨⟨by decide, by decide⟩, by decide, ?_⟩
      refine LC.all (xs := ([1, m, 1 + m / 2] : List Int)) PyData.int (fun r => .list ((Bt.cnts ks r).map .int)) (show 3 ≤ sizeLine by decide) (fun r hr Kt Kf hk => ?_) ?_
      · obtain ⟨h1, h2⟩ := hrs r hr
        walk_at "dl"
        rw [hcb r h1 h2]
        exact ⟨⟨h1, show _ ≤ 1000000 by omega, Bt.book_shaped⟩, hk _ rfl⟩
      walk_at "dl"
      refine LC.all (xs := ([1, m, 1 + m / 2] : List Int)) PyData.int (fun r => .list ((Bt.cnts ks r).map .int)) (show 3 ≤ sizeLine by decide) (fun r hr Kt Kf hk => ?_) ?_
      · obtain ⟨h1, h2⟩ := hrs r hr
        walk_at "dl"
        exact ⟨⟨h1, by omega, show _ ≤ 1000000 by omega⟩, hk _ rfl⟩
      walk_at "dl"
      refine q_alike (n := 10000) (by rfl) (.le (.lm (k := 140) (xs := ([1, m, 1 + m / 2] : List Int)) (f := fun r => PyData.list ((Bt.cnts ks r).map .int)) fun r hr => .le .ints (by
        have := hrs r hr
        rw [Bt.cnts_len]; omega)) (by simp only [List.length_cons, List.length_nil]; omega)) (by omega) ?_
      walk_at "dl"
      exact q
theorem okd_law_parted_right (T : Txt K mg) : Okd P w K mg base 5 "_law_parted_right" 2 [] p_law_parted_right := by
  refine T.d_law_parted_right.okP sc_law_parted_right 9 rfl rfl fun f cdv A outer s H E hr => ⟨_, _,
    (dss_cons (ds_par 2 3 rfl sc_law_parted_right.nd
      (de_slice (db_var 0) do_none (do_some (db_of de_int)))
      de_int)
      (dss_cons (ds_for PassesOwn.never rfl (di_enum (by rfl) T.enumerate (da_cons (db_of (de_var 2)) da_nil)) (dg_tup rfl (dgs_cons (dg_name 4 sc_law_parted_right.nd) (dgs_cons (dg_name 5 sc_law_parted_right.nd) dgs_nil)))
      (dss_one (ds_set 3 sc_law_parted_right.nd (de_callB (cr_maxU rfl) sc_max (by rfl) T.max (by decide +kernel) (da_cons (db_of (de_op op_addU sr_add (db_of (de_lst (da_cons (db_of (de_var 3)) da_nil))) (db_of (de_lc rfl sc_law_parted_right.nd (di_list (de_slice (db_var 2) do_none (do_some (db_var 4)))) (blkOk_by (own := [("other", 10)]) (N := N_law_parted_right) (sc := defScope s_law_parted_right) (by decide +kernel))
        (fun _ _ _ _ _ => (dg_name 10 sc_law_parted_right.nd)) (fun _ _ _ _ _ => dts_nil)
        (fun _ _ _ _ _ => (de_fn [] (okd_parted T) (hr.mono (by decide)) (da_cons (db_of (de_var 5)) (da_cons (db_of (de_var 10)) da_nil)))))))) da_nil)))))
      (dss_cons (ds_set 6 sc_law_parted_right.nd (de_if (dt_cmp (op_le) sr_le (db_var 3) (db_var 1) (nomark _)) (de_var 3) de_non))
      (dss_cons (ds_if (dt_not (dt_val (de_fn [] (okd_law_alike T) (hr.mono (by decide)) (da_cons (db_of (de_fn [] (okd_least_rooms T) (hr.mono (by decide)) (da_cons (db_of (de_callB call_len sc_len (by rfl) T.len PySem.boot_len (da_cons (db_var 2) da_nil))) (da_cons (db_of (de_fn [] (okd_book_of T) (hr.mono (by decide)) (da_cons (db_of (de_var 2)) (da_cons (db_of (de_var 1)) da_nil)))) (da_cons (db_of de_int) (da_cons (db_of de_int) da_nil)))))) (da_cons (db_of (de_var 6)) da_nil)))))
      (dss_one (ds_ret de_bl))
      dss_nil)
      (dss_cons (ds_for PassesOwn.never rfl (di_zip3 (by rfl) T.zip (da_cons (db_of (de_var 2)) (da_cons (db_of (de_slice (db_var 2) (do_some (db_of de_int)) do_none)) (da_cons (db_of (de_slice (db_var 2) (do_some (db_of de_int)) do_none)) da_nil)))) (dg_tup rfl (dgs_cons (dg_name 5 sc_law_parted_right.nd) (dgs_cons (dg_name 7 sc_law_parted_right.nd) (dgs_cons (dg_name 8 sc_law_parted_right.nd) dgs_nil))))
      (dss_cons (ds_set 9 sc_law_parted_right.nd (de_callB cr_sortU sc_sortU (by rfl) T.sorted (by decide +kernel) (da_cons (db_of (de_lst (da_cons (db_of (de_fn [] (okd_parted T) (hr.mono (by decide)) (da_cons (db_of (de_var 5)) (da_cons (db_of (de_var 7)) da_nil)))) (da_cons (db_of (de_fn [] (okd_parted T) (hr.mono (by decide)) (da_cons (db_of (de_var 7)) (da_cons (db_of (de_var 8)) da_nil)))) (da_cons (db_of (de_fn [] (okd_parted T) (hr.mono (by decide)) (da_cons (db_of (de_var 5)) (da_cons (db_of (de_var 8)) da_nil)))) da_nil))))) da_nil)))
      (dss_one (ds_if (dt_cmp (op_neU hr.units) sr_ne (db_of (de_ix (db_var 9) (db_of de_int))) (db_of (de_ix (db_var 9) (db_of de_int))) (nomark _))
      (dss_one (ds_ret de_bl))
      dss_nil))))
      (dss_one (ds_ret de_bl))))))), fun as Qd h => ?_⟩
  obtain ⟨ks, m, rfl, ⟨⟨hp, hb, hl⟩, ⟨hm, hm2⟩⟩, q⟩ := h
  have hct : cutD (ks.map PyData.int) none (some 24) = (ks.take 24).map .int := by
    rw [cutD_map, cutD_take (by decide)]; rfl
  have hSl : (ks.take 24).length ≤ 24 := by rw [List.length_take]; omega
  have hSp : (ks.take 24).Pairwise (· < ·) := hp.take
  have hSr : Bt.InR (ks.take 24) := fun k hk => hb k (List.mem_of_mem_take hk)
  have hSn : (ks.take 24).Nodup := hSp.imp fun h => Int.ne_of_lt h
  walk_at "dl"
  rw [hct]
  generalize ks.take 24 = S at *
  rw [enumD_map]
  refine FR.all (xs := S.zipIdx) _ (fun pre post ρ => ∃ G s4 s5, Bt.MaxPart (pre.map (·.1)) G ∧ ρ = [.fz (.list (ks.map .int)), .fz (.int m), .fz (.list (S.map .int)), .fz (.int G), s4, s5, .un, .un, .un, .un, .un]) ⟨_, _, _, Bt.maxPart_nil, rfl⟩ ?_ ?_
  · rintro pre x post _ e ⟨G, s4, s5, hG, rfl⟩
    obtain ⟨z1, z2⟩ := Bt.zipIdx_pre e
    have hxS : x.1 ∈ S := by rw [z2]; simp
    have hpS : ∀ a ∈ pre.map (·.1), a ∈ S := fun a ha => by rw [z2]; exact List.mem_append_left _ ha
    have hxp : x.1 ∉ pre.map (·.1) := fun hx => by
      rw [z2, List.nodup_append] at hSn
      exact hSn.2.2 _ hx _ (by simp) rfl
    have hpl : pre.length ≤ 24 := by
      have := congrArg List.length z2
      rw [List.length_append, List.length_cons, List.length_map] at this; omega
    have hcut : cutD (S.map PyData.int) none (some (x.2 : Int)) = (pre.map (·.1)).map .int := by
      rw [cutD_map, cutD_take (by omega), Int.toNat_natCast, z1]
      congr 1
      rw [z2, List.take_append_of_le_length (by rw [List.length_map]; omega), List.take_of_length_le (by rw [List.length_map]; omega)]
    have hmx : (pre ++ [x]).map (·.1) = pre.map (·.1) ++ [x.1] := by simp
    have hInR : Bt.InR (pre.map (·.1) ++ [x.1]) := fun k hk => hSr k (by
      rcases List.mem_append.mp hk with h1 | h1
      · exact hpS k h1
      · rw [List.mem_singleton.mp h1]; exact hxS)
    walk_at "dl"
    rw [hcut]
    refine ⟨by decide, ?_⟩
    refine LC.ints (fun o => Bt.part x.1 o) (by rw [List.length_map, sizeLine_eq]; omega) (fun o ho Kt Kf hk => ?_) ?_
    · obtain ⟨b1, b2⟩ := Bt.bitN_ok (a := x.1) (b := o) (hSr _ hxS) (hSr _ (hpS o ho)) (fun z => hxp (z ▸ ho))
      walk_at "dl"
      exact ⟨_, by omega, b2, hk _ rfl⟩
    walk_at "dl"
    refine ⟨by rw [sizeLine_eq]; omega, by omega, fun M hM hM2 => ?_⟩
    have hMp := Bt.maxPart_snoc hInR hxp hG hM hM2
    rw [← hmx] at hMp
    exact Wk.mk ⟨_, _, _, hMp, rfl⟩
  · rintro _ ⟨G, s4, s5, hG, rfl⟩
    have hz : (S.zipIdx).map (·.1) = S := List.zipIdx_map_fst 0 S
    rw [hz] at hG
    have hlp := Bt.least_parted hSr hSn hG (show 1 ≤ m by omega)
    have hbl := Bt.book_len (ks := S) (r := m)
    walk_at "dl"
    split
    all_goals
      rename_i hc
      first | rw [if_pos hc] at hlp | rw [if_neg hc] at hlp
      rw [hlp]
      refine ⟨⟨by omega, by omega, show _ ≤ 1000000 by omega⟩, ⟨⟨by decide, by decide⟩, show _ ≤ 1000000 by omega⟩, ?_⟩
      refine q_alike (n := 1) (by rfl) (by first | exact .int | exact .none) (by omega) ?_
      walk_at "dl"
      rw [cutD_map, cutD_map, zip3D_map]
      refine FR.all (xs := S.zip ((cutD S (some 1) none).zip (cutD S (some 2) none))) _ (fun pre post ρ => ∃ s3 s4 s5 s6 s7 s8 s9, ρ = [.fz (.list (ks.map .int)), .fz (.int m), .fz (.list (S.map .int)), s3, s4, s5, s6, s7, s8, s9, .un]) ⟨_, _, _, _, _, _, _, rfl⟩ ?_ ?_
      · rintro pre x post _ e ⟨s3, s4, s5, s6, s7, s8, s9, rfl⟩
        have hx : x ∈ S.zip ((S.drop 1).zip (S.drop 2)) := by
          rw [Bt.cutD_drop (by decide), Bt.cutD_drop (by decide)] at e
          have : x ∈ S.zip ((S.drop (Int.toNat 1)).zip (S.drop (Int.toNat 2))) := by rw [e]; simp
          exact this
        obtain ⟨m1, m2, m3, l1, l2⟩ := Bt.zip_three hSp hx
        obtain ⟨a1, a2⟩ := Bt.bitN_ok (a := x.1) (b := x.2.1) (hSr _ m1) (hSr _ m2) (by omega)
        obtain ⟨b1, b2⟩ := Bt.bitN_ok (a := x.2.1) (b := x.2.2) (hSr _ m2) (hSr _ m3) (by omega)
        obtain ⟨c1, c2⟩ := Bt.bitN_ok (a := x.1) (b := x.2.2) (hSr _ m1) (hSr _ m3) (by omega)
        obtain ⟨u, v, hs⟩ := Bt.srt_three (Bt.parts_three (Bt.parts_bit a2) (Bt.parts_bit b2) (Bt.parts_bit c2))
        walk_at "dl"
        refine ⟨_, by omega, a2, _, by omega, b2, _, by omega, c2, by decide, ?_⟩
        rw [show ∀ p q s : Int, [PyData.int p, PyData.int q, PyData.int s] = [p, q, s].map PyData.int from fun _ _ _ => rfl, sortK_m, hs]
        simp only [List.map_cons, List.map_nil]
        walk_at "dl"
        exact Wk.mk ⟨_, _, _, _, _, _, _, rfl⟩
      · rintro _ ⟨s3, s4, s5, s6, s7, s8, s9, rfl⟩
        walk_at "dl"
        exact q
theorem okf_law (T : Txt K mg) : OkF P w K mg base 6 "law" s_law ["script"] 1 [0] (p_law K) := by
  refine OkF.okL sc_law 11 rfl (by decide) rfl fun f cdv A outer s H E hr => ⟨_, _,
    (dss_cons (ds_set 1 sc_law.nd (de_fn [(0, 0)] (okd_law_bag T) (hr.mono (by decide)) (da_cons (db_var 0) da_nil)))
      (dss_cons (ds_for PassesOwn.never rfl (di_range1 (by rfl) T.range (da_cons (db_of de_int) da_nil)) (dg_name 2 sc_law.nd)
      (dss_cons (ds_par 3 4 rfl sc_law.nd
      (de_fn [(0, 1)] (okd_law_drawn_keys T) (hr.mono (by decide)) (da_cons (db_var 1) (da_cons (db_of de_int) da_nil)))
      (de_op op_addU sr_add (db_of de_int) (db_of (de_fn [(0, 1)] (okd_law_take T) (hr.mono (by decide)) (da_cons (db_var 1) (da_cons (db_of de_int) da_nil))))))
      (dss_cons (ds_set 5 sc_law.nd (de_fn [(0, 1)] (okd_law_some T) (hr.mono (by decide)) (da_cons (db_var 1) (da_cons (db_of (de_lst (da_cons (db_of de_int) (da_cons (db_of de_int) (da_cons (db_of de_int) (da_cons (db_of de_int) da_nil)))))) da_nil))))
      (dss_cons (ds_set 6 sc_law.nd (de_fn [] (okd_law_fall_right T) (hr.mono (by decide)) (da_cons (db_of (de_var 3)) (da_cons (db_of (de_var 4)) (da_cons (db_of (de_var 5)) da_nil)))))
      (dss_cons (ds_if (dw_pt (dw_or (dt_cmp (op_isU) sr_is (db_var 6) (db_of de_non) (nomark _)) (dw_or1 (dt_not (dt_val (de_fn [] (okd_law_book_right T) (hr.mono (by decide)) (da_cons (db_of (de_fn [(0, 1)] (okd_law_mixed T) (hr.mono (by decide)) (da_cons (db_var 1) (da_cons (db_of (de_var 3)) da_nil)))) (da_cons (db_of (de_var 4)) (da_cons (db_of (de_var 5)) (da_cons (db_of (de_var 6)) da_nil))))))))))
      (dss_one (ds_ret de_bl))
      dss_nil)
      (dss_cons (ds_set 7 sc_law.nd de_non)
      (dss_cons (ds_for PassesOwn.never rfl (di_tup (de_tup (da_cons (db_of de_int) (da_cons (db_of de_int) (da_cons (db_of de_int) (da_cons (db_of de_int) (da_cons (db_of de_int) (da_cons (db_of (de_var 5)) da_nil)))))))) (dg_name 8 sc_law.nd)
      (dss_cons (ds_set 9 sc_law.nd (de_callB (cr_sum rfl) sc_sum (by rfl) T.sum (by decide +kernel) (da_cons (db_of (de_lc (g := (gTup K _ (gCons _ (gCons _ gNil)))) rfl sc_law.nd (di_list (de_fn [] (okd_all_looks T) (hr.mono (by decide)) (da_cons (db_of (de_var 3)) (da_cons (db_of (de_var 8)) (da_cons (db_of (de_var 4)) da_nil))))) (blkOk_by (own := [("key", 10), ("looks", 11)]) (N := N_law) (sc := defScope s_law) (by decide +kernel))
        (fun _ _ _ _ _ => (dg_tup rfl (dgs_cons (dg_name 10 sc_law.nd) (dgs_cons (dg_name 11 sc_law.nd) dgs_nil)))) (fun _ _ _ _ _ => dts_nil)
        (fun _ _ _ _ _ => (de_var 11)))) da_nil)))
      (dss_cons (ds_if (dw_pt (dw_or (dt_cmp (op_neU hr.units) sr_ne (db_var 9) (db_of (de_fn [] (okd_law_looks_of T) (hr.mono (by decide)) (da_cons (db_of (de_var 3)) (da_cons (db_of (de_var 8)) (da_cons (db_of (de_var 4)) da_nil))))) (nomark _)) (dw_or1 (dw_pt (dw_and (dt_cmp (op_notU) sr_isnot (db_var 7) (db_of de_non) (nomark _)) (dw_and1 (dt_cmp (op_gt) sr_gt (db_var 9) (db_var 7) (nomark _))))))))
      (dss_one (ds_ret de_bl))
      dss_nil)
      (dss_one (ds_set 7 sc_law.nd (de_var 9))))))
      (dss_one (ds_if (dt_not (dt_val (de_fn [] (okd_law_parted_right T) (hr.mono (by decide)) (da_cons (db_of (de_var 3)) (da_cons (db_of (de_var 5)) da_nil)))))
      (dss_one (ds_ret de_bl))
      dss_nil)))))))))
      (dss_one (ds_ret de_bl)))), fun a as Qd h => ?_⟩
  obtain ⟨ns, eq, hn, q⟩ := h
  cases eq
  walk_at "dl"
  refine ⟨ns, rfl, hn, fun L hL => ?_⟩
  walk_at "dl"
  refine ⟨⟨by decide, by decide⟩, ?_⟩
  refine FR.mem (fun ρ => ∃ L s2 s3 s4 s5 s6 s7 s8 s9, BagL L ∧ ρ = [.ob (scr K ns), .lst L, s2, s3, s4, s5, s6, s7, s8, s9, .un, .un]) ⟨L, _, _, _, _, _, _, _, _, hL, rfl⟩ ?_ ?_
  · rintro d hd _ ⟨L, s2, s3, s4, s5, s6, s7, s8, s9, hL, rfl⟩
    walk_at "dl"
    refine ⟨hL, ⟨by decide, by decide⟩, fun ks L1 hL1 hks => ?_⟩
    walk_at "dl"
    refine ⟨hL1, ⟨by decide, by decide⟩, fun w0 L2 hL2 hw0 hw1 => ?_⟩
    have hw : 0 < 1 + w0 ∧ 1 + w0 ≤ 8 := by omega
    generalize 1 + w0 = w at *
    refine ⟨by decide, hL2, ⟨by decide, by decide⟩, fun x hx L3 hL3 => ?_⟩
    obtain ⟨m, rfl, hm⟩ : ∃ m : Int, x = .int m ∧ (8 ≤ m ∧ m ≤ 60) := by
      simp only [List.mem_cons, List.not_mem_nil, or_false] at hx
      rcases hx with rfl | rfl | rfl | rfl <;> exact ⟨_, rfl, by omega⟩
    clear hx
    have hkl := hks.2.2
    have hkn : ks.Nodup := hks.1.imp fun h => Int.ne_of_lt h
    walk_at "dl"
    refine ⟨⟨⟨by omega, by omega⟩, hw, by omega⟩, hL3, show _ ≤ 1000000 by rw [List.length_map]; omega, fun x hx => ?_, ?_⟩
    · obtain ⟨y, _, rfl⟩ := List.mem_map.mp hx
      exact Gd.int
    rintro ys L4 hL4 hys
    obtain ⟨zs, rfl, hp⟩ := perm_map hys
    have hpl := hp.length_eq
    have hss : Bt.spsTo ks w m = Bt.spsTo zs w m := by
      unfold Bt.spsTo Bt.sp
      exact List.map_congr_left fun j _ => by rw [Bt.cnts_perm hp]
    walk_at "dl"
    refine ⟨⟨⟨⟨by omega, by omega⟩, hw, by omega⟩, hss⟩, by decide, ?_⟩
    have hmono : ∀ (pre post : List Int) (x : Int), ([1, 2, 3, 5, 8, m] : List Int) = pre ++ x :: post → (1 ≤ x ∧ x ≤ 60) ∧ ∀ y, pre.getLast? = some y → 1 ≤ y ∧ y ≤ x := fun pre post x e => by
      have hs : ([1, 2, 3, 5, 8, m] : List Int).Pairwise (· ≤ ·) := by simp; omega
      have hb : ∀ y ∈ ([1, 2, 3, 5, 8, m] : List Int), 1 ≤ y ∧ y ≤ 60 := fun y hy => by
        simp only [List.mem_cons, List.not_mem_nil, or_false] at hy; omega
      rw [e] at hs hb
      refine ⟨hb x (by simp), fun y hy => ?_⟩
      have hm2 := List.mem_of_getLast? hy
      exact ⟨(hb y (by simp [hm2])).1, (List.pairwise_append.mp hs).2.2 y hm2 x (by simp)⟩
    refine FR.all (xs := ([1, 2, 3, 5, 8, m] : List Int)) PyData.int (fun pre post ρ => ∃ s8 s9, ρ = [.ob (scr K ns), .lst L4, .fz d, .fz (.list (ks.map .int)), .fz (.int w), .fz (.int m), .fz (.list ((Bt.spsTo ks w m).map .int)), .fz (match pre.getLast? with | none => PyData.none | some r => .int (Bt.lkAll ks w r)), s8, s9, .un, .un]) ⟨_, _, rfl⟩ ?_ ?_
    · rintro pre x post _ e ⟨s8, s9, rfl⟩
      obtain ⟨hx, hlast⟩ := hmono pre post x e
      have hrl : (srtP (Bt.looksRaw ks x w)).length = ks.length := by
        rw [(srtP_perm _).length_eq]
        have := (Bt.lots_flat (ks := ks) (r := x) hx.1).length_eq
        rw [← this]
        unfold Bt.looksRaw
        rw [List.length_flatMap, List.length_flatten]
        congr 1
        exact List.map_congr_left fun h _ => List.length_map _
      have hls := Bt.looks_srt (ks := ks) (w := w) (r := x) hkn hw
      walk_at "dl"
      refine ⟨⟨hx.1, by omega, show _ ≤ 1000000 by omega, hw⟩, ?_⟩
      refine LC.toI pD (fun p => p.2) (by rw [hrl, sizeLine_eq]; omega) (fun p hp Kt Kf hk => ?_) ?_
      · walk_at "dl"
        exact hk _ rfl
      walk_at "dl"
      rw [hls]
      cases el : pre.getLast? with
      | none =>
        walk_at "dl"
        refine ⟨⟨⟨hx.1, by omega⟩, hw, show _ ≤ 1000000 by omega⟩, Wk.mk ?_⟩
        simp only [List.getLast?_concat]
        exact ⟨_, _, rfl⟩
      | some y =>
        obtain ⟨hy1, hy2⟩ := hlast y el
        have hmn := Bt.lkAll_mono (ks := ks) (w := w) hy1 hy2
        walk_at "dl"
        rw [if_neg (by omega)]
        refine ⟨⟨⟨hx.1, by omega⟩, hw, show _ ≤ 1000000 by omega⟩, Wk.mk ?_⟩
        simp only [List.getLast?_concat]
        exact ⟨_, _, rfl⟩
    · rintro _ ⟨s8, s9, rfl⟩
      walk_at "dl"
      exact ⟨⟨⟨hks.1, hks.2.1, by omega⟩, by omega, by omega⟩, Wk.mk ⟨L4, _, _, _, _, _, _, _, _, hL4, rfl⟩⟩
  · rintro _ ⟨L, s2, s3, s4, s5, s6, s7, s8, s9, hL, rfl⟩
    walk_at "dl"
    exact q
end
end K30

set_option Elab.async false
set_option linter.all false
set_option maxRecDepth 100000
set_option maxHeartbeats 4000000
namespace K30
open PySem PySem.Spec L2 DL
open PyProof.Rows hiding St
theorem all_mk {l : PySem.W.OpenLaw} {w : World} {K : PySem.W.Frag} {h : Heap} {mg : Str → Option Value} {fa : Addr} (X : K.In h) (G : h.Ns mainGlobals mg) (hfa : mg "law" = some (.ref fa))
    {f0 : Addr} {od0 an0 : Option Addr} {sl0 : Array (Option Value)} {oc0 kV0 dc0 pm0 cd0 ct0 : Value}
    {f1 : Addr} {od1 an1 : Option Addr} {sl1 : Array (Option Value)} {oc1 kV1 dc1 pm1 cd1 ct1 : Value}
    {f2 : Addr} {od2 an2 : Option Addr} {sl2 : Array (Option Value)} {oc2 kV2 dc2 pm2 cd2 ct2 : Value}
    {f3 : Addr} {od3 an3 : Option Addr} {sl3 : Array (Option Value)} {oc3 kV3 dc3 pm3 cd3 ct3 : Value}
    {f4 : Addr} {od4 an4 : Option Addr} {sl4 : Array (Option Value)} {oc4 kV4 dc4 pm4 cd4 ct4 : Value}
    {f5 : Addr} {od5 an5 : Option Addr} {sl5 : Array (Option Value)} {oc5 kV5 dc5 pm5 cd5 ct5 : Value}
    {f6 : Addr} {od6 an6 : Option Addr} {sl6 : Array (Option Value)} {oc6 kV6 dc6 pm6 cd6 ct6 : Value}
    {f7 : Addr} {od7 an7 : Option Addr} {sl7 : Array (Option Value)} {oc7 kV7 dc7 pm7 cd7 ct7 : Value}
    {f8 : Addr} {od8 an8 : Option Addr} {sl8 : Array (Option Value)} {oc8 kV8 dc8 pm8 cd8 ct8 : Value}
    {f9 : Addr} {od9 an9 : Option Addr} {sl9 : Array (Option Value)} {oc9 kV9 dc9 pm9 cd9 ct9 : Value}
    {f10 : Addr} {od10 an10 : Option Addr} {sl10 : Array (Option Value)} {oc10 kV10 dc10 pm10 cd10 ct10 : Value}
    {f11 : Addr} {od11 an11 : Option Addr} {sl11 : Array (Option Value)} {oc11 kV11 dc11 pm11 cd11 ct11 : Value}
    {f12 : Addr} {od12 an12 : Option Addr} {sl12 : Array (Option Value)} {oc12 kV12 dc12 pm12 cd12 ct12 : Value}
    {f13 : Addr} {od13 an13 : Option Addr} {sl13 : Array (Option Value)} {oc13 kV13 dc13 pm13 cd13 ct13 : Value}
    {f14 : Addr} {od14 an14 : Option Addr} {sl14 : Array (Option Value)} {oc14 kV14 dc14 pm14 cd14 ct14 : Value}
    {f15 : Addr} {od15 an15 : Option Addr} {sl15 : Array (Option Value)} {oc15 kV15 dc15 pm15 cd15 ct15 : Value}
    {f16 : Addr} {od16 an16 : Option Addr} {sl16 : Array (Option Value)} {oc16 kV16 dc16 pm16 cd16 ct16 : Value}
    {f17 : Addr} {od17 an17 : Option Addr} {sl17 : Array (Option Value)} {oc17 kV17 dc17 pm17 cd17 ct17 : Value}
    {f18 : Addr} {od18 an18 : Option Addr} {sl18 : Array (Option Value)} {oc18 kV18 dc18 pm18 cd18 ct18 : Value}
    {f19 : Addr} {od19 an19 : Option Addr} {sl19 : Array (Option Value)} {oc19 kV19 dc19 pm19 cd19 ct19 : Value}
    {f20 : Addr} {od20 an20 : Option Addr} {sl20 : Array (Option Value)} {oc20 kV20 dc20 pm20 cd20 ct20 : Value}
    {f21 : Addr} {od21 an21 : Option Addr} {sl21 : Array (Option Value)} {oc21 kV21 dc21 pm21 cd21 ct21 : Value}
    {f22 : Addr} {od22 an22 : Option Addr} {sl22 : Array (Option Value)} {oc22 kV22 dc22 pm22 cd22 ct22 : Value}
    {f23 : Addr} {od23 an23 : Option Addr} {sl23 : Array (Option Value)} {oc23 kV23 dc23 pm23 cd23 ct23 : Value}
    {f24 : Addr} {od24 an24 : Option Addr} {sl24 : Array (Option Value)} {oc24 kV24 dc24 pm24 cd24 ct24 : Value}
    {f25 : Addr} {od25 an25 : Option Addr} {sl25 : Array (Option Value)} {oc25 kV25 dc25 pm25 cd25 ct25 : Value}
    {f26 : Addr} {od26 an26 : Option Addr} {sl26 : Array (Option Value)} {oc26 kV26 dc26 pm26 cd26 ct26 : Value}
    {f27 : Addr} {od27 an27 : Option Addr} {sl27 : Array (Option Value)} {oc27 kV27 dc27 pm27 cd27 ct27 : Value}
    {f28 : Addr} {od28 an28 : Option Addr} {sl28 : Array (Option Value)} {oc28 kV28 dc28 pm28 cd28 ct28 : Value}
    {f29 : Addr} {od29 an29 : Option Addr} {sl29 : Array (Option Value)} {oc29 kV29 dc29 pm29 cd29 ct29 : Value}
    {f30 : Addr} {od30 an30 : Option Addr} {sl30 : Array (Option Value)} {oc30 kV30 dc30 pm30 cd30 ct30 : Value}
    {f31 : Addr} {od31 an31 : Option Addr} {sl31 : Array (Option Value)} {oc31 kV31 dc31 pm31 cd31 ct31 : Value}
    {f32 : Addr} {od32 an32 : Option Addr} {sl32 : Array (Option Value)} {oc32 kV32 dc32 pm32 cd32 ct32 : Value}
    {f33 : Addr} {od33 an33 : Option Addr} {sl33 : Array (Option Value)} {oc33 kV33 dc33 pm33 cd33 ct33 : Value}
    {f34 : Addr} {od34 an34 : Option Addr} {sl34 : Array (Option Value)} {oc34 kV34 dc34 pm34 cd34 ct34 : Value}
    {f35 : Addr} {od35 an35 : Option Addr} {sl35 : Array (Option Value)} {oc35 kV35 dc35 pm35 cd35 ct35 : Value}
    {f36 : Addr} {od36 an36 : Option Addr} {sl36 : Array (Option Value)} {oc36 kV36 dc36 pm36 cd36 ct36 : Value}
    {u0 : _}
    (z_abs : PySem.W.nsIn K mainGlobals "abs" = some none)
    (z_bool : PySem.W.nsIn K mainGlobals "bool" = some none)
    (z_dict : PySem.W.nsIn K mainGlobals "dict" = some none)
    (z_enumerate : PySem.W.nsIn K mainGlobals "enumerate" = some none)
    (z_int : PySem.W.nsIn K mainGlobals "int" = some none)
    (z_isinstance : PySem.W.nsIn K mainGlobals "isinstance" = some none)
    (z_len : PySem.W.nsIn K mainGlobals "len" = some none)
    (z_list : PySem.W.nsIn K mainGlobals "list" = some none)
    (z_max : PySem.W.nsIn K mainGlobals "max" = some none)
    (z_range : PySem.W.nsIn K mainGlobals "range" = some none)
    (z_sorted : PySem.W.nsIn K mainGlobals "sorted" = some none)
    (z_str : PySem.W.nsIn K mainGlobals "str" = some none)
    (z_sum : PySem.W.nsIn K mainGlobals "sum" = some none)
    (z_tuple : PySem.W.nsIn K mainGlobals "tuple" = some none)
    (z_zip : PySem.W.nsIn K mainGlobals "zip" = some none)
    (a0 : PySem.W.nsIn K mainGlobals "whole_rooms" = some (some (.ref f0))) (l0 : K.lookup f0 = some ⟨oc0, od0, .func (PySem.W.fnOf "whole_rooms" "whole_rooms" (defArgs s_whole_rooms) (defBody s_whole_rooms) (defScope s_whole_rooms) .none kV0 dc0 pm0 an0 cd0 ct0), sl0⟩) (c0 : PySem.W.codeIn K cd0 "whole_rooms" = true) (k0 : PySem.W.keepIn K (.ref f0) = true)
    (a1 : PySem.W.nsIn K mainGlobals "turn" = some (some (.ref f1))) (l1 : K.lookup f1 = some ⟨oc1, od1, .func (PySem.W.fnOf "turn" "turn" (defArgs s_turn) (defBody s_turn) (defScope s_turn) .none kV1 dc1 pm1 an1 cd1 ct1), sl1⟩) (c1 : PySem.W.codeIn K cd1 "turn" = true) (k1 : PySem.W.keepIn K (.ref f1) = true)
    (a2 : PySem.W.nsIn K mainGlobals "room_of" = some (some (.ref f2))) (l2 : K.lookup f2 = some ⟨oc2, od2, .func (PySem.W.fnOf "room_of" "room_of" (defArgs s_room_of) (defBody s_room_of) (defScope s_room_of) .none kV2 dc2 pm2 an2 cd2 ct2), sl2⟩) (c2 : PySem.W.codeIn K cd2 "room_of" = true) (k2 : PySem.W.keepIn K (.ref f2) = true)
    (a3 : PySem.W.nsIn K mainGlobals "split_of" = some (some (.ref f3))) (l3 : K.lookup f3 = some ⟨oc3, od3, .func (PySem.W.fnOf "split_of" "split_of" (defArgs s_split_of) (defBody s_split_of) (defScope s_split_of) .none kV3 dc3 pm3 an3 cd3 ct3), sl3⟩) (c3 : PySem.W.codeIn K cd3 "split_of" = true) (k3 : PySem.W.keepIn K (.ref f3) = true)
    (a4 : PySem.W.nsIn K mainGlobals "is_whole" = some (some (.ref f4))) (l4 : K.lookup f4 = some ⟨oc4, od4, .func (PySem.W.fnOf "is_whole" "is_whole" (defArgs s_is_whole) (defBody s_is_whole) (defScope s_is_whole) .none kV4 dc4 pm4 an4 cd4 ct4), sl4⟩) (c4 : PySem.W.codeIn K cd4 "is_whole" = true) (k4 : PySem.W.keepIn K (.ref f4) = true)
    (a5 : PySem.W.nsIn K mainGlobals "rows_for" = some (some (.ref f5))) (l5 : K.lookup f5 = some ⟨oc5, od5, .func (PySem.W.fnOf "rows_for" "rows_for" (defArgs s_rows_for) (defBody s_rows_for) (defScope s_rows_for) .none kV5 dc5 pm5 an5 cd5 ct5), sl5⟩) (c5 : PySem.W.codeIn K cd5 "rows_for" = true) (k5 : PySem.W.keepIn K (.ref f5) = true)
    (a6 : PySem.W.nsIn K mainGlobals "rows_of" = some (some (.ref f6))) (l6 : K.lookup f6 = some ⟨oc6, od6, .func (PySem.W.fnOf "rows_of" "rows_of" (defArgs s_rows_of) (defBody s_rows_of) (defScope s_rows_of) .none kV6 dc6 pm6 an6 cd6 ct6), sl6⟩) (c6 : PySem.W.codeIn K cd6 "rows_of" = true) (k6 : PySem.W.keepIn K (.ref f6) = true)
    (a7 : PySem.W.nsIn K mainGlobals "looked" = some (some (.ref f7))) (l7 : K.lookup f7 = some ⟨oc7, od7, .func (PySem.W.fnOf "looked" "looked" (defArgs s_looked) (defBody s_looked) (defScope s_looked) .none kV7 dc7 pm7 an7 cd7 ct7), sl7⟩) (c7 : PySem.W.codeIn K cd7 "looked" = true) (k7 : PySem.W.keepIn K (.ref f7) = true)
    (a8 : PySem.W.nsIn K mainGlobals "book_of" = some (some (.ref f8))) (l8 : K.lookup f8 = some ⟨oc8, od8, .func (PySem.W.fnOf "book_of" "book_of" (defArgs s_book_of) (defBody s_book_of) (defScope s_book_of) .none kV8 dc8 pm8 an8 cd8 ct8), sl8⟩) (c8 : PySem.W.codeIn K cd8 "book_of" = true) (k8 : PySem.W.keepIn K (.ref f8) = true)
    (a9 : PySem.W.nsIn K mainGlobals "is_split" = some (some (.ref f9))) (l9 : K.lookup f9 = some ⟨oc9, od9, .func (PySem.W.fnOf "is_split" "is_split" (defArgs s_is_split) (defBody s_is_split) (defScope s_is_split) .none kV9 dc9 pm9 an9 cd9 ct9), sl9⟩) (c9 : PySem.W.codeIn K cd9 "is_split" = true) (k9 : PySem.W.keepIn K (.ref f9) = true)
    (a10 : PySem.W.nsIn K mainGlobals "is_book" = some (some (.ref f10))) (l10 : K.lookup f10 = some ⟨oc10, od10, .func (PySem.W.fnOf "is_book" "is_book" (defArgs s_is_book) (defBody s_is_book) (defScope s_is_book) .none kV10 dc10 pm10 an10 cd10 ct10), sl10⟩) (c10 : PySem.W.codeIn K cd10 "is_book" = true) (k10 : PySem.W.keepIn K (.ref f10) = true)
    (a11 : PySem.W.nsIn K mainGlobals "counts_by" = some (some (.ref f11))) (l11 : K.lookup f11 = some ⟨oc11, od11, .func (PySem.W.fnOf "counts_by" "counts_by" (defArgs s_counts_by) (defBody s_counts_by) (defScope s_counts_by) .none kV11 dc11 pm11 an11 cd11 ct11), sl11⟩) (c11 : PySem.W.codeIn K cd11 "counts_by" = true) (k11 : PySem.W.keepIn K (.ref f11) = true)
    (a12 : PySem.W.nsIn K mainGlobals "spills_by" = some (some (.ref f12))) (l12 : K.lookup f12 = some ⟨oc12, od12, .func (PySem.W.fnOf "spills_by" "spills_by" (defArgs s_spills_by) (defBody s_spills_by) (defScope s_spills_by) .none kV12 dc12 pm12 an12 cd12 ct12), sl12⟩) (c12 : PySem.W.codeIn K cd12 "spills_by" = true) (k12 : PySem.W.keepIn K (.ref f12) = true)
    (a13 : PySem.W.nsIn K mainGlobals "least_rooms" = some (some (.ref f13))) (l13 : K.lookup f13 = some ⟨oc13, od13, .func (PySem.W.fnOf "least_rooms" "least_rooms" (defArgs s_least_rooms) (defBody s_least_rooms) (defScope s_least_rooms) .none kV13 dc13 pm13 an13 cd13 ct13), sl13⟩) (c13 : PySem.W.codeIn K cd13 "least_rooms" = true) (k13 : PySem.W.keepIn K (.ref f13) = true)
    (a14 : PySem.W.nsIn K mainGlobals "spread" = some (some (.ref f14))) (l14 : K.lookup f14 = some ⟨oc14, od14, .func (PySem.W.fnOf "spread" "spread" (defArgs s_spread) (defBody s_spread) (defScope s_spread) .none kV14 dc14 pm14 an14 cd14 ct14), sl14⟩) (c14 : PySem.W.codeIn K cd14 "spread" = true) (k14 : PySem.W.keepIn K (.ref f14) = true)
    (a15 : PySem.W.nsIn K mainGlobals "counts" = some (some (.ref f15))) (l15 : K.lookup f15 = some ⟨oc15, od15, .func (PySem.W.fnOf "counts" "counts" (defArgs s_counts) (defBody s_counts) (defScope s_counts) .none kV15 dc15 pm15 an15 cd15 ct15), sl15⟩) (c15 : PySem.W.codeIn K cd15 "counts" = true) (k15 : PySem.W.keepIn K (.ref f15) = true)
    (a16 : PySem.W.nsIn K mainGlobals "spill" = some (some (.ref f16))) (l16 : K.lookup f16 = some ⟨oc16, od16, .func (PySem.W.fnOf "spill" "spill" (defArgs s_spill) (defBody s_spill) (defScope s_spill) .none kV16 dc16 pm16 an16 cd16 ct16), sl16⟩) (c16 : PySem.W.codeIn K cd16 "spill" = true) (k16 : PySem.W.keepIn K (.ref f16) = true)
    (a17 : PySem.W.nsIn K mainGlobals "longest" = some (some (.ref f17))) (l17 : K.lookup f17 = some ⟨oc17, od17, .func (PySem.W.fnOf "longest" "longest" (defArgs s_longest) (defBody s_longest) (defScope s_longest) .none kV17 dc17 pm17 an17 cd17 ct17), sl17⟩) (c17 : PySem.W.codeIn K cd17 "longest" = true) (k17 : PySem.W.keepIn K (.ref f17) = true)
    (a18 : PySem.W.nsIn K mainGlobals "all_looks" = some (some (.ref f18))) (l18 : K.lookup f18 = some ⟨oc18, od18, .func (PySem.W.fnOf "all_looks" "all_looks" (defArgs s_all_looks) (defBody s_all_looks) (defScope s_all_looks) .none kV18 dc18 pm18 an18 cd18 ct18), sl18⟩) (c18 : PySem.W.codeIn K cd18 "all_looks" = true) (k18 : PySem.W.keepIn K (.ref f18) = true)
    (a19 : PySem.W.nsIn K mainGlobals "parted" = some (some (.ref f19))) (l19 : K.lookup f19 = some ⟨oc19, od19, .func (PySem.W.fnOf "parted" "parted" (defArgs s_parted) (defBody s_parted) (defScope s_parted) .none kV19 dc19 pm19 an19 cd19 ct19), sl19⟩) (c19 : PySem.W.codeIn K cd19 "parted" = true) (k19 : PySem.W.keepIn K (.ref f19) = true)
    (a20 : PySem.W.nsIn K mainGlobals "_law_bag" = some (some (.ref f20))) (l20 : K.lookup f20 = some ⟨oc20, od20, .func (PySem.W.fnOf "_law_bag" "_law_bag" (defArgs s_law_bag) (defBody s_law_bag) (defScope s_law_bag) .none kV20 dc20 pm20 an20 cd20 ct20), sl20⟩) (c20 : PySem.W.codeIn K cd20 "_law_bag" = true) (k20 : PySem.W.keepIn K (.ref f20) = true)
    (a21 : PySem.W.nsIn K mainGlobals "_law_take" = some (some (.ref f21))) (l21 : K.lookup f21 = some ⟨oc21, od21, .func (PySem.W.fnOf "_law_take" "_law_take" (defArgs s_law_take) (defBody s_law_take) (defScope s_law_take) .none kV21 dc21 pm21 an21 cd21 ct21), sl21⟩) (c21 : PySem.W.codeIn K cd21 "_law_take" = true) (k21 : PySem.W.keepIn K (.ref f21) = true)
    (a22 : PySem.W.nsIn K mainGlobals "_law_some" = some (some (.ref f22))) (l22 : K.lookup f22 = some ⟨oc22, od22, .func (PySem.W.fnOf "_law_some" "_law_some" (defArgs s_law_some) (defBody s_law_some) (defScope s_law_some) .none kV22 dc22 pm22 an22 cd22 ct22), sl22⟩) (c22 : PySem.W.codeIn K cd22 "_law_some" = true) (k22 : PySem.W.keepIn K (.ref f22) = true)
    (a23 : PySem.W.nsIn K mainGlobals "_law_mixed" = some (some (.ref f23))) (l23 : K.lookup f23 = some ⟨oc23, od23, .func (PySem.W.fnOf "_law_mixed" "_law_mixed" (defArgs s_law_mixed) (defBody s_law_mixed) (defScope s_law_mixed) .none kV23 dc23 pm23 an23 cd23 ct23), sl23⟩) (c23 : PySem.W.codeIn K cd23 "_law_mixed" = true) (k23 : PySem.W.keepIn K (.ref f23) = true)
    (a24 : PySem.W.nsIn K mainGlobals "_law_kind" = some (some (.ref f24))) (l24 : K.lookup f24 = some ⟨oc24, od24, .func (PySem.W.fnOf "_law_kind" "_law_kind" (defArgs s_law_kind) (defBody s_law_kind) (defScope s_law_kind) .none kV24 dc24 pm24 an24 cd24 ct24), sl24⟩) (c24 : PySem.W.codeIn K cd24 "_law_kind" = true) (k24 : PySem.W.keepIn K (.ref f24) = true)
    (a25 : PySem.W.nsIn K mainGlobals "_law_alike" = some (some (.ref f25))) (l25 : K.lookup f25 = some ⟨oc25, od25, .func (PySem.W.fnOf "_law_alike" "_law_alike" (defArgs s_law_alike) (defBody s_law_alike) (defScope s_law_alike) .none kV25 dc25 pm25 an25 cd25 ct25), sl25⟩) (c25 : PySem.W.codeIn K cd25 "_law_alike" = true) (k25 : PySem.W.keepIn K (.ref f25) = true)
    (a26 : PySem.W.nsIn K mainGlobals "_law_power" = some (some (.ref f26))) (l26 : K.lookup f26 = some ⟨oc26, od26, .func (PySem.W.fnOf "_law_power" "_law_power" (defArgs s_law_power) (defBody s_law_power) (defScope s_law_power) .none kV26 dc26 pm26 an26 cd26 ct26), sl26⟩) (c26 : PySem.W.codeIn K cd26 "_law_power" = true) (k26 : PySem.W.keepIn K (.ref f26) = true)
    (a27 : PySem.W.nsIn K mainGlobals "_law_by" = some (some (.ref f27))) (l27 : K.lookup f27 = some ⟨oc27, od27, .func (PySem.W.fnOf "_law_by" "_law_by" (defArgs s_law_by) (defBody s_law_by) (defScope s_law_by) .none kV27 dc27 pm27 an27 cd27 ct27), sl27⟩) (c27 : PySem.W.codeIn K cd27 "_law_by" = true) (k27 : PySem.W.keepIn K (.ref f27) = true)
    (a28 : PySem.W.nsIn K mainGlobals "_law_of" = some (some (.ref f28))) (l28 : K.lookup f28 = some ⟨oc28, od28, .func (PySem.W.fnOf "_law_of" "_law_of" (defArgs s_law_of) (defBody s_law_of) (defScope s_law_of) .none kV28 dc28 pm28 an28 cd28 ct28), sl28⟩) (c28 : PySem.W.codeIn K cd28 "_law_of" = true) (k28 : PySem.W.keepIn K (.ref f28) = true)
    (a29 : PySem.W.nsIn K mainGlobals "_law_more_rows" = some (some (.ref f29))) (l29 : K.lookup f29 = some ⟨oc29, od29, .func (PySem.W.fnOf "_law_more_rows" "_law_more_rows" (defArgs s_law_more_rows) (defBody s_law_more_rows) (defScope s_law_more_rows) .none kV29 dc29 pm29 an29 cd29 ct29), sl29⟩) (c29 : PySem.W.codeIn K cd29 "_law_more_rows" = true) (k29 : PySem.W.keepIn K (.ref f29) = true)
    (a30 : PySem.W.nsIn K mainGlobals "_law_spill" = some (some (.ref f30))) (l30 : K.lookup f30 = some ⟨oc30, od30, .func (PySem.W.fnOf "_law_spill" "_law_spill" (defArgs s_law_spill) (defBody s_law_spill) (defScope s_law_spill) .none kV30 dc30 pm30 an30 cd30 ct30), sl30⟩) (c30 : PySem.W.codeIn K cd30 "_law_spill" = true) (k30 : PySem.W.keepIn K (.ref f30) = true)
    (a31 : PySem.W.nsIn K mainGlobals "_law_drawn_keys" = some (some (.ref f31))) (l31 : K.lookup f31 = some ⟨oc31, od31, .func (PySem.W.fnOf "_law_drawn_keys" "_law_drawn_keys" (defArgs s_law_drawn_keys) (defBody s_law_drawn_keys) (defScope s_law_drawn_keys) .none kV31 dc31 pm31 an31 cd31 ct31), sl31⟩) (c31 : PySem.W.codeIn K cd31 "_law_drawn_keys" = true) (k31 : PySem.W.keepIn K (.ref f31) = true)
    (a32 : PySem.W.nsIn K mainGlobals "_law_looks_of" = some (some (.ref f32))) (l32 : K.lookup f32 = some ⟨oc32, od32, .func (PySem.W.fnOf "_law_looks_of" "_law_looks_of" (defArgs s_law_looks_of) (defBody s_law_looks_of) (defScope s_law_looks_of) .none kV32 dc32 pm32 an32 cd32 ct32), sl32⟩) (c32 : PySem.W.codeIn K cd32 "_law_looks_of" = true) (k32 : PySem.W.keepIn K (.ref f32) = true)
    (a33 : PySem.W.nsIn K mainGlobals "_law_fall_right" = some (some (.ref f33))) (l33 : K.lookup f33 = some ⟨oc33, od33, .func (PySem.W.fnOf "_law_fall_right" "_law_fall_right" (defArgs s_law_fall_right) (defBody s_law_fall_right) (defScope s_law_fall_right) .none kV33 dc33 pm33 an33 cd33 ct33), sl33⟩) (c33 : PySem.W.codeIn K cd33 "_law_fall_right" = true) (k33 : PySem.W.keepIn K (.ref f33) = true)
    (a34 : PySem.W.nsIn K mainGlobals "_law_book_right" = some (some (.ref f34))) (l34 : K.lookup f34 = some ⟨oc34, od34, .func (PySem.W.fnOf "_law_book_right" "_law_book_right" (defArgs s_law_book_right) (defBody s_law_book_right) (defScope s_law_book_right) .none kV34 dc34 pm34 an34 cd34 ct34), sl34⟩) (c34 : PySem.W.codeIn K cd34 "_law_book_right" = true) (k34 : PySem.W.keepIn K (.ref f34) = true)
    (a35 : PySem.W.nsIn K mainGlobals "_law_parted_right" = some (some (.ref f35))) (l35 : K.lookup f35 = some ⟨oc35, od35, .func (PySem.W.fnOf "_law_parted_right" "_law_parted_right" (defArgs s_law_parted_right) (defBody s_law_parted_right) (defScope s_law_parted_right) .none kV35 dc35 pm35 an35 cd35 ct35), sl35⟩) (c35 : PySem.W.codeIn K cd35 "_law_parted_right" = true) (k35 : PySem.W.keepIn K (.ref f35) = true)
    (a36 : PySem.W.nsIn K mainGlobals "law" = some (some (.ref f36))) (l36 : K.lookup f36 = some ⟨oc36, od36, .func (PySem.W.fnOf "law" "law" (defArgs s_law) (defBody s_law) (defScope s_law) .none kV36 dc36 pm36 an36 cd36 ct36), sl36⟩) (c36 : PySem.W.codeIn K cd36 "law" = true) (k36 : PySem.W.keepIn K (.ref f36) = true)
    (q0 : PySem.W.nsIn K mainGlobals "MOST_SPLITS" = some (some (.int 129 u0))) :
    ∃ fd : FuncData, (∀ (s : Shared) (v : Value), BindsTo s fd ⟨[v], []⟩ [("script", v)]) ∧ ∀ base : Heap, K.In base → base.Ns mainGlobals mg → FnOk l.prog w K mg base CX0 6 fa fd ["script"] (spLaw K) := by
  have T : Txt K mg := ⟨PySem.W.mg_none_of X G z_abs,
    PySem.W.mg_none_of X G z_bool,
    PySem.W.mg_none_of X G z_dict,
    PySem.W.mg_none_of X G z_enumerate,
    PySem.W.mg_none_of X G z_int,
    PySem.W.mg_none_of X G z_isinstance,
    PySem.W.mg_none_of X G z_len,
    PySem.W.mg_none_of X G z_list,
    PySem.W.mg_none_of X G z_max,
    PySem.W.mg_none_of X G z_range,
    PySem.W.mg_none_of X G z_sorted,
    PySem.W.mg_none_of X G z_str,
    PySem.W.mg_none_of X G z_sum,
    PySem.W.mg_none_of X G z_tuple,
    PySem.W.mg_none_of X G z_zip,
    DefAt.of X G a0 l0 c0 k0 (fun _ _ _ _ _ _ us hl => match us, hl with | [_], _ => rfl),
    DefAt.of X G a1 l1 c1 k1 (fun _ _ _ _ _ _ us hl => match us, hl with | [_], _ => rfl),
    DefAt.of X G a2 l2 c2 k2 (fun _ _ _ _ _ _ us hl => match us, hl with | [_, _], _ => rfl),
    DefAt.of X G a3 l3 c3 k3 (fun _ _ _ _ _ _ us hl => match us, hl with | [_], _ => rfl),
    DefAt.of X G a4 l4 c4 k4 (fun _ _ _ _ _ _ us hl => match us, hl with | [_], _ => rfl),
    DefAt.of X G a5 l5 c5 k5 (fun _ _ _ _ _ _ us hl => match us, hl with | [_, _], _ => rfl),
    DefAt.of X G a6 l6 c6 k6 (fun _ _ _ _ _ _ us hl => match us, hl with | [_, _], _ => rfl),
    DefAt.of X G a7 l7 c7 k7 (fun _ _ _ _ _ _ us hl => match us, hl with | [_, _], _ => rfl),
    DefAt.of X G a8 l8 c8 k8 (fun _ _ _ _ _ _ us hl => match us, hl with | [_, _], _ => rfl),
    DefAt.of X G a9 l9 c9 k9 (fun _ _ _ _ _ _ us hl => match us, hl with | [_], _ => rfl),
    DefAt.of X G a10 l10 c10 k10 (fun _ _ _ _ _ _ us hl => match us, hl with | [_, _], _ => rfl),
    DefAt.of X G a11 l11 c11 k11 (fun _ _ _ _ _ _ us hl => match us, hl with | [_, _, _], _ => rfl),
    DefAt.of X G a12 l12 c12 k12 (fun _ _ _ _ _ _ us hl => match us, hl with | [_, _, _], _ => rfl),
    DefAt.of X G a13 l13 c13 k13 (fun _ _ _ _ _ _ us hl => match us, hl with | [_, _, _, _], _ => rfl),
    DefAt.of X G a14 l14 c14 k14 (fun _ _ _ _ _ _ us hl => match us, hl with | [_, _], _ => rfl),
    DefAt.of X G a15 l15 c15 k15 (fun _ _ _ _ _ _ us hl => match us, hl with | [_, _], _ => rfl),
    DefAt.of X G a16 l16 c16 k16 (fun _ _ _ _ _ _ us hl => match us, hl with | [_, _], _ => rfl),
    DefAt.of X G a17 l17 c17 k17 (fun _ _ _ _ _ _ us hl => match us, hl with | [_, _], _ => rfl),
    DefAt.of X G a18 l18 c18 k18 (fun _ _ _ _ _ _ us hl => match us, hl with | [_, _, _], _ => rfl),
    DefAt.of X G a19 l19 c19 k19 (fun _ _ _ _ _ _ us hl => match us, hl with | [_, _], _ => rfl),
    DefAt.of X G a20 l20 c20 k20 (fun _ _ _ _ _ _ us hl => match us, hl with | [_], _ => rfl),
    DefAt.of X G a21 l21 c21 k21 (fun _ _ _ _ _ _ us hl => match us, hl with | [_, _], _ => rfl),
    DefAt.of X G a22 l22 c22 k22 (fun _ _ _ _ _ _ us hl => match us, hl with | [_, _], _ => rfl),
    DefAt.of X G a23 l23 c23 k23 (fun _ _ _ _ _ _ us hl => match us, hl with | [_, _], _ => rfl),
    DefAt.of X G a24 l24 c24 k24 (fun _ _ _ _ _ _ us hl => match us, hl with | [_], _ => rfl),
    DefAt.of X G a25 l25 c25 k25 (fun _ _ _ _ _ _ us hl => match us, hl with | [_, _], _ => rfl),
    DefAt.of X G a26 l26 c26 k26 (fun _ _ _ _ _ _ us hl => match us, hl with | [_], _ => rfl),
    DefAt.of X G a27 l27 c27 k27 (fun _ _ _ _ _ _ us hl => match us, hl with | [_, _], _ => rfl),
    DefAt.of X G a28 l28 c28 k28 (fun _ _ _ _ _ _ us hl => match us, hl with | [_, _, _], _ => rfl),
    DefAt.of X G a29 l29 c29 k29 (fun _ _ _ _ _ _ us hl => match us, hl with | [_, _], _ => rfl),
    DefAt.of X G a30 l30 c30 k30 (fun _ _ _ _ _ _ us hl => match us, hl with | [_, _], _ => rfl),
    DefAt.of X G a31 l31 c31 k31 (fun _ _ _ _ _ _ us hl => match us, hl with | [_, _], _ => rfl),
    DefAt.of X G a32 l32 c32 k32 (fun _ _ _ _ _ _ us hl => match us, hl with | [_, _, _], _ => rfl),
    DefAt.of X G a33 l33 c33 k33 (fun _ _ _ _ _ _ us hl => match us, hl with | [_, _, _], _ => rfl),
    DefAt.of X G a34 l34 c34 k34 (fun _ _ _ _ _ _ us hl => match us, hl with | [_, _, _, _], _ => rfl),
    DefAt.of X G a35 l35 c35 k35 (fun _ _ _ _ _ _ us hl => match us, hl with | [_, _], _ => rfl),
    DefAt.of X G a36 l36 c36 k36 (fun _ _ _ _ _ _ us hl => match us, hl with | [_], _ => rfl),
    ⟨_, PySem.W.mg_of X G q0⟩⟩
  exact law_end X G hfa a36 l36 c36 k36 (fun s v => .of_eq rfl) fun base => okf_law T
end K30
open PySem PySem.W PyProof.Rows
set_option maxHeartbeats 0 in
theorem PySem.Challenge.cw_tailrooms_k30_whole_spill_that_falls_one_holds : PySem.Challenge.rw_tailrooms_k30_whole_spill_that_falls_one.Holds := by
  w_on; o_law; k_head; (case hw => w_witness2)
  k_fill
  refine L2.walk_of (l := PySem.Challenge.rw_tailrooms_k30_whole_spill_that_falls_one) (n := 63) (k := 6) (x := "script") (CX := fun _ => L2.CX0) (sp := fun w => DL.spLaw _) rfl (by decide) rfl ⟨rfl, by decide, by decide⟩ (fun w h Y => PySem.W.kIn_of Y) ?F (fun _ _ a ns hl _ hS => ⟨a, ns, rfl, hS, hl, fun _ => rfl⟩) (fun _ _ _ _ _ h => h)
  case F =>
    intro w mg fa h KX G hmg
    refine' K30.all_mk KX G hmg ?z_abs ?z_bool ?z_dict ?z_enumerate ?z_int ?z_isinstance ?z_len ?z_list ?z_max ?z_range ?z_sorted ?z_str ?z_sum ?z_tuple ?z_zip ?a0 ?l0 ?c0 ?k0 ?a1 ?l1 ?c1 ?k1 ?a2 ?l2 ?c2 ?k2 ?a3 ?l3 ?c3 ?k3 ?a4 ?l4 ?c4 ?k4 ?a5 ?l5 ?c5 ?k5 ?a6 ?l6 ?c6 ?k6 ?a7 ?l7 ?c7 ?k7 ?a8 ?l8 ?c8 ?k8 ?a9 ?l9 ?c9 ?k9 ?a10 ?l10 ?c10 ?k10 ?a11 ?l11 ?c11 ?k11 ?a12 ?l12 ?c12 ?k12 ?a13 ?l13 ?c13 ?k13 ?a14 ?l14 ?c14 ?k14 ?a15 ?l15 ?c15 ?k15 ?a16 ?l16 ?c16 ?k16 ?a17 ?l17 ?c17 ?k17 ?a18 ?l18 ?c18 ?k18 ?a19 ?l19 ?c19 ?k19 ?a20 ?l20 ?c20 ?k20 ?a21 ?l21 ?c21 ?k21 ?a22 ?l22 ?c22 ?k22 ?a23 ?l23 ?c23 ?k23 ?a24 ?l24 ?c24 ?k24 ?a25 ?l25 ?c25 ?k25 ?a26 ?l26 ?c26 ?k26 ?a27 ?l27 ?c27 ?k27 ?a28 ?l28 ?c28 ?k28 ?a29 ?l29 ?c29 ?k29 ?a30 ?l30 ?c30 ?k30 ?a31 ?l31 ?c31 ?k31 ?a32 ?l32 ?c32 ?k32 ?a33 ?l33 ?c33 ?k33 ?a34 ?l34 ?c34 ?k34 ?a35 ?l35 ?c35 ?k35 ?a36 ?l36 ?c36 ?k36 ?q0
    (case z_abs => k_is)
    (case z_bool => k_is)
    (case z_dict => k_is)
    (case z_enumerate => k_is)
    (case z_int => k_is)
    (case z_isinstance => k_is)
    (case z_len => k_is)
    (case z_list => k_is)
    (case z_max => k_is)
    (case z_range => k_is)
    (case z_sorted => k_is)
    (case z_str => k_is)
    (case z_sum => k_is)
    (case z_tuple => k_is)
    (case z_zip => k_is)
    (case a0 => k_is)
    (case l0 => k_is)
    (case c0 => k_is)
    (case k0 => k_is)
    (case a1 => k_is)
    (case l1 => k_is)
    (case c1 => k_is)
    (case k1 => k_is)
    (case a2 => k_is)
    (case l2 => k_is)
    (case c2 => k_is)
    (case k2 => k_is)
    (case a3 => k_is)
    (case l3 => k_is)
    (case c3 => k_is)
    (case k3 => k_is)
    (case a4 => k_is)
    (case l4 => k_is)
    (case c4 => k_is)
    (case k4 => k_is)
    (case a5 => k_is)
    (case l5 => k_is)
    (case c5 => k_is)
    (case k5 => k_is)
    (case a6 => k_is)
    (case l6 => k_is)
    (case c6 => k_is)
    (case k6 => k_is)
    (case a7 => k_is)
    (case l7 => k_is)
    (case c7 => k_is)
    (case k7 => k_is)
    (case a8 => k_is)
    (case l8 => k_is)
    (case c8 => k_is)
    (case k8 => k_is)
    (case a9 => k_is)
    (case l9 => k_is)
    (case c9 => k_is)
    (case k9 => k_is)
    (case a10 => k_is)
    (case l10 => k_is)
    (case c10 => k_is)
    (case k10 => k_is)
    (case a11 => k_is)
    (case l11 => k_is)
    (case c11 => k_is)
    (case k11 => k_is)
    (case a12 => k_is)
    (case l12 => k_is)
    (case c12 => k_is)
    (case k12 => k_is)
    (case a13 => k_is)
    (case l13 => k_is)
    (case c13 => k_is)
    (case k13 => k_is)
    (case a14 => k_is)
    (case l14 => k_is)
    (case c14 => k_is)
    (case k14 => k_is)
    (case a15 => k_is)
    (case l15 => k_is)
    (case c15 => k_is)
    (case k15 => k_is)
    (case a16 => k_is)
    (case l16 => k_is)
    (case c16 => k_is)
    (case k16 => k_is)
    (case a17 => k_is)
    (case l17 => k_is)
    (case c17 => k_is)
    (case k17 => k_is)
    (case a18 => k_is)
    (case l18 => k_is)
    (case c18 => k_is)
    (case k18 => k_is)
    (case a19 => k_is)
    (case l19 => k_is)
    (case c19 => k_is)
    (case k19 => k_is)
    (case a20 => k_is)
    (case l20 => k_is)
    (case c20 => k_is)
    (case k20 => k_is)
    (case a21 => k_is)
    (case l21 => k_is)
    (case c21 => k_is)
    (case k21 => k_is)
    (case a22 => k_is)
    (case l22 => k_is)
    (case c22 => k_is)
    (case k22 => k_is)
    (case a23 => k_is)
    (case l23 => k_is)
    (case c23 => k_is)
    (case k23 => k_is)
    (case a24 => k_is)
    (case l24 => k_is)
    (case c24 => k_is)
    (case k24 => k_is)
    (case a25 => k_is)
    (case l25 => k_is)
    (case c25 => k_is)
    (case k25 => k_is)
    (case a26 => k_is)
    (case l26 => k_is)
    (case c26 => k_is)
    (case k26 => k_is)
    (case a27 => k_is)
    (case l27 => k_is)
    (case c27 => k_is)
    (case k27 => k_is)
    (case a28 => k_is)
    (case l28 => k_is)
    (case c28 => k_is)
    (case k28 => k_is)
    (case a29 => k_is)
    (case l29 => k_is)
    (case c29 => k_is)
    (case k29 => k_is)
    (case a30 => k_is)
    (case l30 => k_is)
    (case c30 => k_is)
    (case k30 => k_is)
    (case a31 => k_is)
    (case l31 => k_is)
    (case c31 => k_is)
    (case k31 => k_is)
    (case a32 => k_is)
    (case l32 => k_is)
    (case c32 => k_is)
    (case k32 => k_is)
    (case a33 => k_is)
    (case l33 => k_is)
    (case c33 => k_is)
    (case k33 => k_is)
    (case a34 => k_is)
    (case l34 => k_is)
    (case c34 => k_is)
    (case k34 => k_is)
    (case a35 => k_is)
    (case l35 => k_is)
    (case c35 => k_is)
    (case k35 => k_is)
    (case a36 => k_is)
    (case l36 => k_is)
    (case c36 => k_is)
    (case k36 => k_is)
    (case q0 => k_is)
