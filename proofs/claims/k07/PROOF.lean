import PyProof.Rows.All
import Wide.All
import OpenK.AllK
import Wide.FinOn
import HandS.ForMost
import HandS.Wide
import HandS.SortInts
import HandS.TupAny
import HandS.Zip
import HandS.Flow
import HandS.Style
import HandS.Text
import HandS.IsInst
import HandS.TupLe
import HandS.Iter
import HandS.SortRule
import HandS.Conv
import HandS.ListItems
import KE.GoesMore
import KE.KDictZip
import PySem.Challenge.RW_tailrooms_k07_whole_rooms_with_as_many_k
set_option Elab.async false
set_option linter.all false
set_option maxRecDepth 100000
namespace DL
open PySem PySem.Spec L2
open PyProof.Rows hiding St

abbrev D := PyData

mutual
inductive Rep (I : Hp) : V → D → Prop
  | non : Rep I .non .none
  | bl (b : Bool) : Rep I (.bl b) (.bool b)
  | int (i : Int) : Rep I (.int i) (.int i)
  | str (x : Str) : Rep I (.str x) (.str x)
  | lst {a : Addr} {vs : List V} {ds : List D} : I a = some (.lst vs) → RepL I vs ds → Rep I (.ref a) (.list ds)
  | tup {a : Addr} {vs : List V} {ds : List D} : I a = some (.tup vs) → RepL I vs ds → Rep I (.ref a) (.tuple ds)
inductive RepL (I : Hp) : List V → List D → Prop
  | nil : RepL I [] []
  | cons {v : V} {vs : List V} {d : D} {ds : List D} : Rep I v d → RepL I vs ds → RepL I (v :: vs) (d :: ds)
end

def Sub (I I' : Hp) : Prop := ∀ a o, I a = some o → I' a = some o
theorem Sub.refl (I : Hp) : Sub I I := fun _ _ h => h
theorem Sub.trans {I J L : Hp} (a : Sub I J) (b : Sub J L) : Sub I L := fun x o h => b x o (a x o h)
theorem Sub.new {I : Hp} {p : Addr} {o : HO} (h : I p = none) : Sub I (upd I p o) := fun a u e => by
  rw [upd_ne (ne_of_none e h)]; exact e

mutual
theorem Rep.mono {I I' : Hp} (s : Sub I I') : ∀ {v : V} {d : D}, Rep I v d → Rep I' v d
  | _, _, .non => .non
  | _, _, .bl b => .bl b
  | _, _, .int i => .int i
  | _, _, .str x => .str x
  | _, _, .lst h r => .lst (s _ _ h) (RepL.mono s r)
  | _, _, .tup h r => .tup (s _ _ h) (RepL.mono s r)
theorem RepL.mono {I I' : Hp} (s : Sub I I') : ∀ {vs : List V} {ds : List D}, RepL I vs ds → RepL I' vs ds
  | _, _, .nil => .nil
  | _, _, .cons h r => .cons (Rep.mono s h) (RepL.mono s r)
end

section
variable {I : Hp}
theorem RepL.length : ∀ {vs : List V} {ds : List D}, RepL I vs ds → vs.length = ds.length
  | _, _, .nil => rfl
  | _, _, .cons _ r => by simp [RepL.length r]
theorem RepL.get : ∀ {vs : List V} {ds : List D} {i : Nat} {d : D}, RepL I vs ds → ds[i]? = some d → ∃ v, vs[i]? = some v ∧ Rep I v d
  | _, _, _, _, .nil, e => by simp at e
  | _, _, 0, _, .cons h _, e => by simp at e; subst e; exact ⟨_, rfl, h⟩
  | _, _, i + 1, d, .cons _ r, e => by
    obtain ⟨v, h1, h2⟩ := RepL.get (i := i) (d := d) r (by simpa using e)
    exact ⟨v, by simpa using h1, h2⟩
theorem RepL.getV : ∀ {vs : List V} {ds : List D} {i : Nat} {v : V}, RepL I vs ds → vs[i]? = some v → ∃ d, ds[i]? = some d ∧ Rep I v d
  | _, _, _, _, .nil, e => by simp at e
  | _, _, 0, _, .cons h _, e => by simp at e; subst e; exact ⟨_, rfl, h⟩
  | _, _, i + 1, v, .cons _ r, e => by
    obtain ⟨d, h1, h2⟩ := RepL.getV (i := i) (v := v) r (by simpa using e)
    exact ⟨d, by simpa using h1, h2⟩
theorem RepL.append : ∀ {vs ws : List V} {ds es : List D}, RepL I vs ds → RepL I ws es → RepL I (vs ++ ws) (ds ++ es)
  | _, _, _, _, .nil, s => s
  | _, _, _, _, .cons h r, s => .cons h (RepL.append r s)
theorem RepL.set {v : V} {d : D} (h : Rep I v d) : ∀ {vs : List V} {ds : List D} (i : Nat), RepL I vs ds → RepL I (vs.set i v) (ds.set i d)
  | _, _, _, .nil => .nil
  | _, _, 0, .cons _ r => .cons h r
  | _, _, i + 1, .cons q r => .cons q (RepL.set h i r)
theorem RepL.take : ∀ {vs : List V} {ds : List D} (n : Nat), RepL I vs ds → RepL I (vs.take n) (ds.take n)
  | _, _, 0, _ => .nil
  | _, _, _ + 1, .nil => .nil
  | _, _, n + 1, .cons h r => .cons h (RepL.take n r)
theorem RepL.drop : ∀ {vs : List V} {ds : List D} (n : Nat), RepL I vs ds → RepL I (vs.drop n) (ds.drop n)
  | _, _, 0, r => r
  | _, _, _ + 1, .nil => .nil
  | _, _, n + 1, .cons _ r => RepL.drop n r
theorem RepL.eraseIdx : ∀ {vs : List V} {ds : List D} (n : Nat), RepL I vs ds → RepL I (vs.eraseIdx n) (ds.eraseIdx n)
  | _, _, _, .nil => .nil
  | _, _, 0, .cons _ r => r
  | _, _, n + 1, .cons h r => .cons h (RepL.eraseIdx n r)
theorem RepL.reverse {vs : List V} {ds : List D} (h : RepL I vs ds) : RepL I vs.reverse ds.reverse := by
  induction vs generalizing ds with
  | nil => cases h; exact .nil
  | cons v vs ih =>
    cases h with
    | cons a r => rw [List.reverse_cons, List.reverse_cons]; exact (ih r).append (.cons a .nil)
theorem RepL.rep {vs : List V} {ds : List D} (h : RepL I vs ds) : ∀ n : Nat, RepL I (List.replicate n vs).flatten (List.replicate n ds).flatten
  | 0 => .nil
  | n + 1 => by
    rw [List.replicate_succ, List.replicate_succ, List.flatten_cons, List.flatten_cons]
    exact h.append (RepL.rep h n)
theorem RepL.ints : ∀ {ns : List Int} {vs : List V}, RepL I vs (ns.map PyData.int) → vs = ns.map V.int
  | [], _, .nil => rfl
  | _ :: _, _, .cons (.int _) r => by rw [RepL.ints r]; rfl
theorem RepL.bools : ∀ {ns : List Bool} {vs : List V}, RepL I vs (ns.map PyData.bool) → vs = ns.map V.bl
  | [], _, .nil => rfl
  | _ :: _, _, .cons (.bl _) r => by rw [RepL.bools r]; rfl
theorem RepL.strs : ∀ {ns : List Str} {vs : List V}, RepL I vs (ns.map PyData.str) → vs = ns.map V.str
  | [], _, .nil => rfl
  | _ :: _, _, .cons (.str _) r => by rw [RepL.strs r]; rfl
theorem RepL.ofInts : ∀ (ns : List Int), RepL I (ns.map V.int) (ns.map PyData.int)
  | [] => .nil
  | n :: ns => .cons (.int n) (RepL.ofInts ns)
theorem RepL.ofBools : ∀ (ns : List Bool), RepL I (ns.map V.bl) (ns.map PyData.bool)
  | [] => .nil
  | n :: ns => .cons (.bl n) (RepL.ofBools ns)
theorem RepL.ofStrs : ∀ (ns : List Str), RepL I (ns.map V.str) (ns.map PyData.str)
  | [] => .nil
  | n :: ns => .cons (.str n) (RepL.ofStrs ns)
mutual
theorem Rep.inj : ∀ {v : V} {d e : D}, Rep I v d → Rep I v e → d = e
  | _, _, _, .non, .non => rfl
  | _, _, _, .bl _, .bl _ => rfl
  | _, _, _, .int _, .int _ => rfl
  | _, _, _, .str _, .str _ => rfl
  | _, _, _, .lst h r, .lst h' r' => by rw [h] at h'; cases h'; rw [RepL.inj r r']
  | _, _, _, .lst h _, .tup h' _ => by rw [h] at h'; cases h'
  | _, _, _, .tup h _, .lst h' _ => by rw [h] at h'; cases h'
  | _, _, _, .tup h r, .tup h' r' => by rw [h] at h'; cases h'; rw [RepL.inj r r']
theorem RepL.inj : ∀ {vs : List V} {ds es : List D}, RepL I vs ds → RepL I vs es → ds = es
  | _, _, _, .nil, .nil => rfl
  | _, _, _, .cons a r, .cons b s => by rw [Rep.inj a b, RepL.inj r s]
end
mutual
theorem Rep.dp {K : PySem.W.Frag} {H : Hp} (s : Sub I H) : ∀ {v : V} {d : D}, Rep I v d → Dp K H v d
  | _, _, .non => .non
  | _, _, .bl b => .bl b
  | _, _, .int i => .int i
  | _, _, .str x => .str x
  | _, _, .lst h r => .lst (.of (s _ _ h)) (RepL.dp s r)
  | _, _, .tup h r => .tup (.of (s _ _ h)) (RepL.dp s r)
theorem RepL.dp {K : PySem.W.Frag} {H : Hp} (s : Sub I H) : ∀ {vs : List V} {ds : List D}, RepL I vs ds → DpAll K H vs ds
  | _, _, .nil => .nil
  | _, _, .cons h r => .cons (Rep.dp s h) (RepL.dp s r)
end
end

/-- the entries of a dict: keys by value, the values data -/
inductive RepK (I : Hp) : List (Key × V) → List (Key × D) → Prop
  | nil : RepK I [] []
  | cons {k : Key} {v : V} {vs : List (Key × V)} {d : D} {ds : List (Key × D)} : Rep I v d → RepK I vs ds → RepK I ((k, v) :: vs) ((k, d) :: ds)
theorem RepK.mono {I I' : Hp} (s : Sub I I') : ∀ {vs : List (Key × V)} {ds : List (Key × D)}, RepK I vs ds → RepK I' vs ds
  | _, _, .nil => .nil
  | _, _, .cons h r => .cons (Rep.mono s h) (RepK.mono s r)

/-- a thing that a slot alone holds, of any kind: by what is true of it -/
structure TP where
  holds : (Addr → Prop) → Hp → Hp → V → Prop
  frame : ∀ S S' I I' H H' v, (∀ a, S a → S' a) → Sub I I' → (∀ a, S a → H' a = H a) → holds S I H v → holds S' I' H' v

inductive Slot where
  /-- nothing known -/
  | un
  /-- data that is never changed again -/
  | fz (d : D)
  /-- a list of the slot's own -/
  | lst (ds : List D)
  /-- a dict of the slot's own -/
  | dct (kvs : List (Key × D))
  /-- any thing of the slot's own -/
  | ob (T : TP)

abbrev DEnv := List Slot
def DEnv.at (ρ : DEnv) (i : Nat) : Slot := ρ.getD i .un

def ValOk (S : Addr → Prop) (I H : Hp) (v : V) : Slot → Prop
  | .un => True
  | .fz d => Rep I v d
  | .lst ds => ∃ p vs, v = .ref p ∧ S p ∧ H p = some (.lst vs) ∧ RepL I vs ds
  | .dct kvs => ∃ p ws, v = .ref p ∧ S p ∧ H p = some (.dK ws) ∧ RepK I ws kvs
  | .ob T => T.holds S I H v
theorem ValOk.frame {S S' : Addr → Prop} {I I' H H' : Hp} {v : V} {s : Slot} (hS : ∀ a, S a → S' a) (hI : Sub I I') (hH : ∀ a, S a → H' a = H a) (h : ValOk S I H v s) : ValOk S' I' H' v s := by
  cases s with
  | un => trivial
  | fz d => exact Rep.mono hI h
  | lst ds =>
    obtain ⟨p, vs, e, hp, h1, h2⟩ := h
    exact ⟨p, vs, e, hS p hp, (hH p hp).trans h1, h2.mono hI⟩
  | dct kvs =>
    obtain ⟨p, ws, e, hp, h1, h2⟩ := h
    exact ⟨p, ws, e, hS p hp, (hH p hp).trans h1, h2.mono hI⟩
  | ob T => exact T.frame _ _ _ _ _ _ _ hS hI hH h

/-- where a def's run began: the data that it was handed, the heap, what it may change, the slots whose things belong to the caller -/
structure Fx where
  I0 : Hp
  H0 : Hp
  mu : Addr → Option Nat
  fix : Nat → Option V

structure Rel (F : Fx) (ρ : DEnv) (I : Hp) (own : Addr → Option Nat) (σ : St) (H : Hp) : Prop where
  sub : Sub I H
  frame : ∀ a o, F.H0 a = some o → F.mu a = none → H a = some o
  there : ∀ a, F.H0 a ≠ none → H a ≠ none
  imm : ∀ a, own a ≠ none → I a = none
  new : ∀ a i, own a = some i → F.H0 a = none ∨ F.mu a = some i
  live : ∀ a, own a ≠ none → H a ≠ none
  inew : ∀ a, I a ≠ none → F.H0 a = none ∨ F.I0 a ≠ none ∨ F.mu a ≠ none
  i0 : Sub F.I0 I
  fix : ∀ i v, F.fix i = some v → σ[i]? = some (some v)
  len : ρ.length ≤ σ.length
  slots : ∀ i, ρ.at i = .un ∨ ∃ v, σ[i]? = some (some v) ∧ ValOk (fun a => own a = some i) I H v (ρ.at i)

/-- a value that has come: data, or a new thing that nobody has yet -/
def ResOk (F : Fx) (I : Hp) (own : Addr → Option Nat) (H : Hp) (v : V) (s : Slot) : Prop :=
  ∃ S : Addr → Prop, (∀ a, S a → I a = none ∧ own a = none ∧ F.H0 a = none ∧ H a ≠ none) ∧ ValOk S I H v s
theorem ResOk.fz {F : Fx} {I : Hp} {own : Addr → Option Nat} {H : Hp} {v : V} {d : D} (h : Rep I v d) : ResOk F I own H v (.fz d) := ⟨fun _ => False, fun _ z => z.elim, h⟩
theorem ResOk.rep {F : Fx} {I : Hp} {own : Addr → Option Nat} {H : Hp} {v : V} {d : D} (h : ResOk F I own H v (.fz d)) : Rep I v d := let ⟨_, _, r⟩ := h; r

section
variable {F : Fx} {ρ ρ' : DEnv} {I I' : Hp} {own : Addr → Option Nat} {σ : St} {H H' : Hp}

theorem DEnv.at_set_self {i : Nat} {s : Slot} (h : i < ρ.length) : DEnv.at (ρ.set i s) i = s := by
  unfold DEnv.at
  rw [List.getD_eq_getElem?_getD, List.getElem?_set_self h]; rfl
theorem DEnv.at_set_ne {i j : Nat} {s : Slot} (h : i ≠ j) : DEnv.at (ρ.set i s) j = DEnv.at ρ j := by
  unfold DEnv.at
  rw [List.getD_eq_getElem?_getD, List.getElem?_set_ne h, List.getD_eq_getElem?_getD]
theorem DEnv.at_set {i j : Nat} {s : Slot} : DEnv.at (ρ.set i s) j = s ∧ i = j ∨ DEnv.at (ρ.set i s) j = DEnv.at ρ j := by
  by_cases h : i = j
  · subst h
    by_cases hl : i < ρ.length
    · exact .inl ⟨DEnv.at_set_self hl, rfl⟩
    · rw [List.set_eq_of_length_le (Nat.le_of_not_lt hl)]; exact .inr rfl
  · exact .inr (DEnv.at_set_ne h)

/-- a slot is changed to what its value is -/
theorem Rel.to (R : Rel F ρ I own σ H) {i : Nat} {s : Slot} (h : s = .un ∨ ∃ v, σ[i]? = some (some v) ∧ ValOk (fun a => own a = some i) I H v s) : Rel F (ρ.set i s) I own σ H := by
  refine ⟨R.sub, R.frame, R.there, R.imm, R.new, R.live, R.inew, R.i0, R.fix, by rw [List.length_set]; exact R.len, fun j => ?_⟩
  rcases DEnv.at_set (ρ := ρ) (i := i) (j := j) (s := s) with ⟨e, rfl⟩ | e
  · rw [e]; exact h
  · rw [e]; exact R.slots j
theorem Rel.forget (R : Rel F ρ I own σ H) (i : Nat) : Rel F (ρ.set i .un) I own σ H := R.to (.inl rfl)

/-- a list of a slot is frozen -/
theorem Rel.freeze (R : Rel F ρ I own σ H) {i : Nat} {v : V} {ds : List D} (hσ : σ[i]? = some (some v)) (hv : ValOk (fun a => own a = some i) I H v (.lst ds)) :
    ∃ I' own', Rel F (ρ.set i (.fz (.list ds))) I' own' σ H ∧ Sub I I' ∧ Rep I' v (.list ds) := by
  obtain ⟨p, vs, rfl, hp, h1, h2⟩ := hv
  have hn : I p = none := R.imm p (by rw [hp]; exact fun z => nomatch z)
  have s1 : Sub I (upd I p (.lst vs)) := Sub.new hn
  have r1 : Rep (upd I p (.lst vs)) (.ref p) (.list ds) := .lst upd_same (h2.mono s1)
  have hI : ∀ a, upd I p (.lst vs) a ≠ none → a = p ∨ I a ≠ none := fun a z => by
    by_cases e : a = p
    · exact .inl e
    · rw [upd_ne e] at z; exact .inr z
  have ho : ∀ a, (if a = p then none else own a) ≠ none → a ≠ p ∧ own a ≠ none := fun a z => by
    by_cases e : a = p
    · rw [if_pos e] at z; exact absurd rfl z
    · rw [if_neg e] at z; exact ⟨e, z⟩
  refine ⟨upd I p (.lst vs), fun a => if a = p then none else own a, ⟨fun a o e => ?_, R.frame, R.there, fun a z => ?_, fun a j e => ?_, fun a z => R.live a (ho a z).2, fun a z => ?_, R.i0.trans s1, R.fix, by rw [List.length_set]; exact R.len, fun j => ?_⟩, s1, r1⟩
  · by_cases h : a = p
    · subst h; rw [upd_same] at e; cases e; exact h1
    · rw [upd_ne h] at e; exact R.sub a o e
  · rw [upd_ne (ho a z).1]; exact R.imm a (ho a z).2
  · by_cases h : a = p
    · rw [if_pos h] at e; cases e
    · rw [if_neg h] at e; exact R.new a j e
  · rcases hI a z with rfl | z
    · rcases R.new a i hp with q | q
      · exact .inl q
      · exact .inr (.inr (by rw [q]; exact fun y => nomatch y))
    · exact R.inew a z
  · by_cases h : i = j
    · subst h
      by_cases hl : i < ρ.length
      · rw [DEnv.at_set_self hl]; exact .inr ⟨_, hσ, r1⟩
      · rw [List.set_eq_of_length_le (Nat.le_of_not_lt hl)]
        exact .inl (by unfold DEnv.at; rw [List.getD_eq_getElem?_getD, List.getElem?_eq_none (Nat.le_of_not_lt hl)]; rfl)
    · rw [DEnv.at_set_ne h]
      rcases R.slots j with e | ⟨w, e, q⟩
      · exact .inl e
      · refine .inr ⟨w, e, q.frame (fun a z => ?_) s1 fun _ _ => rfl⟩
        show (if a = p then none else own a) = some j
        by_cases h' : a = p
        · subst h'; rw [hp] at z; cases z; exact absurd rfl h
        · rw [if_neg h']; exact z

/-- a new thing is laid into the heap, tracked by nobody -/
theorem Rel.laid (R : Rel F ρ I own σ H) {p : Addr} {o : HO} (hp : H p = none) : Rel F ρ I own σ (upd H p o) := by
  have s1 : Sub H (upd H p o) := Sub.new hp
  have ne : ∀ a, own a ≠ none → a ≠ p := fun a z e => R.live a z (e ▸ hp)
  have ok : ∀ a, H a ≠ none → upd H p o a ≠ none := fun a z => by
    cases e : H a with
    | none => exact absurd e z
    | some u => rw [s1 a u e]; exact fun y => nomatch y
  refine ⟨R.sub.trans s1, fun a u e m => s1 _ _ (R.frame a u e m), fun a z => ok a (R.there a z), R.imm, R.new, fun a z => ok a (R.live a z), R.inew, R.i0, R.fix, R.len, fun j => ?_⟩
  · rcases R.slots j with e | ⟨w, e, q⟩
    · exact .inl e
    · exact .inr ⟨w, e, q.frame (fun _ z => z) (Sub.refl _) fun a z => upd_ne (ne a (by rw [z]; exact fun y => nomatch y))⟩
theorem Rel.fresh (R : Rel F ρ I own σ H) {p : Addr} (hp : H p = none) : I p = none ∧ own p = none ∧ F.H0 p = none := by
  refine ⟨?_, ?_, ?_⟩
  · cases e : I p with
    | none => rfl
    | some o => rw [R.sub p o e] at hp; cases hp
  · cases e : own p with
    | none => rfl
    | some i => exact absurd hp (R.live p (by rw [e]; exact fun y => nomatch y))
  · cases e : F.H0 p with
    | none => rfl
    | some o => exact absurd hp (R.there p (by rw [e]; exact fun y => nomatch y))
end
end DL

set_option Elab.async false
set_option linter.all false
set_option maxRecDepth 100000
namespace DL
open PySem PySem.Spec L2
open PyProof.Rows hiding St

def opt {α : Type} (o : Option α) (k : α → Prop) : Prop := match o with
  | some x => k x
  | none => False
theorem opt_some {α : Type} {x : α} {k : α → Prop} (h : k x) : opt (some x) k := h
theorem opt_elim {α : Type} {o : Option α} {k : α → Prop} (h : opt o k) : ∃ x, o = some x ∧ k x := by
  cases o with
  | none => exact h.elim
  | some x => exact ⟨x, rfl, h⟩

def RepH (I H : Hp) (v : V) (d : D) : Prop := Rep I v d ∨ ∃ p vs ds, v = .ref p ∧ d = .list ds ∧ H p = some (.lst vs) ∧ RepL I vs ds
section
variable {I H : Hp} {v : V}
theorem RepH.int {i : Int} (h : RepH I H v (.int i)) : v = .int i := by
  rcases h with h | ⟨_, _, _, _, e, _⟩
  · cases h; rfl
  · cases e
theorem RepH.bl {i : Bool} (h : RepH I H v (.bool i)) : v = .bl i := by
  rcases h with h | ⟨_, _, _, _, e, _⟩
  · cases h; rfl
  · cases e
theorem RepH.str {i : Str} (h : RepH I H v (.str i)) : v = .str i := by
  rcases h with h | ⟨_, _, _, _, e, _⟩
  · cases h; rfl
  · cases e
theorem RepH.non (h : RepH I H v .none) : v = .non := by
  rcases h with h | ⟨_, _, _, _, e, _⟩
  · cases h; rfl
  · cases e
theorem RepH.lst (s : Sub I H) {ds : List D} (h : RepH I H v (.list ds)) : ∃ p vs, v = .ref p ∧ H p = some (.lst vs) ∧ RepL I vs ds := by
  rcases h with h | ⟨p, vs, es, e, e2, h1, h2⟩
  · cases h with
    | lst h r => exact ⟨_, _, rfl, s _ _ h, r⟩
  · cases e2; exact ⟨p, vs, e, h1, h2⟩
theorem RepH.tup {ds : List D} (h : RepH I H v (.tuple ds)) : ∃ p vs, v = .ref p ∧ I p = some (.tup vs) ∧ RepL I vs ds := by
  rcases h with h | ⟨p, vs, es, e, e2, h1, h2⟩
  · cases h with
    | tup h r => exact ⟨_, _, rfl, h, r⟩
  · cases e2
theorem RepH.dp {K : PySem.W.Frag} (s : Sub I H) {d : D} (h : RepH I H v d) : Dp K H v d := by
  rcases h with h | ⟨p, vs, es, rfl, rfl, h1, h2⟩
  · exact h.dp s
  · exact .lst (.of h1) (h2.dp s)
theorem RepH.no_dict {xs : List (PyData × PyData)} (h : RepH I H v (.dict xs)) : False := by
  rcases h with h | ⟨_, _, _, _, e, _⟩
  · cases h
  · cases e
end

/-- a value as it is handed on: data, or the thing of a slot -/
inductive BV where
  | d (x : D)
  | v (i : Nat)
def BV.get (ρ : DEnv) : BV → Option D
  | .d x => some x
  | .v i => match ρ.at i with
    | .fz x => some x
    | .lst ds => some (.list ds)
    | _ => none
def BOk (I : Hp) (σ : St) (v : V) : BV → Prop
  | .d x => Rep I v x
  | .v i => σ[i]? = some (some v)
theorem BOk.mono {I I' : Hp} {σ : St} {v : V} {b : BV} (s : Sub I I') (h : BOk I σ v b) : BOk I' σ v b := by
  cases b with
  | d x => exact Rep.mono s h
  | v i => exact h
theorem BOk.rep {F : Fx} {ρ : DEnv} {I : Hp} {own : Addr → Option Nat} {σ : St} {H : Hp} {v : V} {b : BV} {x : D} (R : Rel F ρ I own σ H) (h : BOk I σ v b) (e : b.get ρ = some x) : RepH I H v x := by
  cases b with
  | d y => cases e; exact .inl h
  | v i =>
    have h : σ[i]? = some (some v) := h
    rcases R.slots i with z | ⟨w, z, q⟩
    · simp only [BV.get, z] at e; cases e
    · rw [h] at z; cases z
      simp only [BV.get] at e
      split at e
      · rename_i d hd; cases e; rw [hd] at q; exact .inl q
      · rename_i ds hd; cases e; rw [hd] at q
        obtain ⟨p, vs, e1, _, h1, h2⟩ := q
        exact .inr ⟨p, vs, ds, e1, rfl, h1, h2⟩
      · cases e

def FOk (F : Fx) (L : List Nat) : Prop := (∀ i, F.fix i ≠ none → i ∈ L) ∧ (∀ a i, F.mu a = some i → i ∈ L) ∧ ∀ a, F.mu a ≠ none → F.H0 a ≠ none
abbrev DK := Slot → DEnv → Prop
abbrev DTE := DEnv → DK → Prop
abbrev DTB := DEnv → (BV → DEnv → Prop) → Prop
abbrev DTT := DEnv → (Bool → DEnv → Prop) → Prop
abbrev DTA := DEnv → (List BV → DEnv → Prop) → Prop
def KtE (F : Fx) (I : Hp) (σ : St) (Qd : DK) (Q : VK) : Prop := ∀ s ρ I' own H v, Rel F ρ I' own σ H → Sub I I' → ResOk F I' own H v s → Qd s ρ → Q v H
def KtB (F : Fx) (I : Hp) (σ : St) (Qd : BV → DEnv → Prop) (Q : VK) : Prop := ∀ b ρ I' own H v, Rel F ρ I' own σ H → Sub I I' → BOk I' σ v b → Qd b ρ → Q v H
def KtT (F : Fx) (I : Hp) (σ : St) (Qd : Bool → DEnv → Prop) (Q : Bool → Hp → Prop) : Prop := ∀ b ρ I' own H, Rel F ρ I' own σ H → Sub I I' → Qd b ρ → Q b H
def KtA (F : Fx) (I : Hp) (σ : St) (Qd : List BV → DEnv → Prop) (Q : List V → Hp → Prop) : Prop := ∀ bs ρ I' own H vs, Rel F ρ I' own σ H → Sub I I' → Paired (BOk I' σ) vs bs → Qd bs ρ → Q vs H

def SE (L : List Nat) (u : TE) (t : DTE) : Prop := ∀ F ρ I own σ H Qd Q, FOk F L → Rel F ρ I own σ H → t ρ Qd → KtE F I σ Qd Q → u σ H Q
def SB (L : List Nat) (u : TE) (t : DTB) : Prop := ∀ F ρ I own σ H Qd Q, FOk F L → Rel F ρ I own σ H → t ρ Qd → KtB F I σ Qd Q → u σ H Q
def ST (L : List Nat) (u : TT) (t : DTT) : Prop := ∀ F ρ I own σ H Qd Q, FOk F L → Rel F ρ I own σ H → t ρ Qd → KtT F I σ Qd Q → u σ H Q
def SA (L : List Nat) (u : TA) (t : DTA) : Prop := ∀ F ρ I own σ H Qd Q, FOk F L → Rel F ρ I own σ H → t ρ Qd → KtA F I σ Qd Q → u σ H Q

structure DE (X : Cx) (L : List Nat) (e : Expr) (u : TE) (t : DTE) : Prop where
  pe : PE X e u
  snd : SE L u t
structure DB (X : Cx) (L : List Nat) (e : Expr) (u : TE) (t : DTB) : Prop where
  pe : PE X e u
  snd : SB L u t
structure DT (X : Cx) (L : List Nat) (e : Expr) (u : TT) (t : DTT) : Prop where
  pe : PT X e u
  snd : ST L u t
structure DW (X : Cx) (L : List Nat) (e : Expr) (u : TT) (t : DTT) : Prop where
  pe : PW X e u
  snd : ST L u t
structure DA (X : Cx) (L : List Nat) (es : List Expr) (u : TA) (t : DTA) : Prop where
  pe : PA X es u
  snd : SA L u t

section
variable {X : Cx} {L : List Nat} {a b e : Expr} {ua ub u : TE} {t : DTE} {ta tb : DTB} {pos : Pos}

def tK (d : D) : DTE := fun ρ Q => Q (.fz d) ρ
theorem de_int {i : Int} {j pos} : DE X L (.Constant (.int i) j pos) (tC (.int i)) (tK (.int i)) := ⟨pe_int, fun F ρ I own σ H Qd Q _ R h k => k _ ρ I own H _ R (Sub.refl _) (.fz (.int i)) h⟩
theorem de_bl {b : Bool} {j pos} : DE X L (.Constant (.bool b) j pos) (tC (.bl b)) (tK (.bool b)) := ⟨pe_bl, fun F ρ I own σ H Qd Q _ R h k => k _ ρ I own H _ R (Sub.refl _) (.fz (.bl b)) h⟩
theorem de_non {j pos} : DE X L (.Constant .none j pos) (tC .non) (tK .none) := ⟨pe_non, fun F ρ I own σ H Qd Q _ R h k => k _ ρ I own H _ R (Sub.refl _) (.fz .non) h⟩
theorem de_str {x : Str} {j pos} : DE X L (.Constant (.str x) j pos) (tC (.str x)) (tK (.str x)) := ⟨pe_str, fun F ρ I own σ H Qd Q _ R h k => k _ ρ I own H _ R (Sub.refl _) (.fz (.str x)) h⟩
/-- a global constant of the module, by value -/
theorem de_cst {d : D} {v : V} (h : PE X e (tC v)) (r : ∀ I, Rep I v d) : DE X L e (tC v) (tK d) := ⟨h, fun F ρ I own σ H Qd Q _ R q k => k _ ρ I own H _ R (Sub.refl _) (.fz (r I)) q⟩

/-- a name that is handed on as data: a list of its own is frozen -/
def tName (i : Nat) : DTE := fun ρ Q => match ρ.at i with
  | .fz d => Q (.fz d) ρ
  | .lst ds => Q (.fz (.list ds)) (ρ.set i (.fz (.list ds)))
  | _ => False
theorem se_var {i : Nat} : SE L (tVar i) (tName i) := fun F ρ I own σ H Qd Q _ R h k => by
  simp only [tName] at h
  rcases R.slots i with z | ⟨w, z, q⟩
  · rw [z] at h; exact h.elim
  · split at h
    · rename_i d hd; rw [hd] at q
      exact ⟨w, z, k _ _ _ _ _ _ R (Sub.refl _) (.fz q) h⟩
    · rename_i ds hd; rw [hd] at q
      obtain ⟨I', own', R', s, r⟩ := R.freeze z q
      exact ⟨w, z, k _ _ _ _ _ _ R' s (.fz r) h⟩
    · exact h.elim
theorem de_var (i : Nat) {x : Str} {pos : Pos} (hN : X.N[i]? = some x := by rfl) (hv : Vis X.env.scope x := by first | exact Or.inl rfl | exact Or.inr (Or.inl rfl) | exact Or.inr (Or.inr rfl)) (hd : (x == ("__debug__" : Str)) = false := by decide)
    (hcd : (x == ("__classdict__" : Str)) = false := by decide) : DE X L (.Name x pos) (tVar i) (tName i) := ⟨pe_var hN hv hd hcd, se_var⟩
/-- a name whose thing is handed on for good, the slot is left without it -/
def tMove (i : Nat) : DTE := fun ρ Q => match ρ.at i with
  | .fz d => Q (.fz d) ρ
  | .un => False
  | s => Q s (ρ.set i .un)
theorem se_move {i : Nat} (hi : i ∉ L) : SE L (tVar i) (tMove i) := fun F ρ I own σ H Qd Q fo R h k => by
  rcases R.slots i with z | ⟨w, z, q⟩
  · simp only [tMove, z] at h
  · have mv : ∀ s, ρ.at i = s → ValOk (fun a => own a = some i) I H w s → Qd s (ρ.set i .un) → Q w H := fun s hs hv hq => by
      have ho : ∀ a j, (if own a = some i then none else own a) = some j → own a = some j ∧ j ≠ i := fun a j e => by
        by_cases h' : own a = some i
        · rw [if_pos h'] at e; cases e
        · rw [if_neg h'] at e; exact ⟨e, fun z => h' (z ▸ e)⟩
      have hn : ∀ a, (if own a = some i then none else own a) ≠ none → own a ≠ none := fun a e => by
        by_cases h' : own a = some i
        · rw [h']; exact fun z => nomatch z
        · rw [if_neg h'] at e; exact e
      have hr : Rel F (ρ.set i .un) I (fun a => if own a = some i then none else own a) σ H := by
        refine ⟨R.sub, R.frame, R.there, fun a e => R.imm a (hn a e), fun a j e => R.new a j (ho a j e).1, fun a e => R.live a (hn a e), R.inew, R.i0, R.fix, by rw [List.length_set]; exact R.len, fun j => ?_⟩
        by_cases hij : i = j
        · subst hij
          by_cases hl : i < ρ.length
          · rw [DEnv.at_set_self hl]; exact .inl rfl
          · rw [List.set_eq_of_length_le (Nat.le_of_not_lt hl)]
            exact .inl (by unfold DEnv.at; rw [List.getD_eq_getElem?_getD, List.getElem?_eq_none (Nat.le_of_not_lt hl)]; rfl)
        · rw [DEnv.at_set_ne hij]
          rcases R.slots j with e | ⟨w', e, q'⟩
          · exact .inl e
          · refine .inr ⟨w', e, q'.frame (fun a z => ?_) (Sub.refl _) fun _ _ => rfl⟩
            show (if own a = some i then none else own a) = some j
            rw [if_neg (fun z' => hij (Option.some.inj (z'.symm.trans z)))]; exact z
      refine k s _ I _ H w hr (Sub.refl _) ⟨fun a => own a = some i, fun a e => ⟨R.imm a (by rw [e]; exact fun z => nomatch z), if_pos e, ?_, R.live a (by rw [e]; exact fun z => nomatch z)⟩, hv⟩ hq
      rcases R.new a i e with z | z
      · exact z
      · exact absurd (fo.2.1 a i z) hi
    refine ⟨w, z, ?_⟩
    simp only [tMove] at h
    split at h
    · rename_i d hd; rw [hd] at q
      exact k _ _ _ _ _ _ R (Sub.refl _) (.fz q) h
    · exact h.elim
    · exact mv _ rfl q h
theorem de_move (i : Nat) {x : Str} {pos : Pos} (hi : i ∉ L := by decide) (hN : X.N[i]? = some x := by rfl) (hv : Vis X.env.scope x := by first | exact Or.inl rfl | exact Or.inr (Or.inl rfl) | exact Or.inr (Or.inr rfl)) (hd : (x == ("__debug__" : Str)) = false := by decide)
    (hcd : (x == ("__classdict__" : Str)) = false := by decide) : DE X L (.Name x pos) (tVar i) (tMove i) := ⟨pe_var hN hv hd hcd, se_move hi⟩

/-- a name as it stands -/
def tNmB (i : Nat) : DTB := fun ρ Q => match ρ.at i with
  | .un => False
  | _ => Q (.v i) ρ
theorem sb_var {i : Nat} : SB L (tVar i) (tNmB i) := fun F ρ I own σ H Qd Q _ R h k => by
  simp only [tNmB] at h
  rcases R.slots i with z | ⟨w, z, q⟩
  · rw [z] at h; exact h.elim
  · refine ⟨w, z, ?_⟩
    split at h
    · exact h.elim
    · exact k (.v i) ρ I own H w R (Sub.refl _) z h
theorem db_var (i : Nat) {x : Str} {pos : Pos} (hN : X.N[i]? = some x := by rfl) (hv : Vis X.env.scope x := by first | exact Or.inl rfl | exact Or.inr (Or.inl rfl) | exact Or.inr (Or.inr rfl)) (hd : (x == ("__debug__" : Str)) = false := by decide)
    (hcd : (x == ("__classdict__" : Str)) = false := by decide) : DB X L (.Name x pos) (tVar i) (tNmB i) := ⟨pe_var hN hv hd hcd, sb_var⟩

def frzS : Slot → Option D
  | .fz d => some d
  | .lst ds => some (.list ds)
  | _ => none
/-- a new thing that has come is frozen -/
theorem ResOk.freeze {F : Fx} {ρ : DEnv} {I : Hp} {own : Addr → Option Nat} {σ : St} {H : Hp} {v : V} {s : Slot} {d : D} (R : Rel F ρ I own σ H) (h : ResOk F I own H v s) (e : frzS s = some d) :
    ∃ I', Rel F ρ I' own σ H ∧ Sub I I' ∧ Rep I' v d := by
  cases s with
  | un => cases e
  | dct _ => cases e
  | ob _ => cases e
  | fz x => cases e; exact ⟨I, R, Sub.refl _, h.rep⟩
  | lst ds =>
    cases e
    obtain ⟨S, hS, p, vs, rfl, hp, h1, h2⟩ := h
    obtain ⟨n1, n2, n3, n4⟩ := hS p hp
    have s1 : Sub I (upd I p (.lst vs)) := Sub.new n1
    have hI : ∀ a, upd I p (.lst vs) a ≠ none → a = p ∨ I a ≠ none := fun a z => by
      by_cases e : a = p
      · exact .inl e
      · rw [upd_ne e] at z; exact .inr z
    refine ⟨upd I p (.lst vs), ⟨fun a o e => ?_, R.frame, R.there, fun a z => ?_, R.new, R.live, fun a z => ?_, R.i0.trans s1, R.fix, R.len, fun j => ?_⟩, s1, .lst upd_same (h2.mono s1)⟩
    · by_cases h : a = p
      · subst h; rw [upd_same] at e; cases e; exact h1
      · rw [upd_ne h] at e; exact R.sub a o e
    · rw [upd_ne (fun e => z (by rw [e]; exact n2))]; exact R.imm a z
    · rcases hI a z with rfl | z
      · exact .inl n3
      · exact R.inew a z
    · rcases R.slots j with e | ⟨w, e, q⟩
      · exact .inl e
      · exact .inr ⟨w, e, q.frame (fun _ z => z) s1 fun _ _ => rfl⟩
def tOf (t : DTE) : DTB := fun ρ Q => t ρ fun s ρ' => opt (frzS s) fun d => Q (.d d) ρ'
theorem sb_of (h : SE L u t) : SB L u (tOf t) := fun F ρ I own σ H Qd Q fo R q k =>
  h F ρ I own σ H _ Q fo R q fun s ρ' I' own' H' v R' s' r z => by
    obtain ⟨d, e, z⟩ := opt_elim z
    obtain ⟨I2, R2, s2, r2⟩ := r.freeze R' e
    exact k (.d d) ρ' I2 own' H' v R2 (s'.trans s2) r2 z
theorem db_of (h : DE X L e u t) : DB X L e u (tOf t) := ⟨h.pe, sb_of h.snd⟩

def SndR (r : R2) (rd : D → D → (Slot → Prop) → Prop) : Prop := ∀ F ρ I own σ H v w x y Qs Q, Rel F ρ I own σ H → RepH I H v x → RepH I H w y → rd x y Qs →
  (∀ s I' H' z, Rel F ρ I' own σ H' → Sub I I' → ResOk F I' own H' z s → Qs s → Q z H') → r v w H Q
def tBin (rd : D → D → (Slot → Prop) → Prop) (ta tb : DTB) : DTE := fun ρ Q => ta ρ fun a ρ1 => tb ρ1 fun b ρ2 => opt (a.get ρ2) fun x => opt (b.get ρ2) fun y => rd x y fun s => Q s ρ2
theorem se_op {r : R2} {rd : D → D → (Slot → Prop) → Prop} (hr : SndR r rd) (ha : SB L ua ta) (hb : SB L ub tb) : SE L (tOp r ua ub) (tBin rd ta tb) := fun F ρ I own σ H Qd Q fo R h k =>
  ha F ρ I own σ H _ _ fo R h fun a ρ1 I1 own1 H1 v R1 s1 ra h1 => hb F ρ1 I1 own1 σ H1 _ _ fo R1 h1 fun b ρ2 I2 own2 H2 w R2 s2 rb h2 => by
    obtain ⟨x, ex, h2⟩ := opt_elim h2
    obtain ⟨y, ey, h2⟩ := opt_elim h2
    exact hr F ρ2 I2 own2 σ H2 v w x y _ Q R2 ((ra.mono s2).rep R2 ex) (rb.rep R2 ey) h2 fun s I' H' z R' s' r' q => k s ρ2 I' own2 H' z R' ((s1.trans s2).trans s') r' q
theorem de_op {op : Operator} {r : R2} {rd : D → D → (Slot → Prop) → Prop} (ho : OpR X (binaryOp op) r) (hr : SndR r rd) (ha : DB X L a ua ta) (hb : DB X L b ub tb) : DE X L (.BinOp a op b pos) (tOp r ua ub) (tBin rd ta tb) :=
  ⟨pe_op ho ha.pe hb.pe, se_op hr ha.snd hb.snd⟩
theorem de_cmp {op : CmpOp} {r : R2} {rd : D → D → (Slot → Prop) → Prop} (ho : OpR X (compareOp op) r) (hr : SndR r rd) (ha : DB X L a ua ta) (hb : DB X L b ub tb) (hm : behindInMarks op b = false) : DE X L (.Compare a [op] [b] pos) (tOp r ua ub) (tBin rd ta tb) :=
  ⟨pe_cmpR ho ha.pe hb.pe hm, se_op hr ha.snd hb.snd⟩
/-- the answer as a truth -/
def blS : Slot → Option Bool
  | .fz (.bool b) => some b
  | _ => none
def tBl (t : DTE) : DTT := fun ρ Q => t ρ fun s ρ' => opt (blS s) fun b => Q b ρ'
theorem blS_of {F : Fx} {I : Hp} {own : Addr → Option Nat} {H : Hp} {v : V} {s : Slot} {b : Bool} (r : ResOk F I own H v s) (e : blS s = some b) : v = .bl b := by
  unfold blS at e
  split at e
  · rename_i k; cases e; have := r.rep; cases this; rfl
  · cases e
theorem st_bl (h : SE L u t) : ST L (tTest u) (tBl t) := fun F ρ I own σ H Qd Q fo R q k =>
  h F ρ I own σ H _ _ fo R q fun s ρ' I' own' H' v R' s' r z => by
    obtain ⟨b, e, z⟩ := opt_elim z
    exact ⟨b, blS_of r e, k b ρ' I' own' H' R' s' z⟩
theorem dt_cmp {op : CmpOp} {r : R2} {rd : D → D → (Slot → Prop) → Prop} (ho : OpR X (compareOp op) r) (hr : SndR r rd) (ha : DB X L a ua ta) (hb : DB X L b ub tb) (hm : behindInMarks op b = false) : DT X L (.Compare a [op] [b] pos) (tTest (tOp r ua ub)) (tBl (tBin rd ta tb)) :=
  ⟨pt_cmpR ho ha.pe hb.pe hm, st_bl (se_op hr ha.snd hb.snd)⟩
/-- an expression that hands back a truth, as a test -/
theorem dt_val (h : DE X L e u t) (he : ∀ whole, isTrue e X.env whole = (do let v ← whole; standAt e.pos; holding [v] (truthy v)) := by intro _; rfl) : DT X L e (tB u) (tBl t) := ⟨pt_val h.pe he, st_bl h.snd⟩
/-- a < b < c -/
def tChn (rd rd' : D → D → (Slot → Prop) → Prop) (ta tb tc : DTB) : DTE := fun ρ Q => ta ρ fun a ρ1 => tb ρ1 fun b ρ2 => opt (a.get ρ2) fun x => opt (b.get ρ2) fun y => rd x y fun s => opt (blS s) fun k =>
  if k = true then tc ρ2 fun c ρ3 => opt (b.get ρ3) fun y => opt (c.get ρ3) fun z => rd' y z fun s' => Q s' ρ3 else Q (.fz (.bool false)) ρ2
variable {c : Expr} {uc : TE} {tc : DTB}
theorem se_chain {r r' : R2} {rd rd' : D → D → (Slot → Prop) → Prop} (hr : SndR r rd) (hr' : SndR r' rd') (ha : SB L ua ta) (hb : SB L ub tb) (hc : SB L uc tc) :
    SE L (tChain r r' ua ub uc) (tChn rd rd' ta tb tc) := fun F ρ I own σ H Qd Q fo R h k =>
  ha F ρ I own σ H _ _ fo R h fun a ρ1 I1 own1 H1 v R1 s1 ra h1 => hb F ρ1 I1 own1 σ H1 _ _ fo R1 h1 fun b ρ2 I2 own2 H2 w R2 s2 rb h2 => by
    obtain ⟨x, ex, h2⟩ := opt_elim h2
    obtain ⟨y, ey, h2⟩ := opt_elim h2
    refine hr F ρ2 I2 own2 σ H2 v w x y _ _ R2 ((ra.mono s2).rep R2 ex) (rb.rep R2 ey) h2 fun s I' H' z R' s' r' q => ?_
    obtain ⟨kk, ek, q⟩ := opt_elim q
    refine ⟨kk, blS_of r' ek, ?_⟩
    cases kk with
    | true =>
      rw [if_pos rfl] at q ⊢
      refine hc F ρ2 I' own2 σ H' _ _ fo R' q fun cc ρ3 I3 own3 H3 w3 R3 s3 rc h3 => ?_
      obtain ⟨y', ey', h3⟩ := opt_elim h3
      obtain ⟨z', ez', h3⟩ := opt_elim h3
      exact hr' F ρ3 I3 own3 σ H3 w w3 y' z' _ Q R3 ((rb.mono (s'.trans s3)).rep R3 ey') (rc.rep R3 ez') h3 fun s4 I4 H4 z4 R4 s4' r4 q4 => k s4 ρ3 I4 own3 H4 z4 R4 ((((s1.trans s2).trans s').trans s3).trans s4') r4 q4
    | false =>
      rw [if_neg Bool.false_ne_true] at q ⊢
      exact k _ ρ2 I' own2 H' _ R' ((s1.trans s2).trans s') (.fz (.bl false)) q
theorem de_chain {op op' : CmpOp} {r r' : R2} {rd rd' : D → D → (Slot → Prop) → Prop} (ho : OpR X (compareOp op) r) (ho' : OpR X (compareOp op') r') (hr : SndR r rd) (hr' : SndR r' rd') (ha : DB X L a ua ta) (hb : DB X L b ub tb) (hc : DB X L c uc tc)
    (hm : lastMarks [op, op'] [b, c] = false := by with_unfolding_all rfl) : DE X L (.Compare a [op, op'] [b, c] pos) (tChain r r' ua ub uc) (tChn rd rd' ta tb tc) :=
  ⟨pe_chain ho ho' ha.pe hb.pe hc.pe hm, se_chain hr hr' ha.snd hb.snd hc.snd⟩
theorem dt_chain {op op' : CmpOp} {r r' : R2} {rd rd' : D → D → (Slot → Prop) → Prop} (ho : OpR X (compareOp op) r) (ho' : OpR X (compareOp op') r') (hr : SndR r rd) (hr' : SndR r' rd') (ha : DB X L a ua ta) (hb : DB X L b ub tb) (hc : DB X L c uc tc)
    (hm : lastMarks [op, op'] [b, c] = false := by with_unfolding_all rfl) : DT X L (.Compare a [op, op'] [b, c] pos) (tTest (tChain r r' ua ub uc)) (tBl (tChn rd rd' ta tb tc)) :=
  ⟨pt_chain ho ho' ha.pe hb.pe hc.pe hm, st_bl (se_chain hr hr' ha.snd hb.snd hc.snd)⟩
end

section
variable {X : Cx} {L : List Nat} {a b e : Expr} {rest : List Expr} {u1 u2 : TT} {t1 t2 : DTT} {ua ub : TE} {ta tb : DTE} {pos : Pos}
def dAnd (t u : DTT) : DTT := fun ρ Q => t ρ fun c ρ1 => if c = true then u ρ1 Q else Q false ρ1
def dOr (t u : DTT) : DTT := fun ρ Q => t ρ fun c ρ1 => if c = true then Q true ρ1 else u ρ1 Q
def dNot (t : DTT) : DTT := fun ρ Q => t ρ fun c ρ1 => Q (!c) ρ1
theorem dw_pt {u : TT} {t : DTT} (h : DW X L e u t) : DT X L e u t := ⟨h.pe.pt, h.snd⟩
theorem dw_and1 (h : DT X L a u1 t1) : DW X L (.BoolOp .And [a] pos) u1 t1 := ⟨pw_and1 h.pe, h.snd⟩
theorem dw_or1 (h : DT X L a u1 t1) : DW X L (.BoolOp .Or [a] pos) u1 t1 := ⟨pw_or1 h.pe, h.snd⟩
theorem st_and (ha : ST L u1 t1) (hb : ST L u2 t2) : ST L (tAnd u1 u2) (dAnd t1 t2) := fun F ρ I own σ H Qd Q fo R h k =>
  ha F ρ I own σ H _ _ fo R h fun c ρ1 I1 own1 H1 R1 s1 h1 => by
    cases c with
    | true => exact hb F ρ1 I1 own1 σ H1 Qd Q fo R1 h1 fun c2 ρ2 I2 own2 H2 R2 s2 h2 => k c2 ρ2 I2 own2 H2 R2 (s1.trans s2) h2
    | false => exact k false ρ1 I1 own1 H1 R1 s1 h1
theorem st_or (ha : ST L u1 t1) (hb : ST L u2 t2) : ST L (tOr u1 u2) (dOr t1 t2) := fun F ρ I own σ H Qd Q fo R h k =>
  ha F ρ I own σ H _ _ fo R h fun c ρ1 I1 own1 H1 R1 s1 h1 => by
    cases c with
    | false => exact hb F ρ1 I1 own1 σ H1 Qd Q fo R1 h1 fun c2 ρ2 I2 own2 H2 R2 s2 h2 => k c2 ρ2 I2 own2 H2 R2 (s1.trans s2) h2
    | true => exact k true ρ1 I1 own1 H1 R1 s1 h1
theorem dw_and (ha : DT X L a u1 t1) (hb : DW X L (.BoolOp .And (b :: rest) pos) u2 t2) : DW X L (.BoolOp .And (a :: b :: rest) pos) (tAnd u1 u2) (dAnd t1 t2) := ⟨pw_and ha.pe hb.pe, st_and ha.snd hb.snd⟩
theorem dw_or (ha : DT X L a u1 t1) (hb : DW X L (.BoolOp .Or (b :: rest) pos) u2 t2) : DW X L (.BoolOp .Or (a :: b :: rest) pos) (tOr u1 u2) (dOr t1 t2) := ⟨pw_or ha.pe hb.pe, st_or ha.snd hb.snd⟩
theorem dt_not (h : DT X L a u1 t1) : DT X L (.UnaryOp .Not a pos) (tNot u1) (dNot t1) := ⟨pt_not h.pe, fun F ρ I own σ H Qd Q fo R q k =>
  h.snd F ρ I own σ H _ _ fo R q fun c ρ1 I1 own1 H1 R1 s1 h1 => k (!c) ρ1 I1 own1 H1 R1 s1 h1⟩
/-- .. as values -/
def dAndV (t u : DTE) : DTE := fun ρ Q => t ρ fun s ρ1 => opt (blS s) fun c => if c = true then u ρ1 Q else Q (.fz (.bool false)) ρ1
def dOrV (t u : DTE) : DTE := fun ρ Q => t ρ fun s ρ1 => opt (blS s) fun c => if c = true then Q (.fz (.bool true)) ρ1 else u ρ1 Q
def dNotV (t : DTE) : DTE := fun ρ Q => t ρ fun s ρ1 => opt (blS s) fun c => Q (.fz (.bool (!c))) ρ1
theorem de_one {op} (h : DE X L a ua ta) : DE X L (.BoolOp op [a] pos) ua ta := ⟨pe_one h.pe, h.snd⟩
theorem de_and (ha : DE X L a ua ta) (hb : DE X L (.BoolOp .And (b :: rest) pos) ub tb) : DE X L (.BoolOp .And (a :: b :: rest) pos) (tAndV ua ub) (dAndV ta tb) :=
  ⟨pe_and ha.pe hb.pe, fun F ρ I own σ H Qd Q fo R h k => ha.snd F ρ I own σ H _ _ fo R h fun s ρ1 I1 own1 H1 v R1 s1 r1 h1 => by
    obtain ⟨c, e, h1⟩ := opt_elim h1
    refine ⟨c, blS_of r1 e, ?_⟩
    cases c with
    | true => exact hb.snd F ρ1 I1 own1 σ H1 Qd Q fo R1 h1 fun s2 ρ2 I2 own2 H2 v2 R2 s2' r2 h2 => k s2 ρ2 I2 own2 H2 v2 R2 (s1.trans s2') r2 h2
    | false => exact k _ ρ1 I1 own1 H1 _ R1 s1 (.fz (.bl false)) h1⟩
theorem de_or (ha : DE X L a ua ta) (hb : DE X L (.BoolOp .Or (b :: rest) pos) ub tb) : DE X L (.BoolOp .Or (a :: b :: rest) pos) (tOrV ua ub) (dOrV ta tb) :=
  ⟨pe_or ha.pe hb.pe, fun F ρ I own σ H Qd Q fo R h k => ha.snd F ρ I own σ H _ _ fo R h fun s ρ1 I1 own1 H1 v R1 s1 r1 h1 => by
    obtain ⟨c, e, h1⟩ := opt_elim h1
    refine ⟨c, blS_of r1 e, ?_⟩
    cases c with
    | false => exact hb.snd F ρ1 I1 own1 σ H1 Qd Q fo R1 h1 fun s2 ρ2 I2 own2 H2 v2 R2 s2' r2 h2 => k s2 ρ2 I2 own2 H2 v2 R2 (s1.trans s2') r2 h2
    | true => exact k _ ρ1 I1 own1 H1 _ R1 s1 (.fz (.bl true)) h1⟩
theorem de_not (ha : DE X L a ua ta) : DE X L (.UnaryOp .Not a pos) (tNotV ua) (dNotV ta) :=
  ⟨pe_not ha.pe, fun F ρ I own σ H Qd Q fo R h k => ha.snd F ρ I own σ H _ _ fo R h fun s ρ1 I1 own1 H1 v R1 s1 r1 h1 => by
    obtain ⟨c, e, h1⟩ := opt_elim h1
    exact ⟨c, blS_of r1 e, k _ ρ1 I1 own1 H1 _ R1 s1 (.fz (.bl _)) h1⟩⟩
def dIf (t : DTT) (ta tb : DTE) : DTE := fun ρ Q => t ρ fun c ρ1 => if c = true then ta ρ1 Q else tb ρ1 Q
theorem de_if {c : Expr} (hc : DT X L c u1 t1) (ha : DE X L a ua ta) (hb : DE X L b ub tb) : DE X L (.IfExp c a b pos) (tIf u1 ua ub) (dIf t1 ta tb) :=
  ⟨pe_ifExp hc.pe ha.pe hb.pe, fun F ρ I own σ H Qd Q fo R h k => hc.snd F ρ I own σ H _ _ fo R h fun c ρ1 I1 own1 H1 R1 s1 h1 => by
    cases c with
    | true => exact ha.snd F ρ1 I1 own1 σ H1 Qd Q fo R1 h1 fun s2 ρ2 I2 own2 H2 v2 R2 s2' r2 h2 => k s2 ρ2 I2 own2 H2 v2 R2 (s1.trans s2') r2 h2
    | false => exact hb.snd F ρ1 I1 own1 σ H1 Qd Q fo R1 h1 fun s2 ρ2 I2 own2 H2 v2 R2 s2' r2 h2 => k s2 ρ2 I2 own2 H2 v2 R2 (s1.trans s2') r2 h2⟩

variable {es : List Expr} {us ur : TA} {ts tr : DTA} {ux : TE} {tx : DTB}
def dNil : DTA := fun ρ Q => Q [] ρ
def dCons (t : DTB) (r : DTA) : DTA := fun ρ Q => t ρ fun b ρ1 => r ρ1 fun bs ρ2 => Q (b :: bs) ρ2
theorem sa_nil : SA L tNil dNil := fun F ρ I own σ H Qd Q _ R h k => k [] ρ I own H [] R (Sub.refl _) .nil h
theorem paired_bok {I I' : Hp} {σ : St} (s : Sub I I') : ∀ {vs : List V} {bs : List BV}, Paired (BOk I σ) vs bs → Paired (BOk I' σ) vs bs
  | _, _, .nil => .nil
  | _, _, .cons h r => .cons (h.mono s) (paired_bok s r)
theorem sa_cons (hb : SB L ux tx) (hr : SA L ur tr) : SA L (tCons ux ur) (dCons tx tr) := fun F ρ I own σ H Qd Q fo R h k =>
  hb F ρ I own σ H _ _ fo R h fun b ρ1 I1 own1 H1 v R1 s1 r1 h1 => hr F ρ1 I1 own1 σ H1 _ _ fo R1 h1 fun bs ρ2 I2 own2 H2 vs R2 s2 r2 h2 =>
    k (b :: bs) ρ2 I2 own2 H2 (v :: vs) R2 (s1.trans s2) (.cons (r1.mono s2) r2) h2
theorem da_nil : DA X L [] tNil dNil := ⟨pa_nil, sa_nil⟩
theorem da_cons (hb : DB X L e ux tx) (hr : DA X L es ur tr) (hs : starEach (e :: es) X.env = (false, eval e X.env) :: starEach es X.env := by rfl) : DA X L (e :: es) (tCons ux ur) (dCons tx tr) :=
  ⟨pa_cons hb.pe hr.pe hs, sa_cons hb.snd hr.snd⟩
/-- all of them data -/
def allD : List BV → Option (List D)
  | [] => some []
  | .d x :: bs => (allD bs).map (x :: ·)
  | .v _ :: _ => none
theorem allD_rep {I : Hp} {σ : St} : ∀ {vs : List V} {bs : List BV} {ds : List D}, Paired (BOk I σ) vs bs → allD bs = some ds → RepL I vs ds
  | _, _, _, .nil, e => by cases e; exact .nil
  | _, .d x :: bs, _, .cons h r, e => by
    simp only [allD, Option.map_eq_some_iff] at e
    obtain ⟨ds, e1, rfl⟩ := e
    exact .cons h (allD_rep r e1)
  | _, .v _ :: _, _, .cons _ _, e => by cases e
/-- .. read on the spot -/
def getD' (ρ : DEnv) : List BV → Option (List D)
  | [] => some []
  | b :: bs => match b.get ρ, getD' ρ bs with
    | some x, some xs => some (x :: xs)
    | _, _ => none
theorem getD'_rep {F : Fx} {ρ : DEnv} {I : Hp} {own : Addr → Option Nat} {σ : St} {H : Hp} (R : Rel F ρ I own σ H) : ∀ {vs : List V} {bs : List BV} {ds : List D}, Paired (BOk I σ) vs bs → getD' ρ bs = some ds → Paired (RepH I H) vs ds
  | _, _, _, .nil, e => by cases e; exact .nil
  | _, b :: bs, _, .cons h r, e => by
    simp only [getD'] at e
    split at e
    · rename_i x xs e1 e2; cases e
      exact .cons (h.rep R e1) (getD'_rep R r e2)
    · cases e
def dTup (t : DTA) : DTE := fun ρ Q => t ρ fun bs ρ1 => opt (allD bs) fun ds => ds.length ≤ sizeLine ∧ Q (.fz (.tuple ds)) ρ1
def dLst (t : DTA) : DTE := fun ρ Q => t ρ fun bs ρ1 => opt (allD bs) fun ds => ds.length ≤ sizeLine ∧ Q (.lst ds) ρ1
/-- a new object at p has come, data from now on -/
theorem Rel.born {F : Fx} {ρ : DEnv} {I : Hp} {own : Addr → Option Nat} {σ : St} {H : Hp} (R : Rel F ρ I own σ H) {p : Addr} {o : HO} (hp : H p = none) : Rel F ρ (upd I p o) own σ (upd H p o) ∧ Sub I (upd I p o) := by
  obtain ⟨n1, n2, n3⟩ := R.fresh hp
  have R1 := R.laid (o := o) hp
  have s1 : Sub I (upd I p o) := Sub.new n1
  refine ⟨⟨fun a u e => ?_, R1.frame, R1.there, fun a z => ?_, R1.new, R1.live, fun a z => ?_, R1.i0.trans s1, R1.fix, R1.len, fun j => ?_⟩, s1⟩
  · by_cases h : a = p
    · subst h; rw [upd_same] at e ⊢; exact e
    · rw [upd_ne h] at e ⊢; exact R.sub a u e
  · rw [upd_ne (fun e => z (by rw [e]; exact n2))]; exact R.imm a z
  · by_cases h : a = p
    · subst h; exact .inl n3
    · rw [upd_ne h] at z; exact R.inew a z
  · rcases R1.slots j with e | ⟨w, e, q⟩
    · exact .inl e
    · exact .inr ⟨w, e, q.frame (fun _ z => z) s1 fun _ _ => rfl⟩
theorem ResOk.new {F : Fx} {ρ : DEnv} {I : Hp} {own : Addr → Option Nat} {σ : St} {H : Hp} (R : Rel F ρ I own σ H) {p : Addr} {vs : List V} {ds : List D} (hp : H p = none) (h : RepL I vs ds) : ResOk F I own (upd H p (.lst vs)) (.ref p) (.lst ds) := by
  obtain ⟨n1, n2, n3⟩ := R.fresh hp
  refine ⟨fun a => a = p, fun a e => ?_, p, vs, rfl, rfl, upd_same, h⟩
  subst e
  exact ⟨n1, n2, n3, by rw [upd_same]; exact fun z => nomatch z⟩
theorem de_tup {x1} (h : DA X L es us ts) : DE X L (.Tuple es x1 pos) (tTup us) (dTup ts) := ⟨pe_tup h.pe, fun F ρ I own σ H Qd Q fo R q k =>
  h.snd F ρ I own σ H _ _ fo R q fun bs ρ1 I1 own1 H1 vs R1 s1 r1 h1 => by
    obtain ⟨ds, e, hl, h1⟩ := opt_elim h1
    have r := allD_rep r1 e
    refine ⟨by rw [r.length]; exact hl, fun p hp => ?_⟩
    obtain ⟨R2, s2⟩ := R1.born (o := .tup vs) hp
    exact k _ ρ1 _ own1 _ _ R2 (s1.trans s2) (.fz (.tup upd_same (r.mono s2))) h1⟩
theorem de_lst (h : DA X L es us ts) : DE X L (.List es pos) (tLst us) (dLst ts) := ⟨pe_lst h.pe, fun F ρ I own σ H Qd Q fo R q k =>
  h.snd F ρ I own σ H _ _ fo R q fun bs ρ1 I1 own1 H1 vs R1 s1 r1 h1 => by
    obtain ⟨ds, e, hl, h1⟩ := opt_elim h1
    have r := allD_rep r1 e
    exact ⟨by rw [r.length]; exact hl, fun p hp => k _ ρ1 _ own1 _ _ (R1.laid hp) s1 (ResOk.new R1 hp r) h1⟩⟩
end
end DL

set_option Elab.async false
set_option linter.all false
set_option maxRecDepth 100000
namespace DL
open PySem PySem.Spec L2
open PyProof.Rows hiding St

section
variable {X : Cx} {K : PySem.W.Frag}
abbrev RD := D → D → (Slot → Prop) → Prop

def rAddI : R2 := rI0 fun i j => .int (i + j)
def rAddS : R2 := fun x y H Q => ∃ i j, x = .str i ∧ y = .str j ∧ i.length + j.length ≤ sizeLine ∧ Q (.str (i ++ j)) H
def rAddU (K : PySem.W.Frag) : R2 := fun x y H Q => rAddI x y H Q ∨ (rAddS x y H Q ∨ (rCat x y H Q ∨ rCatA K x y H Q))
theorem op_addU : OpR X (binaryOp .Add) (rAddU X.K) := OpR.or op_add (OpR.or op_add_str (OpR.or op_cat op_catA))
def dAdd : RD := fun x y Q => match x, y with
  | .int i, .int j => Q (.fz (.int (i + j)))
  | .str s, .str t => s.length + t.length ≤ sizeLine ∧ Q (.fz (.str (s ++ t)))
  | .list a, .list b => a.length + b.length ≤ sizeLine ∧ Q (.lst (a ++ b))
  | .tuple a, .tuple b => a.length + b.length ≤ sizeLine ∧ Q (.fz (.tuple (a ++ b)))
  | _, _ => False
theorem sr_add : SndR (rAddU K) dAdd := fun F ρ I own σ H v w x y Qs Q R rx ry h k => by
  unfold dAdd at h
  split at h
  · rename_i i j
    rw [rx.int, ry.int]
    exact .inl ⟨i, j, rfl, rfl, k _ I H _ R (Sub.refl _) (.fz (.int _)) h⟩
  · rename_i s t
    rw [rx.str, ry.str]
    exact .inr (.inl ⟨s, t, rfl, rfl, h.1, k _ I H _ R (Sub.refl _) (.fz (.str _)) h.2⟩)
  · rename_i a b
    obtain ⟨p, vs, rfl, h1, r1⟩ := rx.lst R.sub
    obtain ⟨q, ws, rfl, h2, r2⟩ := ry.lst R.sub
    exact .inr (.inr (.inl ⟨p, q, vs, ws, rfl, rfl, h1, h2, by rw [r1.length, r2.length]; exact h.1, fun l hl => k _ I _ _ (R.laid hl) (Sub.refl _) (ResOk.new R hl (r1.append r2)) h.2⟩))
  · rename_i a b
    obtain ⟨p, vs, rfl, h1, r1⟩ := rx.tup
    obtain ⟨q, ws, rfl, h2, r2⟩ := ry.tup
    refine .inr (.inr (.inr ⟨p, q, vs, ws, rfl, rfl, .of (R.sub _ _ h1), .of (R.sub _ _ h2), by rw [r1.length, r2.length]; exact h.1, fun e => ?_, fun _ e => ?_, fun _ _ l hl => ?_⟩))
    · subst e; cases r1; exact k _ I H _ R (Sub.refl _) (.fz (.tup h2 r2)) h.2
    · subst e; cases r2
      have h2' := h.2
      rw [List.append_nil] at h2'
      exact k _ I H _ R (Sub.refl _) (.fz (.tup h1 r1)) h2'
    · obtain ⟨R2, s2⟩ := R.born (o := .tup (vs ++ ws)) hl
      exact k _ _ _ _ R2 s2 (.fz (.tup upd_same ((r1.append r2).mono s2))) h.2
  · exact h.elim

def intD (g : Int → Int → Int) (c : Int → Int → Prop) : RD := fun x y Q => match x, y with
  | .int i, .int j => c i j ∧ Q (.fz (.int (g i j)))
  | _, _ => False
theorem sr_int {C c : Int → Int → Prop} {g : Int → Int → Int} (hc : ∀ i j, c i j → C i j) : SndR (rI C fun i j => .int (g i j)) (intD g c) := fun F ρ I own σ H v w x y Qs Q R rx ry h k => by
  unfold intD at h
  split at h
  · rename_i i j
    rw [rx.int, ry.int]
    exact ⟨i, j, rfl, rfl, hc _ _ h.1, k _ I H _ R (Sub.refl _) (.fz (.int _)) h.2⟩
  · exact h.elim
def int0D (g : Int → Int → Int) : RD := fun x y Q => match x, y with
  | .int i, .int j => Q (.fz (.int (g i j)))
  | _, _ => False
theorem sr_int0 {g : Int → Int → Int} : SndR (rI0 fun i j => .int (g i j)) (int0D g) := fun F ρ I own σ H v w x y Qs Q R rx ry h k => by
  unfold int0D at h
  split at h
  · rename_i i j
    rw [rx.int, ry.int]
    exact ⟨i, j, rfl, rfl, k _ I H _ R (Sub.refl _) (.fz (.int _)) h⟩
  · exact h.elim
def dSub : RD := int0D fun i j => i - j
theorem sr_sub : SndR (rI0 fun i j => .int (i - j)) dSub := sr_int0
def rMulU : R2 := fun x y H Q => rI CMul (fun i j => .int (i * j)) x y H Q ∨ rRep x y H Q
theorem op_mulU : OpR X (binaryOp .Mult) rMulU := OpR.or op_mul op_rep
def dMul : RD := fun x y Q => match x, y with
  | .int i, .int j => ((-(2 ^ 64) < i ∧ i < 2 ^ 64) ∨ (-(2 ^ 64) < j ∧ j < 2 ^ 64)) ∧ Q (.fz (.int (i * j)))
  | .list a, .int j => (-(2 ^ 63) ≤ j ∧ j < 2 ^ 63 ∧ a.length * j.toNat ≤ sizeLine) ∧ Q (.lst (List.replicate j.toNat a).flatten)
  | _, _ => False
theorem sr_mul : SndR rMulU dMul := fun F ρ I own σ H v w x y Qs Q R rx ry h k => by
  unfold dMul at h
  split at h
  · rename_i i j
    rw [rx.int, ry.int]
    exact .inl ⟨i, j, rfl, rfl, h.1, k _ I H _ R (Sub.refl _) (.fz (.int _)) h.2⟩
  · rename_i a j
    obtain ⟨p, vs, rfl, h1, r1⟩ := rx.lst R.sub
    rw [ry.int]
    exact .inr ⟨p, j, vs, rfl, rfl, h1, h.1.1, h.1.2.1, by rw [r1.length]; exact h.1.2.2, fun l hl => k _ I _ _ (R.laid hl) (Sub.refl _) (ResOk.new R hl (r1.rep j.toNat)) h.2⟩
  · exact h.elim
theorem divW {i j : Int} (h : 0 < j ∧ j < 2 ^ 100) : CDivW i j := wide_div h.1 (b := 100) (by have := h.2; omega) (by decide) (by decide)
def dDiv : RD := intD (fun i j => i / j) fun _ j => 0 < j ∧ j < 2 ^ 100
theorem sr_div : SndR (rI CDivW fun i j => .int (i / j)) dDiv := sr_int fun _ _ h => divW h
def dMod : RD := intD (fun i j => i % j) fun _ j => 0 < j
theorem sr_mod : SndR (rI (fun _ j => 0 < j) fun i j => .int (i % j)) dMod := sr_int fun _ _ h => h
def dPow : RD := intD (fun i j => i ^ j.toNat) fun i j => 0 ≤ j ∧ j ≤ 1000 ∧ i.natAbs < 2 ^ 64
theorem sr_pow : SndR (rI CPow fun i j => .int (i ^ j.toNat)) dPow := sr_int fun _ _ h => ⟨h.1, by have := h.2.1; omega, h.2.2⟩
def dShl : RD := intD (fun i j => i * 2 ^ j.toNat) fun i j => 0 ≤ j ∧ j ≤ 1000 ∧ i.natAbs < 2 ^ 64
theorem sr_shl : SndR (rI CPow fun i j => .int (i * 2 ^ j.toNat)) dShl := sr_int fun _ _ h => ⟨h.1, by have := h.2.1; omega, h.2.2⟩

def cmpD (g : Int → Int → Bool) : RD := fun x y Q => match x, y with
  | .int i, .int j => Q (.fz (.bool (g i j)))
  | _, _ => False
theorem sr_cmp {g : Int → Int → Bool} : SndR (rI0 fun i j => .bl (g i j)) (cmpD g) := fun F ρ I own σ H v w x y Qs Q R rx ry h k => by
  unfold cmpD at h
  split at h
  · rename_i i j
    rw [rx.int, ry.int]
    exact ⟨i, j, rfl, rfl, k _ I H _ R (Sub.refl _) (.fz (.bl _)) h⟩
  · exact h.elim
def dLt : RD := cmpD fun i j => decide (i < j)
def dLe : RD := cmpD fun i j => decide (i ≤ j)
def dGt : RD := cmpD fun i j => decide (j < i)
def dGe : RD := cmpD fun i j => decide (j ≤ i)

/-- fit for ==: no dict, not too deep -/
def gd (k : Nat) (d : D) : Bool := d.canLay0 && decide (d.depth ≤ k)
theorem gd_shaped {k : Nat} {d : D} (hk : k ≤ 64) (h : gd k d = true) : SeqAt.shaped d = true := by
  unfold gd at h
  unfold SeqAt.shaped
  rw [Bool.and_eq_true] at h ⊢
  exact ⟨h.1, decide_eq_true (Nat.le_trans (of_decide_eq_true h.2) hk)⟩
def rEqU (K : PySem.W.Frag) : R2 := fun x y H Q => rEq x y H Q ∨ rEqD K x y H Q
def rNeU (K : PySem.W.Frag) : R2 := fun x y H Q => rNe x y H Q ∨ rNeD K x y H Q
theorem op_eqU (hu : X.A.units + 64 < cLine) : OpR X (compareOp .Eq) (rEqU X.K) := OpR.or op_eq (op_eqD hu)
theorem op_neU (hu : X.A.units + 64 < cLine) : OpR X (compareOp .NotEq) (rNeU X.K) := OpR.or op_ne (op_neD hu)
def dEqB (f : Bool → Bool) : RD := fun x y Q => match x, y with
  | .int i, .int j => Q (.fz (.bool (f (decide (i = j)))))
  | .str i, .str j => Q (.fz (.bool (f (decide (i = j)))))
  | .bool i, .bool j => Q (.fz (.bool (f (decide (i = j)))))
  | _, _ => (gd 60 x = true ∧ gd 60 y = true) ∧ Q (.fz (.bool (f (PyData.eqv x y))))
def dEq : RD := dEqB fun b => b
def dNe : RD := dEqB fun b => !b
theorem dec_i {i j : Int} : decide (V.int i = V.int j) = decide (i = j) := by rw [dec_int]; exact Bool.beq_eq_decide_eq i j
theorem dec_s {i j : Str} : decide (V.str i = V.str j) = decide (i = j) := by
  by_cases h : i = j
  · subst h; simp
  · rw [decide_eq_false h, decide_eq_false (fun e => h (V.str.inj e))]
theorem dec_b {i j : Bool} : decide (V.bl i = V.bl j) = decide (i = j) := by cases i <;> cases j <;> rfl
theorem sr_eq : SndR (rEqU K) dEq := fun F ρ I own σ H v w x y Qs Q R rx ry h k => by
  unfold dEq dEqB at h
  split at h
  · rw [rx.int, ry.int]; exact .inl ⟨rfl, by rw [dec_i]; exact k _ I H _ R (Sub.refl _) (.fz (.bl _)) h⟩
  · rw [rx.str, ry.str]; exact .inl ⟨rfl, by rw [dec_s]; exact k _ I H _ R (Sub.refl _) (.fz (.bl _)) h⟩
  · rw [rx.bl, ry.bl]; exact .inl ⟨rfl, by rw [dec_b]; exact k _ I H _ R (Sub.refl _) (.fz (.bl _)) h⟩
  · exact .inr ⟨x, y, rx.dp R.sub, ry.dp R.sub, gd_shaped (by decide) h.1.1, gd_shaped (by decide) h.1.2, k _ I H _ R (Sub.refl _) (.fz (.bl _)) h.2⟩
theorem sr_ne : SndR (rNeU K) dNe := fun F ρ I own σ H v w x y Qs Q R rx ry h k => by
  unfold dNe dEqB at h
  split at h
  · rw [rx.int, ry.int]; exact .inl ⟨rfl, by rw [dec_i]; exact k _ I H _ R (Sub.refl _) (.fz (.bl _)) h⟩
  · rw [rx.str, ry.str]; exact .inl ⟨rfl, by rw [dec_s]; exact k _ I H _ R (Sub.refl _) (.fz (.bl _)) h⟩
  · rw [rx.bl, ry.bl]; exact .inl ⟨rfl, by rw [dec_b]; exact k _ I H _ R (Sub.refl _) (.fz (.bl _)) h⟩
  · exact .inr ⟨x, y, rx.dp R.sub, ry.dp R.sub, gd_shaped (by decide) h.1.1, gd_shaped (by decide) h.1.2, k _ I H _ R (Sub.refl _) (.fz (.bl _)) h.2⟩

def rIsNo : R2 := fun x y H Q => y = .non ∧ Q (.bl (decide (x = .non))) H
def rIsU : R2 := fun x y H Q => rIsNo x y H Q ∨ rIsB x y H Q
def rNotNo : R2 := fun x y H Q => y = .non ∧ Q (.bl (!decide (x = .non))) H
def rNotU : R2 := fun x y H Q => rNotNo x y H Q ∨ rNotB x y H Q
theorem op_isU : OpR X (compareOp .Is) rIsU := OpR.or op_isN op_isBl
theorem op_notU : OpR X (compareOp .IsNot) rNotU := OpR.or op_notN op_notBl
def isN : D → Bool
  | .none => true
  | _ => false
theorem RepH.isN {I H : Hp} {v : V} {d : D} (h : RepH I H v d) : decide (v = .non) = isN d := by
  rcases h with h | ⟨p, vs, ds, rfl, rfl, _⟩
  · cases h <;> rfl
  · rfl
def dIsB (f : Bool → Bool) : RD := fun x y Q => match x, y with
  | .bool a, .bool b => Q (.fz (.bool (f (decide (a = b)))))
  | x, .none => Q (.fz (.bool (f (isN x))))
  | _, _ => False
def dIs : RD := dIsB fun b => b
def dIsNot : RD := dIsB fun b => !b
theorem sr_is : SndR rIsU dIs := fun F ρ I own σ H v w x y Qs Q R rx ry h k => by
  unfold dIs dIsB at h
  split at h
  · rw [rx.bl, ry.bl]; exact .inr ⟨_, _, rfl, rfl, k _ I H _ R (Sub.refl _) (.fz (.bl _)) h⟩
  · exact .inl ⟨ry.non, by rw [rx.isN]; exact k _ I H _ R (Sub.refl _) (.fz (.bl _)) h⟩
  · exact h.elim
theorem sr_isnot : SndR rNotU dIsNot := fun F ρ I own σ H v w x y Qs Q R rx ry h k => by
  unfold dIsNot dIsB at h
  split at h
  · rw [rx.bl, ry.bl]; exact .inr ⟨_, _, rfl, rfl, k _ I H _ R (Sub.refl _) (.fz (.bl _)) h⟩
  · exact .inl ⟨ry.non, by rw [rx.isN]; exact k _ I H _ R (Sub.refl _) (.fz (.bl _)) h⟩
  · exact h.elim

def flatD : D → Bool
  | .none | .bool _ | .int _ | .str _ => true
  | _ => false
theorem Rep.flat {I : Hp} {v : V} {d : D} (h : Rep I v d) (f : flatD d = true) : flatV v = true := by
  cases h <;> first | rfl | cases f
theorem Rep.eqv {I : Hp} {v w : V} {d e : D} (h : Rep I v d) (h' : Rep I w e) (f : flatD d = true) (f' : flatD e = true) : eqV v w = PyData.eqv d e := by
  cases h <;> first | (cases f; done) | (cases h' <;> first | (cases f'; done) | (simp only [eqV, PyData.eqv]))
theorem RepL.flat {I : Hp} : ∀ {vs : List V} {ds : List D}, RepL I vs ds → ds.all flatD = true → vs.all flatV = true
  | _, _, .nil, _ => rfl
  | _, _, .cons h r, f => by
    rw [List.all_cons, Bool.and_eq_true] at f
    rw [List.all_cons, h.flat f.1, RepL.flat r f.2]; rfl
def inD (x : D) (ds : List D) : Bool := ds.any fun y => PyData.eqv y x
theorem RepL.inV {I : Hp} {v : V} {x : D} (hx : Rep I v x) (fx : flatD x = true) : ∀ {vs : List V} {ds : List D}, RepL I vs ds → ds.all flatD = true → inV v vs = inD x ds
  | _, _, .nil, _ => rfl
  | _, _, .cons (v := w) (d := d) h r, f => by
    rw [List.all_cons, Bool.and_eq_true] at f
    have ih := RepL.inV hx fx r f.2
    unfold L2.inV inD at ih ⊢
    rw [List.any_cons, List.any_cons, ih, h.eqv hx f.1 fx]
def rInU (K : PySem.W.Frag) (neg : Bool) : R2 := rIn K neg
def dInB (f : Bool → Bool) : RD := fun x y Q => match y with
  | .list ds => (flatD x = true ∧ ds.all flatD = true) ∧ Q (.fz (.bool (f (inD x ds))))
  | .tuple ds => (flatD x = true ∧ ds.all flatD = true) ∧ Q (.fz (.bool (f (inD x ds))))
  | _ => False
def dIn : RD := dInB fun b => b
def dNotIn : RD := dInB fun b => !b
theorem RepH.rep {I H : Hp} {v : V} {d : D} (h : RepH I H v d) (f : flatD d = true) : Rep I v d := by
  rcases h with h | ⟨_, _, _, _, rfl, _⟩
  · exact h
  · cases f
theorem sr_in : SndR (rIn K false) dIn := fun F ρ I own σ H v w x y Qs Q R rx ry h k => by
  unfold dIn dInB at h
  split at h
  · obtain ⟨p, vs, rfl, h1, r1⟩ := ry.lst R.sub
    have rx' := rx.rep h.1.1
    refine ⟨p, vs, rfl, .inl (.of h1), rx'.flat h.1.1, r1.flat h.1.2, ?_⟩
    rw [if_neg Bool.false_ne_true, RepL.inV rx' h.1.1 r1 h.1.2]
    exact k _ I H _ R (Sub.refl _) (.fz (.bl _)) h.2
  · obtain ⟨p, vs, rfl, h1, r1⟩ := ry.tup
    have rx' := rx.rep h.1.1
    refine ⟨p, vs, rfl, .inr (.of (R.sub _ _ h1)), rx'.flat h.1.1, r1.flat h.1.2, ?_⟩
    rw [if_neg Bool.false_ne_true, RepL.inV rx' h.1.1 r1 h.1.2]
    exact k _ I H _ R (Sub.refl _) (.fz (.bl _)) h.2
  · exact h.elim
theorem sr_notin : SndR (rIn K true) dNotIn := fun F ρ I own σ H v w x y Qs Q R rx ry h k => by
  unfold dNotIn dInB at h
  split at h
  · obtain ⟨p, vs, rfl, h1, r1⟩ := ry.lst R.sub
    have rx' := rx.rep h.1.1
    refine ⟨p, vs, rfl, .inl (.of h1), rx'.flat h.1.1, r1.flat h.1.2, ?_⟩
    rw [if_pos rfl, RepL.inV rx' h.1.1 r1 h.1.2]
    exact k _ I H _ R (Sub.refl _) (.fz (.bl _)) h.2
  · obtain ⟨p, vs, rfl, h1, r1⟩ := ry.tup
    have rx' := rx.rep h.1.1
    refine ⟨p, vs, rfl, .inr (.of (R.sub _ _ h1)), rx'.flat h.1.1, r1.flat h.1.2, ?_⟩
    rw [if_pos rfl, RepL.inV rx' h.1.1 r1 h.1.2]
    exact k _ I H _ R (Sub.refl _) (.fz (.bl _)) h.2
  · exact h.elim

def dIx : RD := fun x y Q => match x, y with
  | .list ds, .int i => opt (atI ds i) fun d => Q (.fz d)
  | .tuple ds, .int i => opt (atI ds i) fun d => Q (.fz d)
  | .str z, .int i => z.length ≤ sizeLine ∧ opt (atI z.cps.toList i) fun c => Q (.fz (.str ⟨#[c]⟩))
  | _, _ => False
theorem RepL.atI {I : Hp} {vs : List V} {ds : List D} {i : Int} {d : D} (r : RepL I vs ds) (e : atI ds i = some d) : ∃ v, L2.atI vs i = some v ∧ Rep I v d := by
  unfold L2.atI at e ⊢
  rw [r.length]
  cases h : ixN ds.length i with
  | none => rw [h] at e; cases e
  | some j =>
    rw [h] at e
    exact r.get (by simpa using e)
theorem sr_ix : SndR (rIx K) dIx := fun F ρ I own σ H v w x y Qs Q R rx ry h k => by
  unfold dIx at h
  split at h
  · obtain ⟨p, vs, rfl, h1, r1⟩ := rx.lst R.sub
    obtain ⟨d, e, h⟩ := opt_elim h
    obtain ⟨u, e', ru⟩ := r1.atI e
    rw [ry.int]
    exact .inl ⟨p, vs, _, u, rfl, rfl, .of h1, e', k _ I H _ R (Sub.refl _) (.fz ru) h⟩
  · obtain ⟨p, vs, rfl, h1, r1⟩ := rx.tup
    obtain ⟨d, e, h⟩ := opt_elim h
    obtain ⟨u, e', ru⟩ := r1.atI e
    rw [ry.int]
    exact .inr (.inl ⟨p, vs, _, u, rfl, rfl, .of (R.sub _ _ h1), e', k _ I H _ R (Sub.refl _) (.fz ru) h⟩)
  · obtain ⟨hz, h⟩ := h
    obtain ⟨d, e, h⟩ := opt_elim h
    rw [rx.str, ry.int]
    exact .inr (.inr ⟨_, _, d, rfl, rfl, hz, e, k _ I H _ R (Sub.refl _) (.fz (.str _)) h⟩)
  · exact h.elim
end

section
variable {X : Cx} {L : List Nat} {a b : Expr} {ua ub : TE} {ta tb : DTB} {pos : Pos}
theorem de_ix (ha : DB X L a ua ta) (hb : DB X L b ub tb) (hs : PlainIx b := by exact fun _ _ => rfl) : DE X L (.Subscript a b pos) (tOp (rIx X.K) ua ub) (tBin dIx ta tb) :=
  ⟨pe_ix ix_seq ha.pe hb.pe hs, se_op sr_ix ha.snd hb.snd⟩

def dNeg (t : DTB) : DTE := fun ρ Q => t ρ fun b ρ1 => opt (b.get ρ1) fun x => match x with
  | .int i => Q (.fz (.int (-i))) ρ1
  | _ => False
theorem de_neg (ha : DB X L a ua ta) : DE X L (.UnaryOp .USub a pos) (tUn (rU fun i => .int (-i)) ua) (dNeg ta) :=
  ⟨pe_un un_neg ha.pe, fun F ρ I own σ H Qd Q fo R h k => ha.snd F ρ I own σ H _ _ fo R h fun b ρ1 I1 own1 H1 v R1 s1 r1 h1 => by
    obtain ⟨x, e, h1⟩ := opt_elim h1
    have rx := r1.rep R1 e
    split at h1
    · rw [rx.int]; exact ⟨_, rfl, k _ ρ1 I1 own1 H1 _ R1 s1 (.fz (.int _)) h1⟩
    · exact h1.elim⟩

def dNoPart : DEnv → (Option Int → DEnv → Prop) → Prop := fun ρ Q => Q none ρ
def dPart (t : DTB) : DEnv → (Option Int → DEnv → Prop) → Prop := fun ρ Q => t ρ fun b ρ1 => opt (b.get ρ1) fun x => match x with
  | .int i => Q (some i) ρ1
  | _ => False
structure DO (X : Cx) (L : List Nat) (e : Option Expr) (u : TO) (t : DEnv → (Option Int → DEnv → Prop) → Prop) : Prop where
  pe : PO X e u
  snd : ∀ F ρ I own σ H Qd Q, FOk F L → Rel F ρ I own σ H → t ρ Qd → (∀ o ρ1 I1 own1 H1, Rel F ρ1 I1 own1 σ H1 → Sub I I1 → Qd o ρ1 → Q o H1) → u σ H Q
theorem do_none : DO X L none tNoPart dNoPart := ⟨po_none, fun F ρ I own σ H Qd Q _ R h k => k none ρ I own H R (Sub.refl _) h⟩
theorem do_some (ha : DB X L a ua ta) : DO X L (some a) (tPart ua) (dPart ta) := ⟨po_some ha.pe, fun F ρ I own σ H Qd Q fo R h k =>
  ha.snd F ρ I own σ H _ _ fo R h fun b ρ1 I1 own1 H1 v R1 s1 r1 h1 => by
    obtain ⟨x, e, h1⟩ := opt_elim h1
    have rx := r1.rep R1 e
    split at h1
    · rw [rx.int]; exact ⟨_, rfl, k _ ρ1 I1 own1 H1 R1 s1 h1⟩
    · exact h1.elim⟩
/-- the part from lo on, ahead of hi -/
def cutD {α : Type} (xs : List α) (lo hi : Option Int) : List α := (xs.drop (HT.sIx xs.length 0 lo)).take (HT.sIx xs.length xs.length hi - HT.sIx xs.length 0 lo)
def dSl (t : DTB) (tl th : DEnv → (Option Int → DEnv → Prop) → Prop) : DTE := fun ρ Q => t ρ fun b ρ1 => tl ρ1 fun l ρ2 => th ρ2 fun h ρ3 => opt (b.get ρ3) fun x => match x with
  | .list ds => Q (.lst (cutD ds l h)) ρ3
  | .tuple ds => Q (.fz (.tuple (cutD ds l h))) ρ3
  | .str z => z.length ≤ sizeLine ∧ Q (.fz (.str (cutS z l h))) ρ3
  | _ => False
def rSlU (K : PySem.W.Frag) : V → Option Int → Option Int → Hp → VK → Prop := fun x lo hi H Q => rSlL K x lo hi H Q ∨ (rSlA K x lo hi H Q ∨ rSlS x lo hi H Q)
theorem sl_U : SlR X (rSlU X.K) := SlR.or sl_list (SlR.or sl_tupA sl_str)
theorem RepL.cut {I : Hp} {vs : List V} {ds : List D} (r : RepL I vs ds) (lo hi : Option Int) : RepL I (cutV vs lo hi) (cutD ds lo hi) := by
  unfold cutV cutD
  rw [r.length]
  exact (r.drop _).take _
theorem de_slice {lo hi : Option Expr} {ul uh : TO} {tl th : DEnv → (Option Int → DEnv → Prop) → Prop} {p2 : Pos} (ha : DB X L a ua ta) (hl : DO X L lo ul tl) (hh : DO X L hi uh th) :
    DE X L (.Subscript a (.Slice lo hi none p2) pos) (tSl (rSlU X.K) ua ul uh) (dSl ta tl th) :=
  ⟨pe_slice sl_U ha.pe hl.pe hh.pe, fun F ρ I own σ H Qd Q fo R h k => ha.snd F ρ I own σ H _ _ fo R h fun b ρ1 I1 own1 H1 v R1 s1 r1 h1 =>
    hl.snd F ρ1 I1 own1 σ H1 _ _ fo R1 h1 fun l ρ2 I2 own2 H2 R2 s2 h2 => hh.snd F ρ2 I2 own2 σ H2 _ _ fo R2 h2 fun g ρ3 I3 own3 H3 R3 s3 h3 => by
      obtain ⟨x, e, h3⟩ := opt_elim h3
      have rx := (r1.mono (s2.trans s3)).rep R3 e
      have s := (s1.trans s2).trans s3
      split at h3
      · obtain ⟨p, vs, rfl, h1', r1'⟩ := rx.lst R3.sub
        exact .inl ⟨p, vs, rfl, .of h1', fun q hq => k _ ρ3 I3 own3 _ _ (R3.laid hq) s (ResOk.new R3 hq (r1'.cut l g)) h3⟩
      · obtain ⟨p, vs, rfl, h1', r1'⟩ := rx.tup
        refine .inr (.inl ⟨p, vs, rfl, .of (R3.sub _ _ h1'), fun z => ?_, fun z q hq => ?_⟩)
        · rename_i ds
          have e2 : cutD ds l g = ds := by
            unfold cutD
            rw [r1'.length] at z
            rw [z.1, z.2, List.drop_zero, Nat.sub_zero, List.take_length]
          rw [e2] at h3
          exact k _ ρ3 I3 own3 H3 _ R3 s (.fz (.tup h1' r1')) h3
        · obtain ⟨R4, s4⟩ := R3.born (o := .tup (cutV vs l g)) hq
          exact k _ ρ3 _ own3 _ _ R4 (s.trans s4) (.fz (.tup upd_same ((r1'.cut l g).mono s4))) h3
      · rw [rx.str]
        exact .inr (.inr ⟨_, rfl, h3.1, k _ ρ3 I3 own3 H3 _ R3 s (.fz (.str _)) h3.2⟩)
      · exact h3.elim⟩
/-- x[::-1] of a list -/
def dRev (t : DTB) : DTE := fun ρ Q => t ρ fun b ρ1 => opt (b.get ρ1) fun x => match x with
  | .list ds => Q (.lst ds.reverse) ρ1
  | _ => False
theorem de_rev {k : Nat} {p1 p2 p3 : Pos} (ha : DB X L a ua ta) : DE X L (.Subscript a (.Slice none none (some (.UnaryOp .USub (.Constant (.int 1) k p1) p2)) p3) pos) (tRevL X.K ua) (dRev ta) :=
  ⟨pe_revL ha.pe, fun F ρ I own σ H Qd Q fo R h k => ha.snd F ρ I own σ H _ _ fo R h fun b ρ1 I1 own1 H1 v R1 s1 r1 h1 => by
    obtain ⟨x, e, h1⟩ := opt_elim h1
    have rx := r1.rep R1 e
    split at h1
    · obtain ⟨p, vs, rfl, h1', r1'⟩ := rx.lst R1.sub
      exact ⟨p, vs, rfl, .of h1', fun q hq => k _ ρ1 I1 own1 _ _ (R1.laid hq) s1 (ResOk.new R1 hq r1'.reverse) h1⟩
    · exact h1.elim⟩

variable {es : List Expr} {us : TA} {ts : DTA}
def SndC (r : List V → Hp → VK → Prop) (rd : List D → (Slot → Prop) → Prop) : Prop := ∀ F ρ I own σ H vs ds Qs Q, Rel F ρ I own σ H → Paired (RepH I H) vs ds → rd ds Qs →
  (∀ s I' H' z, Rel F ρ I' own σ H' → Sub I I' → ResOk F I' own H' z s → Qs s → Q z H') → r vs H Q
def dCall (rd : List D → (Slot → Prop) → Prop) (ta : DTA) : DTE := fun ρ Q => ta ρ fun bs ρ1 => opt (getD' ρ1 bs) fun ds => rd ds fun s => Q s ρ1
theorem se_cb {r : List V → Hp → VK → Prop} {rd : List D → (Slot → Prop) → Prop} (hr : SndC r rd) (ha : SA L us ts) : SE L (tCB r us) (dCall rd ts) := fun F ρ I own σ H Qd Q fo R h k =>
  ha F ρ I own σ H _ _ fo R h fun bs ρ1 I1 own1 H1 vs R1 s1 r1 h1 => by
    obtain ⟨ds, e, h1⟩ := opt_elim h1
    exact hr F ρ1 I1 own1 σ H1 vs ds _ Q R1 (getD'_rep R1 r1 e) h1 fun s I' H' z R' s' r' q => k s ρ1 I' own1 H' z R' (s1.trans s') r' q
theorem de_callB {id : String} {x : Str} {p : Pos} {r : List V → Hp → VK → Prop} {rd : List D → (Slot → Prop) → Prop} (hc : CallR X (.builtin id) r) (hr : SndC r rd) (hg : Gl X x) (hm : X.mg x = none) (hv : bootBuiltins x = some (.builtin id)) (ha : DA X L (a :: es) us ts) (hn : x ≠ "__name__" := by decide) (hdb : (x == ("__debug__" : Str)) = false := by decide)
    (he : starEach (a :: es) X.env = (false, eval a X.env) :: starEach es X.env := by rfl) (hpl : (backTo pos (starEach es X.env)).any (·.1) = false := by rfl) : DE X L (.Call (.Name x p) (a :: es) [] pos) (tCB r us) (dCall rd ts) := ⟨pe_callB hc hg hm hv ha.pe hn hdb he hpl, se_cb hr ha.snd⟩
theorem de_callTy {T : String} {x : Str} {p : Pos} {r : List V → Hp → VK → Prop} {rd : List D → (Slot → Prop) → Prop} (hc : CallR X (.type T) r) (hr : SndC r rd) (hg : Gl X x) (hm : X.mg x = none) (hv : bootBuiltins x = some (.type T)) (ha : DA X L (a :: es) us ts) (hn : x ≠ "__name__" := by decide) (hdb : (x == ("__debug__" : Str)) = false := by decide)
    (he : starEach (a :: es) X.env = (false, eval a X.env) :: starEach es X.env := by rfl) (hpl : (backTo pos (starEach es X.env)).any (·.1) = false := by rfl) : DE X L (.Call (.Name x p) (a :: es) [] pos) (tCB r us) (dCall rd ts) := ⟨pe_callTy hc hg hm hv ha.pe hn hdb he hpl, se_cb hr ha.snd⟩
end
end DL

set_option Elab.async false
set_option linter.all false
set_option maxRecDepth 100000
namespace DL
open PySem PySem.Spec L2
open PyProof.Rows hiding St

section
variable {X : Cx} {K : PySem.W.Frag}
abbrev RC := List D → (Slot → Prop) → Prop
theorem one_of {I H : Hp} {vs : List V} {d : D} (h : Paired (RepH I H) vs [d]) : ∃ v, vs = [v] ∧ RepH I H v d := by
  cases h with
  | cons h r => cases r; exact ⟨_, rfl, h⟩
theorem two_of {I H : Hp} {vs : List V} {d e : D} (h : Paired (RepH I H) vs [d, e]) : ∃ v w, vs = [v, w] ∧ RepH I H v d ∧ RepH I H w e := by
  cases h with
  | cons h r =>
    obtain ⟨w, rfl, h2⟩ := one_of r
    exact ⟨_, _, rfl, h, h2⟩

/-- a list whose items are all ints; all truths -/
def intsOf : List D → Option (List Int)
  | [] => some []
  | .int i :: ds => (intsOf ds).map (i :: ·)
  | _ => none
theorem intsOf_map : ∀ ns : List Int, intsOf (ns.map PyData.int) = some ns
  | [] => rfl
  | n :: ns => by simp only [List.map_cons, intsOf, intsOf_map ns, Option.map_some]
theorem intsOf_some : ∀ {ds : List D} {ns : List Int}, intsOf ds = some ns → ds = ns.map PyData.int
  | [], ns, h => by cases h; rfl
  | d :: ds, ns, h => by
    cases d with
    | int i =>
      simp only [intsOf, Option.map_eq_some_iff] at h
      obtain ⟨ms, h1, rfl⟩ := h
      rw [intsOf_some h1]; rfl
    | _ => cases h
def boolsOf : List D → Option (List Bool)
  | [] => some []
  | .bool i :: ds => (boolsOf ds).map (i :: ·)
  | _ => none
theorem boolsOf_map : ∀ ns : List Bool, boolsOf (ns.map PyData.bool) = some ns
  | [] => rfl
  | n :: ns => by simp only [List.map_cons, boolsOf, boolsOf_map ns, Option.map_some]
theorem boolsOf_some : ∀ {ds : List D} {ns : List Bool}, boolsOf ds = some ns → ds = ns.map PyData.bool
  | [], ns, h => by cases h; rfl
  | d :: ds, ns, h => by
    cases d with
    | bool i =>
      simp only [boolsOf, Option.map_eq_some_iff] at h
      obtain ⟨ms, h1, rfl⟩ := h
      rw [boolsOf_some h1]; rfl
    | _ => cases h

/-- len -/
def cLen : RC := fun ds Q => match ds with
  | [.list xs] => Q (.fz (.int xs.length))
  | [.tuple xs] => Q (.fz (.int xs.length))
  | [.str z] => z.length ≤ sizeLine ∧ Q (.fz (.int z.length))
  | _ => False
theorem sc_len : SndC (fun xs H Q => ∃ x n, xs = [x] ∧ LenV K x H n ∧ Q (.int n) H) cLen := fun F ρ I own σ H vs ds Qs Q R rx h k => by
  unfold cLen at h
  split at h
  · obtain ⟨v, rfl, rv⟩ := one_of rx
    obtain ⟨p, ws, rfl, h1, r1⟩ := rv.lst R.sub
    refine ⟨_, _, rfl, .inl ⟨ws, .of h1, rfl⟩, ?_⟩
    rw [r1.length]
    exact k _ I H _ R (Sub.refl _) (.fz (.int _)) h
  · obtain ⟨v, rfl, rv⟩ := one_of rx
    obtain ⟨p, ws, rfl, h1, r1⟩ := rv.tup
    refine ⟨_, _, rfl, .inr ⟨ws, .of (R.sub _ _ h1), rfl⟩, ?_⟩
    rw [r1.length]
    exact k _ I H _ R (Sub.refl _) (.fz (.int _)) h
  · obtain ⟨v, rfl, rv⟩ := one_of rx
    rw [rv.str]
    exact ⟨_, _, rfl, ⟨h.1, rfl⟩, k _ I H _ R (Sub.refl _) (.fz (.int _)) h.2⟩
  · exact h.elim
/-- sum, max, min of a list of ints -/
def cSum : RC := fun ds Q => match ds with
  | [.list xs] => opt (intsOf xs) fun ns => Q (.fz (.int ns.sum))
  | _ => False
theorem sc_sum : SndC (rSum K) cSum := fun F ρ I own σ H vs ds Qs Q R rx h k => by
  unfold cSum at h
  split at h
  · obtain ⟨v, rfl, rv⟩ := one_of rx
    obtain ⟨p, ws, rfl, h1, r1⟩ := rv.lst R.sub
    obtain ⟨ns, e, h⟩ := opt_elim h
    rw [intsOf_some e] at r1
    rw [r1.ints] at h1
    exact ⟨p, ns, rfl, .of h1, k _ I H _ R (Sub.refl _) (.fz (.int _)) h⟩
  · exact h.elim
def cMax : RC := fun ds Q => match ds with
  | [.list xs] => opt (intsOf xs) fun ns => 0 < ns.length ∧ ∀ m, m ∈ ns → (∀ y ∈ ns, y ≤ m) → Q (.fz (.int m))
  | [.int i, .int j] => Q (.fz (.int (if j > i then j else i)))
  | _ => False
def rMaxU (K : PySem.W.Frag) : List V → Hp → VK → Prop := fun vs H Q => rMax K vs H Q ∨ ∃ i j, vs = [V.int i, V.int j] ∧ Q (.int (if j > i then j else i)) H
theorem cr_maxU (hc : X.calm = true) : CallR X (.builtin "max") (rMaxU X.K) := CallR.or (cr_max hc) (call_max2 hc)
theorem sc_max : SndC (rMaxU K) cMax := fun F ρ I own σ H vs ds Qs Q R rx h k => by
  unfold cMax at h
  split at h
  · obtain ⟨v, rfl, rv⟩ := one_of rx
    obtain ⟨p, ws, rfl, h1, r1⟩ := rv.lst R.sub
    obtain ⟨ns, e, h⟩ := opt_elim h
    rw [intsOf_some e] at r1
    rw [r1.ints] at h1
    exact .inl ⟨p, ns, rfl, .of h1, h.1, fun m hm hy => k _ I H _ R (Sub.refl _) (.fz (.int _)) (h.2 m hm hy)⟩
  · obtain ⟨v, w, rfl, rv, rw'⟩ := two_of rx
    rw [rv.int, rw'.int]
    exact .inr ⟨_, _, rfl, k _ I H _ R (Sub.refl _) (.fz (.int _)) h⟩
  · exact h.elim
def cMin : RC := fun ds Q => match ds with
  | [.list xs] => opt (intsOf xs) fun ns => 0 < ns.length ∧ ∀ m, m ∈ ns → (∀ y ∈ ns, m ≤ y) → Q (.fz (.int m))
  | [.int i, .int j] => Q (.fz (.int (if j < i then j else i)))
  | _ => False
def rMinU (K : PySem.W.Frag) : List V → Hp → VK → Prop := fun vs H Q => rMin K vs H Q ∨ ∃ i j, vs = [V.int i, V.int j] ∧ Q (.int (if j < i then j else i)) H
theorem cr_minU (hc : X.calm = true) : CallR X (.builtin "min") (rMinU X.K) := CallR.or (cr_min hc) (call_min2 hc)
theorem sc_min : SndC (rMinU K) cMin := fun F ρ I own σ H vs ds Qs Q R rx h k => by
  unfold cMin at h
  split at h
  · obtain ⟨v, rfl, rv⟩ := one_of rx
    obtain ⟨p, ws, rfl, h1, r1⟩ := rv.lst R.sub
    obtain ⟨ns, e, h⟩ := opt_elim h
    rw [intsOf_some e] at r1
    rw [r1.ints] at h1
    exact .inl ⟨p, ns, rfl, .of h1, h.1, fun m hm hy => k _ I H _ R (Sub.refl _) (.fz (.int _)) (h.2 m hm hy)⟩
  · obtain ⟨v, w, rfl, rv, rw'⟩ := two_of rx
    rw [rv.int, rw'.int]
    exact .inr ⟨_, _, rfl, k _ I H _ R (Sub.refl _) (.fz (.int _)) h⟩
  · exact h.elim
/-- abs, int, bool, str of an int -/
def cAbs : RC := fun ds Q => match ds with
  | [.int i] => Q (.fz (.int (if i < 0 then -i else i)))
  | _ => False
theorem sc_abs : SndC (fun xs H Q => ∃ i, xs = [.int i] ∧ Q (.int (if i < 0 then -i else i)) H) cAbs := fun F ρ I own σ H vs ds Qs Q R rx h k => by
  unfold cAbs at h
  split at h
  · obtain ⟨v, rfl, rv⟩ := one_of rx
    rw [rv.int]
    exact ⟨_, rfl, k _ I H _ R (Sub.refl _) (.fz (.int _)) h⟩
  · exact h.elim
def cInt : RC := fun ds Q => match ds with
  | [.int i] => Q (.fz (.int i))
  | [.bool b] => Q (.fz (.int (if b then 1 else 0)))
  | _ => False
theorem sc_int : SndC (fun xs H Q => (∃ i, xs = [.int i] ∧ Q (.int i) H) ∨ ∃ k, xs = [.bl k] ∧ Q (.int (if k then 1 else 0)) H) cInt := fun F ρ I own σ H vs ds Qs Q R rx h k => by
  unfold cInt at h
  split at h
  · obtain ⟨v, rfl, rv⟩ := one_of rx
    rw [rv.int]
    exact .inl ⟨_, rfl, k _ I H _ R (Sub.refl _) (.fz (.int _)) h⟩
  · obtain ⟨v, rfl, rv⟩ := one_of rx
    rw [rv.bl]
    exact .inr ⟨_, rfl, k _ I H _ R (Sub.refl _) (.fz (.int _)) h⟩
  · exact h.elim
def cStr : RC := fun ds Q => match ds with
  | [.int i] => i.natAbs.log2 < 1920 ∧ Q (.fz (.str (toString i)))
  | _ => False
theorem sc_str : SndC (fun xs H Q => ∃ i, xs = [.int i] ∧ i.natAbs.log2 < 1920 ∧ Q (.str (toString i)) H) cStr := fun F ρ I own σ H vs ds Qs Q R rx h k => by
  unfold cStr at h
  split at h
  · obtain ⟨v, rfl, rv⟩ := one_of rx
    rw [rv.int]
    exact ⟨_, rfl, h.1, k _ I H _ R (Sub.refl _) (.fz (.str _)) h.2⟩
  · exact h.elim
/-- list(x) -/
def cList : RC := fun ds Q => match ds with
  | [.list xs] => Q (.lst xs)
  | [.tuple xs] => Q (.lst xs)
  | _ => False
theorem sc_list : SndC (fun xs H Q => ∃ p ys, xs = [.ref p] ∧ (SqL K H p ys ∨ SqT K H p ys) ∧ ∀ l, H l = none → Q (.ref l) (upd H l (.lst ys))) cList := fun F ρ I own σ H vs ds Qs Q R rx h k => by
  unfold cList at h
  split at h
  · obtain ⟨v, rfl, rv⟩ := one_of rx
    obtain ⟨p, ws, rfl, h1, r1⟩ := rv.lst R.sub
    exact ⟨p, ws, rfl, .inl (.of h1), fun l hl => k _ I _ _ (R.laid hl) (Sub.refl _) (ResOk.new R hl r1) h⟩
  · obtain ⟨v, rfl, rv⟩ := one_of rx
    obtain ⟨p, ws, rfl, h1, r1⟩ := rv.tup
    exact ⟨p, ws, rfl, .inr (.of (R.sub _ _ h1)), fun l hl => k _ I _ _ (R.laid hl) (Sub.refl _) (ResOk.new R hl r1) h⟩
  · exact h.elim
/-- all, any of a list of truths -/
def cAll : RC := fun ds Q => match ds with
  | [.list xs] => opt (boolsOf xs) fun ns => Q (.fz (.bool (ns.all id)))
  | _ => False
theorem sc_all : SndC (rAll K) cAll := fun F ρ I own σ H vs ds Qs Q R rx h k => by
  unfold cAll at h
  split at h
  · obtain ⟨v, rfl, rv⟩ := one_of rx
    obtain ⟨p, ws, rfl, h1, r1⟩ := rv.lst R.sub
    obtain ⟨ns, e, h⟩ := opt_elim h
    rw [boolsOf_some e] at r1
    rw [r1.bools] at h1
    exact ⟨p, ns, rfl, .of h1, k _ I H _ R (Sub.refl _) (.fz (.bl _)) h⟩
  · exact h.elim
def cAny : RC := fun ds Q => match ds with
  | [.list xs] => opt (boolsOf xs) fun ns => Q (.fz (.bool (ns.any id)))
  | _ => False
theorem sc_any : SndC (rAny K) cAny := fun F ρ I own σ H vs ds Qs Q R rx h k => by
  unfold cAny at h
  split at h
  · obtain ⟨v, rfl, rv⟩ := one_of rx
    obtain ⟨p, ws, rfl, h1, r1⟩ := rv.lst R.sub
    obtain ⟨ns, e, h⟩ := opt_elim h
    rw [boolsOf_some e] at r1
    rw [r1.bools] at h1
    exact ⟨p, ns, rfl, .of h1, k _ I H _ R (Sub.refl _) (.fz (.bl _)) h⟩
  · exact h.elim

inductive TyN where
  | bool | int | str | tuple | list | dict
def TyN.nm : TyN → String
  | .bool => "bool" | .int => "int" | .str => "str" | .tuple => "tuple" | .list => "list" | .dict => "dict"
def tyD : D → String
  | .none => "NoneType" | .bool _ => "bool" | .int _ => "int" | .str _ => "str" | .list _ => "list" | .tuple _ => "tuple" | .dict _ => "dict"
def isTy : TyN → D → Bool
  | .bool, .bool _ => true
  | .int, .int _ => true
  | .int, .bool _ => true
  | .str, .str _ => true
  | .tuple, .tuple _ => true
  | .list, .list _ => true
  | .dict, .dict _ => true
  | _, _ => false
def tagD : D → Fin 7
  | .none => 0 | .bool _ => 1 | .int _ => 2 | .str _ => 3 | .list _ => 4 | .tuple _ => 5 | .dict _ => 6
def tagN : Fin 7 → String
  | 0 => "NoneType" | 1 => "bool" | 2 => "int" | 3 => "str" | 4 => "list" | 5 => "tuple" | 6 => "dict"
def isTag : TyN → Fin 7 → Bool
  | .bool, k => k == 1
  | .int, k => k == 1 || k == 2
  | .str, k => k == 3
  | .tuple, k => k == 5
  | .list, k => k == 4
  | .dict, k => k == 6
theorem kit_tag (t : TyN) : ∀ k : Fin 7, kitB (tagN k) t.nm = some (isTag t k) := by
  cases t
  · decide +kernel
  · decide +kernel
  · decide +kernel
  · decide +kernel
  · decide +kernel
  · decide +kernel
theorem kit_isTy (t : TyN) (d : D) : kitB (tyD d) t.nm = some (isTy t d) := by
  have h := kit_tag t (tagD d)
  have e1 : tagN (tagD d) = tyD d := by cases d <;> rfl
  have e2 : isTag t (tagD d) = isTy t d := by cases t <;> cases d <;> rfl
  rw [e1, e2] at h
  exact h
theorem RepH.tyOf {I H : Hp} {v : V} {d : D} (s : Sub I H) (h : RepH I H v d) : TyX K H v (.type (tyD d)) := by
  rcases h with h | ⟨p, vs, ds, rfl, rfl, h1, _⟩
  · cases h with
    | non => exact .base .non
    | bl b => exact .base (.bl b)
    | int i => exact .base (.int i)
    | str x => exact .base (.str x)
    | lst h _ => exact .base (.lst (s _ _ h))
    | tup h _ => exact .base (.tup (s _ _ h))
  · exact .base (.lst h1)
end
section
variable {X : Cx} {L : List Nat} {a b : Expr} {ua ub : TE} {ta tb : DTB} {pos : Pos}
def dIsi (f : D → Bool) (t : DTB) : DTE := fun ρ Q => t ρ fun b ρ1 => opt (b.get ρ1) fun x => Q (.fz (.bool (f x))) ρ1
theorem de_isi {x : Str} {p q : Pos} (t : TyN) (hg : Gl X "isinstance") (hm : X.mg "isinstance" = none) (ha : DB X L a ua ta) (hb : PE X (.Name x q) (tC (.ty t.nm))) (hs1 : starEach [a, .Name x q] X.env = (false, eval a X.env) :: starEach [.Name x q] X.env := by rfl) (hs2 : starEach [.Name x q] X.env = (false, eval (.Name x q) X.env) :: starEach [] X.env := by rfl)
    (hpl : (backTo pos (starEach [.Name x q] X.env)).any (·.1) = false := by rfl) :
    DE X L (.Call (.Name "isinstance" p) [a, .Name x q] [] pos) (tCB (rIsi X.K) (tCons ua (tCons (tC (.ty t.nm)) tNil))) (dIsi (isTy t) ta) :=
  ⟨pe_callB call_isi hg hm boot_isinstance (pa_cons ha.pe (pa_cons hb pa_nil hs2) hs1) (he := hs1) (hpl := hpl), fun F ρ I own σ H Qd Q fo R h k => ha.snd F ρ I own σ H _ _ fo R h fun b ρ1 I1 own1 H1 v R1 s1 r1 h1 => by
    obtain ⟨d, e, h1⟩ := opt_elim h1
    have rx := r1.rep R1 e
    exact ⟨v, .ty t.nm, _, _, _, rfl, .ty _, rx.tyOf R1.sub, kit_ty (kit_isTy t d), k _ ρ1 I1 own1 H1 _ R1 s1 (.fz (.bl _)) h1⟩⟩
/-- isinstance(x, (A, B)) -/
theorem de_isi2 {x y : Str} {p q q2 q3 : Pos} {z : Nat} (t t2 : TyN) (hg : Gl X "isinstance") (hm : X.mg "isinstance" = none) (ha : DB X L a ua ta) (hb : PE X (.Name x q) (tC (.ty t.nm))) (hb2 : PE X (.Name y q2) (tC (.ty t2.nm)))
    (hs1 : starEach [a, .Tuple [.Name x q, .Name y q2] z q3] X.env = (false, eval a X.env) :: starEach [.Tuple [.Name x q, .Name y q2] z q3] X.env := by rfl) (hs2 : starEach [.Tuple [.Name x q, .Name y q2] z q3] X.env = (false, eval (.Tuple [.Name x q, .Name y q2] z q3) X.env) :: starEach [] X.env := by rfl)
    (hs3 : starEach [.Name x q, .Name y q2] X.env = (false, eval (.Name x q) X.env) :: starEach [.Name y q2] X.env := by rfl) (hs4 : starEach [.Name y q2] X.env = (false, eval (.Name y q2) X.env) :: starEach [] X.env := by rfl)
    (hpl : (backTo pos (starEach [.Tuple [.Name x q, .Name y q2] z q3] X.env)).any (·.1) = false := by rfl) :
    DE X L (.Call (.Name "isinstance" p) [a, .Tuple [.Name x q, .Name y q2] z q3] [] pos) (tCB (rIsiT X.K) (tCons ua (tCons (tTup (tCons (tC (.ty t.nm)) (tCons (tC (.ty t2.nm)) tNil))) tNil))) (dIsi (fun d => isTy t d || isTy t2 d) ta) :=
  ⟨pe_callB call_isiT hg hm boot_isinstance (pa_cons ha.pe (pa_cons (pe_tup (pa_cons hb (pa_cons hb2 pa_nil hs4) hs3)) pa_nil hs2) hs1) (he := hs1) (hpl := hpl), fun F ρ I own σ H Qd Q fo R h k => ha.snd F ρ I own σ H _ _ fo R h fun b ρ1 I1 own1 H1 v R1 s1 r1 h1 => by
    obtain ⟨d, e, h1⟩ := opt_elim h1
    have rx := r1.rep R1 e
    refine ⟨by show 2 ≤ sizeLine; decide, fun tp htp => ?_⟩
    have R2 := R1.laid (o := .tup [.ty t.nm, .ty t2.nm]) htp
    have rx2 : RepH I1 (upd H1 tp (.tup [.ty t.nm, .ty t2.nm])) v d := r1.rep R2 e
    refine ⟨v, tp, _, _, [.type t.nm, .type t2.nm], _, rfl, upd_same, .cons (.ty _) (.cons (.ty _) .nil), rx2.tyOf R2.sub, ?_, k _ ρ1 I1 own1 _ _ R2 s1 (.fz (.bl _)) h1⟩
    refine kitAny_cons (kit_ty (kit_isTy t d)) (fun e0 => kitAny_cons (kit_ty (kit_isTy t2 d)) (fun e1 => ?_) fun e1 => ?_) fun e0 => ?_
    · show _ = some (isTy t d || isTy t2 d); rw [e0, e1]; exact kitAny_nil
    · show (isTy t d || isTy t2 d) = true; rw [e1, Bool.or_true]
    · show (isTy t d || isTy t2 d) = true; rw [e0, Bool.true_or]⟩

def srt (ns : List Int) : List Int := ns.mergeSort fun a b => decide (a ≤ b)
theorem srt_perm (ns : List Int) : (srt ns).Perm ns := List.mergeSort_perm _ _
theorem srt_sorted (ns : List Int) : (srt ns).Pairwise (· ≤ ·) := by
  have h := List.pairwise_mergeSort (le := fun a b : Int => decide (a ≤ b)) (by intro a b c h1 h2; have := of_decide_eq_true h1; have := of_decide_eq_true h2; exact decide_eq_true (by omega)) (by intro a b; rw [Bool.or_eq_true]; by_cases h : a ≤ b; exact .inl (decide_eq_true h); exact .inr (decide_eq_true (by omega))) ns
  exact h.imp fun x => of_decide_eq_true x
theorem srt_of {ns ms : List Int} (p : ms.Perm ns) (s : ms.Pairwise (· ≤ ·)) : ms = srt ns :=
  (p.trans (srt_perm ns).symm).eq_of_pairwise (le := (· ≤ ·)) (by intro a b _ _ h1 h2; omega) s (srt_sorted ns)
def cSorted : RC := fun ds Q => match ds with
  | [.list xs] => opt (intsOf xs) fun ns => Q (.lst ((srt ns).map PyData.int))
  | _ => False
theorem sc_sorted {K : PySem.W.Frag} : SndC (rSortedI K) cSorted := fun F ρ I own σ H vs ds Qs Q R rx h k => by
  unfold cSorted at h
  split at h
  · obtain ⟨v, rfl, rv⟩ := one_of rx
    obtain ⟨p, ws, rfl, h1, r1⟩ := rv.lst R.sub
    obtain ⟨ns, e, h⟩ := opt_elim h
    rw [intsOf_some e] at r1
    rw [r1.ints] at h1
    exact ⟨p, ns, rfl, .of h1, fun ns' q hp hs hq => by rw [srt_of hp hs]; exact k _ I _ _ (R.laid hq) (Sub.refl _) (ResOk.new R hq (.ofInts _)) h⟩
  · exact h.elim

abbrev PSpec := List Slot → (Slot → List Slot → Prop) → Prop
def frozenS : Slot → Bool
  | .un => true
  | .fz _ => true
  | _ => false
/-- a def's promise: the slots as they come; lf: whose things belong to the caller and may be changed -/
def spD (n : Nat) (lf : List Nat) (P : PSpec) : Sp := fun vs H Q _ => vs.length = n ∧ ∃ (as : List Slot) (F : Fx) (own : Addr → Option Nat) (Qd : Slot → List Slot → Prop), as.length = n ∧
  (∀ i, F.fix i = if i ∈ lf then vs[i]? else none) ∧ FOk F lf ∧ (∀ i, i ∉ lf → frozenS (as.getD i .un) = true) ∧ Rel F as F.I0 own (vs.map some) H ∧ P as Qd ∧
  ∀ s as' I' own' H' v, as'.length = n → (∀ i, i ∉ lf → as'.getD i .un = as.getD i .un) → Rel F as' I' own' (vs.map some) H' → ResOk F I' own' H' v s → Qd s as' → Q v H'

/-- the caller's slot that is lent as the j-th argument, and back -/
def fwd (lp : List (Nat × Nat)) (j : Nat) : Option Nat := (lp.find? fun p => p.1 == j).map (·.2)
def bwd (lp : List (Nat × Nat)) (i : Nat) : Option Nat := (lp.find? fun p => p.2 == i).map (·.1)
def lpOk (n : Nat) (lp : List (Nat × Nat)) : Bool := lp.all fun p => decide (p.1 < n) && (decide (bwd lp p.2 = some p.1) && decide (fwd lp p.1 = some p.2))
theorem fwd_mem {lp : List (Nat × Nat)} {j i : Nat} (h : fwd lp j = some i) : (j, i) ∈ lp := by
  unfold fwd at h
  rw [Option.map_eq_some_iff] at h
  obtain ⟨p, h1, rfl⟩ := h
  have := List.find?_some h1
  have e : p.1 = j := by simpa using this
  subst e
  exact List.mem_of_find?_eq_some h1
theorem bwd_mem {lp : List (Nat × Nat)} {j i : Nat} (h : bwd lp i = some j) : (j, i) ∈ lp := by
  unfold bwd at h
  rw [Option.map_eq_some_iff] at h
  obtain ⟨p, h1, rfl⟩ := h
  have := List.find?_some h1
  have e : p.2 = i := by simpa using this
  subst e
  exact List.mem_of_find?_eq_some h1
theorem lpOk_b {n : Nat} {lp : List (Nat × Nat)} (h : lpOk n lp = true) {j i : Nat} (m : (j, i) ∈ lp) : j < n ∧ bwd lp i = some j ∧ fwd lp j = some i := by
  unfold lpOk at h
  rw [List.all_eq_true] at h
  have := h _ m
  rw [Bool.and_eq_true, Bool.and_eq_true] at this
  exact ⟨of_decide_eq_true this.1, of_decide_eq_true this.2.1, of_decide_eq_true this.2.2⟩

/-- the callee's slots -/
def argS (ρ : DEnv) (lp : List (Nat × Nat)) : Nat → List BV → Option (List Slot)
  | _, [] => some []
  | j, b :: bs => match (match fwd lp j, b with
      | some i, .v i' => if i = i' then some (ρ.at i) else none
      | none, .d x => some (.fz x)
      | _, _ => none), argS ρ lp (j + 1) bs with
    | some s, some ss => some (s :: ss)
    | _, _ => none
def backS (lp : List (Nat × Nat)) (as' : List Slot) (ρ : DEnv) : DEnv := lp.foldl (fun ρ p => ρ.set p.2 (as'.getD p.1 .un)) ρ
def tCallD (n : Nat) (lp : List (Nat × Nat)) (P : PSpec) (ta : DTA) : DTE := fun ρ Q => ta ρ fun bs ρ1 => opt (argS ρ1 lp 0 bs) fun as => as.length = n ∧ P as fun s as' => Q s (backS lp as' ρ1)

theorem argS_len {ρ : DEnv} {lp : List (Nat × Nat)} : ∀ {bs : List BV} {j : Nat} {as : List Slot}, argS ρ lp j bs = some as → as.length = bs.length
  | [], _, _, e => by cases e; rfl
  | b :: bs, j, as, e => by
    simp only [argS] at e
    split at e
    · rename_i s ss e1 e2; cases e; simp [argS_len e2]
    · cases e
theorem argS_at {ρ : DEnv} {lp : List (Nat × Nat)} : ∀ {bs : List BV} {j : Nat} {as : List Slot}, argS ρ lp j bs = some as → ∀ (m : Nat) (b : BV), bs[m]? = some b →
    (∃ i, fwd lp (j + m) = some i ∧ b = .v i ∧ as.getD m .un = ρ.at i) ∨ (∃ x, fwd lp (j + m) = none ∧ b = .d x ∧ as.getD m .un = .fz x)
  | [], _, _, e, m, b, hb => by simp at hb
  | c :: bs, j, as, e, m, b, hb => by
    simp only [argS] at e
    split at e
    · rename_i s ss e1 e2
      cases e
      cases m with
      | zero =>
        have : c = b := by simpa using hb
        subst this
        split at e1
        · rename_i i i' hf
          split at e1
          · rename_i he; subst he; cases e1; exact .inl ⟨i, hf, rfl, rfl⟩
          · cases e1
        · rename_i x hf; cases e1; exact .inr ⟨x, hf, rfl, rfl⟩
        · cases e1
      | succ m =>
        have hb' : bs[m]? = some b := by simpa using hb
        have := argS_at e2 m b hb'
        rw [show j + (m + 1) = j + 1 + m from by omega]
        simpa using this
    · cases e
end
end DL

set_option Elab.async false
set_option linter.all false
set_option maxRecDepth 100000
namespace DL
open PySem PySem.Spec L2
open PyProof.Rows hiding St

theorem DEnv.at_out {ρ : DEnv} {i : Nat} (h : ρ.length ≤ i) : ρ.at i = .un := by
  unfold DEnv.at
  rw [List.getD_eq_getElem?_getD, List.getElem?_eq_none h]; rfl
theorem ne_some {α : Type} {o : Option α} {x : α} (h : o = some x) : o ≠ none := by rw [h]; exact fun z => nomatch z
theorem backS_at : ∀ {lp : List (Nat × Nat)} {as' : List Slot} {ρ : DEnv} (i : Nat), (backS lp as' ρ).at i = .un ∨ (∃ j, (j, i) ∈ lp ∧ (backS lp as' ρ).at i = as'.getD j .un) ∨ ((∀ p ∈ lp, p.2 ≠ i) ∧ (backS lp as' ρ).at i = ρ.at i)
  | [], as', ρ, i => .inr (.inr ⟨fun _ h => (nomatch h), rfl⟩)
  | (j0, i0) :: lp, as', ρ, i => by
    have ih := backS_at (lp := lp) (as' := as') (ρ := ρ.set i0 (as'.getD j0 .un)) i
    have e : backS ((j0, i0) :: lp) as' ρ = backS lp as' (ρ.set i0 (as'.getD j0 .un)) := rfl
    rw [e]
    rcases ih with h | ⟨j, hj, h⟩ | ⟨hn, h⟩
    · exact .inl h
    · exact .inr (.inl ⟨j, List.mem_cons_of_mem _ hj, h⟩)
    · by_cases hi : i0 = i
      · subst hi
        by_cases hl : i0 < ρ.length
        · rw [DEnv.at_set_self hl] at h
          exact .inr (.inl ⟨j0, List.mem_cons_self, h⟩)
        · have h2 : DEnv.at (ρ.set i0 (as'.getD j0 .un)) i0 = .un := by rw [List.set_eq_of_length_le (Nat.le_of_not_lt hl), DEnv.at_out (Nat.le_of_not_lt hl)]
          exact .inl (h.trans h2)
      · rw [DEnv.at_set_ne hi] at h
        refine .inr (.inr ⟨fun p hp => ?_, h⟩)
        rcases List.mem_cons.mp hp with rfl | hp
        · exact hi
        · exact hn p hp

theorem backS_len : ∀ {lp : List (Nat × Nat)} {as' : List Slot} {ρ : DEnv}, (backS lp as' ρ).length = ρ.length
  | [], _, _ => rfl
  | (j, i) :: lp, as', ρ => by
    have e : backS ((j, i) :: lp) as' ρ = backS lp as' (ρ.set i (as'.getD j .un)) := rfl
    rw [e, backS_len, List.length_set]
theorem paired_at {α β : Type} {G : α → β → Prop} : ∀ {l₁ : List α} {l₂ : List β}, Paired G l₁ l₂ → ∀ {i : Nat} {a : α}, l₁[i]? = some a → ∃ b, l₂[i]? = some b ∧ G a b
  | _, _, .nil, _, _, e => by simp at e
  | _, _, .cons h r, 0, a, e => by simp at e; subst e; exact ⟨_, rfl, h⟩
  | _, _, .cons h r, i + 1, a, e => by
    obtain ⟨b, h1, h2⟩ := paired_at r (i := i) (a := a) (by simpa using e)
    exact ⟨b, by simpa using h1, h2⟩

theorem se_call {L : List Nat} {n : Nat} {lf : List Nat} {lp : List (Nat × Nat)} {P : PSpec} {ua : TA} {ta : DTA} (hlp : lpOk n lp = true) (hlf : lp.map (·.1) = lf) (ha : SA L ua ta) :
    SE L (tCall (spD n lf P) [] E0 ua) (tCallD n lp P ta) := fun F ρ I own σ H Qd Q fo R h k =>
  ha F ρ I own σ H _ _ fo R h fun bs ρ1 I1 own1 H1 vs R1 s1 r1 h1 => by
    obtain ⟨as, eas, hn, hP⟩ := opt_elim h1
    have lvb : vs.length = bs.length := Paired.length r1
    have lab := argS_len eas
    have lvn : vs.length = n := by omega
    have mlf : ∀ {j i : Nat}, (j, i) ∈ lp → j ∈ lf := fun {j i} m => by rw [← hlf]; exact List.mem_map.mpr ⟨(j, i), m, rfl⟩
    have lfm : ∀ {j : Nat}, j ∈ lf → ∃ i, (j, i) ∈ lp := fun {j} m => by
      rw [← hlf] at m
      obtain ⟨p, hp, rfl⟩ := List.mem_map.mp m
      exact ⟨p.2, hp⟩
    have at_j : ∀ {j : Nat} {v : V}, vs[j]? = some v → (∃ i, (j, i) ∈ lp ∧ fwd lp j = some i ∧ σ[i]? = some (some v) ∧ as.getD j .un = ρ1.at i) ∨ (∃ x, j ∉ lf ∧ Rep I1 v x ∧ as.getD j .un = .fz x) := fun {j v} e => by
      obtain ⟨b, eb, ob⟩ := paired_at r1 e
      have := argS_at eas j b eb
      rw [Nat.zero_add] at this
      rcases this with ⟨i, hf, rfl, ha'⟩ | ⟨x, hf, rfl, ha'⟩
      · exact .inl ⟨i, fwd_mem hf, hf, ob, ha'⟩
      · refine .inr ⟨x, fun m => ?_, ob, ha'⟩
        obtain ⟨i, hi⟩ := lfm m
        rw [(lpOk_b hlp hi).2.2] at hf
        cases hf
    have vat : ∀ {j : Nat}, j < n → ∃ v, vs[j]? = some v := fun {j} hj => ⟨vs[j]'(by omega), List.getElem?_eq_getElem (by omega)⟩
    have atv : ∀ {j : Nat} {v : V}, vs[j]? = some v → j < n := fun {j v} e => by
      have := (List.getElem?_eq_some_iff.mp e).1; omega
    show spD n lf P (vs ++ []) H1 Q E0
    rw [List.append_nil]
    refine ⟨lvn, as, ⟨I1, H1, fun a => (own1 a).bind (bwd lp), fun i => if i ∈ lf then vs[i]? else none⟩, fun a => (own1 a).bind (bwd lp), fun s as' => Qd s (backS lp as' ρ1), hn, fun i => rfl, ⟨fun i hi => ?_, fun a i e => ?_, fun a z => ?_⟩, fun i hi => ?_, ?_, hP, ?_⟩
    · by_cases m : i ∈ lf
      · exact m
      · exact absurd (if_neg m) hi
    · rw [Option.bind_eq_some_iff] at e
      obtain ⟨i', _, e2⟩ := e
      exact mlf (bwd_mem e2)
    · exact R1.live a fun e => z (by show (own1 a).bind (bwd lp) = none; rw [e]; rfl)
    · by_cases hl : i < n
      · obtain ⟨v, ev⟩ := vat hl
        rcases at_j ev with ⟨i', m, _⟩ | ⟨x, _, _, e⟩
        · exact absurd (mlf m) hi
        · rw [e]; rfl
      · have : as.getD i .un = .un := DEnv.at_out (ρ := as) (by omega)
        rw [this]; rfl
    · have ne1 : ∀ a, (own1 a).bind (bwd lp) ≠ none → own1 a ≠ none := fun a z e => z (by rw [e]; rfl)
      refine ⟨R1.sub, fun a o e _ => e, fun a z => z, fun a z => R1.imm a (ne1 a z), fun a i e => .inr e, fun a z => R1.live a (ne1 a z), fun a z => .inr (.inl z), Sub.refl _, fun i v e => ?_, by rw [List.length_map]; omega, fun i => ?_⟩
      · have e' : (if i ∈ lf then vs[i]? else none) = some v := e
        by_cases m : i ∈ lf
        · rw [if_pos m] at e'
          rw [List.getElem?_map, e']; rfl
        · rw [if_neg m] at e'; cases e'
      · by_cases hl : i < n
        · obtain ⟨v, ev⟩ := vat hl
          rcases at_j ev with ⟨i', m, hf, hσ, e⟩ | ⟨x, _, rx, e⟩
          · rcases R1.slots i' with z | ⟨w, z, q⟩
            · exact .inl (e.trans z)
            · rw [hσ] at z; cases z
              refine .inr ⟨v, by rw [List.getElem?_map, ev]; rfl, ?_⟩
              have e' : DEnv.at as i = ρ1.at i' := e
              rw [e']
              refine q.frame (fun a z => ?_) (Sub.refl _) fun _ _ => rfl
              show (own1 a).bind (bwd lp) = some i
              rw [z]; exact (lpOk_b hlp m).2.1
          · refine .inr ⟨v, by rw [List.getElem?_map, ev]; rfl, ?_⟩
            have e' : DEnv.at as i = .fz x := e
            rw [e']
            exact rx
        · exact .inl (DEnv.at_out (by omega))
    · intro s as' I' own2 H' v hl' _ R2 r2 hq
      have H0n : ∀ a, H1 a = none → F.H0 a = none := fun a z => by
        cases e : F.H0 a with
        | none => rfl
        | some o => exact absurd z (R1.there a (ne_some e))
      have o2 : ∀ a j, own2 a = some j → H1 a = none ∨ ∃ i, own1 a = some i ∧ bwd lp i = some j := fun a j e => by
        rcases R2.new a j e with z | z
        · exact .inl z
        · have z' : (own1 a).bind (bwd lp) = some j := z
          rw [Option.bind_eq_some_iff] at z'
          exact .inr z'
      let own3 : Addr → Option Nat := fun a => match own2 a with
        | some j => fwd lp j
        | none => match own1 a with
          | some i => if bwd lp i = none then some i else none
          | none => none
      have o3 : ∀ a i, own3 a = some i → (∃ j, own2 a = some j ∧ fwd lp j = some i) ∨ (own2 a = none ∧ own1 a = some i ∧ bwd lp i = none) := fun a i e => by
        have e' : (match own2 a with
        | some j => fwd lp j
        | none => match own1 a with
          | some i => if bwd lp i = none then some i else none
          | none => none) = some i := e
        split at e'
        · rename_i j hj; exact .inl ⟨j, hj, e'⟩
        · rename_i hj
          split at e'
          · rename_i i' hi
            split at e'
            · rename_i hb; cases e'; exact .inr ⟨hj, hi, hb⟩
            · cases e'
          · cases e'
      have o3a : ∀ a j i, own2 a = some j → fwd lp j = some i → own3 a = some i := fun a j i e f => by
        show (match own2 a with
        | some j => fwd lp j
        | none => _) = some i
        rw [e]; exact f
      have keep : ∀ a i, own1 a = some i → bwd lp i = none → own2 a = none := fun a i e b => by
        cases e2 : own2 a with
        | none => rfl
        | some j =>
          rcases o2 a j e2 with z | ⟨i', z, z2⟩
          · exact absurd z (R1.live a (ne_some e))
          · rw [e] at z; cases z; rw [b] at z2; cases z2
      have o3b : ∀ a i, own1 a = some i → bwd lp i = none → own3 a = some i := fun a i e b => by
        show (match own2 a with
        | some j => fwd lp j
        | none => match own1 a with
          | some i => if bwd lp i = none then some i else none
          | none => none) = some i
        rw [keep a i e b, e]
        exact if_pos b
      have mun : ∀ a i, own1 a = some i → bwd lp i = none → (own1 a).bind (bwd lp) = none := fun a i e b => by rw [e]; exact b
      have R3 : Rel F (backS lp as' ρ1) I' own3 σ H' := by
        refine ⟨R2.sub, fun a o e m => ?_, fun a z => R2.there a (R1.there a z), fun a z => ?_, fun a i e => ?_, fun a z => ?_, fun a z => ?_, R1.i0.trans R2.i0, R1.fix, by rw [backS_len]; exact R1.len, fun i => ?_⟩
        · refine R2.frame a o (R1.frame a o e m) ?_
          cases e1 : own1 a with
          | none => show (own1 a).bind (bwd lp) = none; rw [e1]; rfl
          | some i =>
            rcases R1.new a i e1 with z | z
            · rw [e] at z; cases z
            · rw [m] at z; cases z
        · cases e3 : own3 a with
          | none => exact absurd e3 z
          | some i =>
            rcases o3 a i e3 with ⟨j, h2, _⟩ | ⟨h2, h1', hb⟩
            · exact R2.imm a (ne_some h2)
            · cases e4 : I' a with
              | none => rfl
              | some o =>
                rcases R2.inew a (ne_some e4) with y | y | y
                · exact absurd y (R1.live a (ne_some h1'))
                · exact absurd (R1.imm a (ne_some h1')) y
                · exact absurd (mun a i h1' hb) y
        · rcases o3 a i e with ⟨j, h2, hf⟩ | ⟨h2, h1', hb⟩
          · rcases o2 a j h2 with z | ⟨i', z, z2⟩
            · exact .inl (H0n a z)
            · have : i' = i := by
                have := (lpOk_b hlp (bwd_mem z2)).2.2
                rw [hf] at this; exact (Option.some.inj this).symm
              subst this
              exact R1.new a i' z
          · exact R1.new a i h1'
        · cases e3 : own3 a with
          | none => exact absurd e3 z
          | some i =>
            rcases o3 a i e3 with ⟨j, h2, _⟩ | ⟨h2, h1', hb⟩
            · exact R2.live a (ne_some h2)
            · exact R2.there a (R1.live a (ne_some h1'))
        · rcases R2.inew a z with y | y | y
          · exact .inl (H0n a y)
          · exact R1.inew a y
          · have y' : (own1 a).bind (bwd lp) ≠ none := y
            cases e1 : own1 a with
            | none => rw [e1] at y'; exact absurd rfl y'
            | some i =>
              rcases R1.new a i e1 with q | q
              · exact .inl q
              · exact .inr (.inr (ne_some q))
        · rcases backS_at (lp := lp) (as' := as') (ρ := ρ1) i with e | ⟨j, m, e⟩ | ⟨nl, e⟩
          · exact .inl e
          · rw [e]
            rcases R2.slots j with z | ⟨w, z, q⟩
            · exact .inl z
            · obtain ⟨v', ev⟩ := vat (lpOk_b hlp m).1
              rw [List.getElem?_map, ev] at z
              have ew : v' = w := by simpa using z
              subst ew
              rcases at_j ev with ⟨i', m', hf, hσ, _⟩ | ⟨x, hx, _⟩
              · have : i' = i := by
                  have := (lpOk_b hlp m).2.2
                  rw [hf] at this; exact Option.some.inj this
                subst this
                exact .inr ⟨v', hσ, q.frame (fun a y => o3a a j i' y hf) (Sub.refl _) fun _ _ => rfl⟩
              · exact absurd (mlf m) hx
          · rw [e]
            rcases R1.slots i with z | ⟨w, z, q⟩
            · exact .inl z
            · have hb : bwd lp i = none := by
                cases e2 : bwd lp i with
                | none => rfl
                | some j => exact absurd rfl (nl _ (bwd_mem e2))
              refine .inr ⟨w, z, q.frame (fun a y => o3b a i y hb) R2.i0 fun a y => ?_⟩
              cases e4 : H1 a with
              | none => exact absurd e4 (R1.live a (ne_some y))
              | some o => exact R2.frame a o e4 (mun a i y hb)
      refine k s _ I' own3 H' v R3 (s1.trans R2.i0) ?_ hq
      obtain ⟨S, hS, hv⟩ := r2
      refine ⟨S, fun a sa => ?_, hv⟩
      obtain ⟨n1, n2, n3, n4⟩ := hS a sa
      have n3 : H1 a = none := n3
      refine ⟨n1, ?_, H0n a n3, n4⟩
      cases e3 : own3 a with
      | none => rfl
      | some i =>
        rcases o3 a i e3 with ⟨j, h2, _⟩ | ⟨_, h1', _⟩
        · rw [n2] at h2; cases h2
        · exact absurd n3 (R1.live a (ne_some h1'))

section
variable {X : Cx} {L : List Nat} {a e : Expr} {es : List Expr} {pos : Pos} {ua : TA} {ta : DTA}
theorem de_call {CX : CXT} {k n : Nat} {f : Addr} {fd : FuncData} {ps : List Str} {lf : List Nat} {P : PSpec} {x : Str} {p : Pos} (lp : List (Nat × Nat)) (G : FnOk X.prog X.w X.K X.mg X.base CX k f fd ps (spD n lf P)) (hr : Room k X.A) (hg : Gl X x) (hm : X.mg x = some (.ref f)) (hk : PySem.W.keepIn X.K (.ref f) = true)
    (hb : Binds X.K fd ps []) (hx : Passes CX X E0) (ha : DA X L (a :: es) ua ta) (hlp : lpOk n lp = true := by rfl) (hlf : lp.map (·.1) = lf := by rfl) (hdb : (x == ("__debug__" : Str)) = false := by decide)
    (he : starEach (a :: es) X.env = (false, eval a X.env) :: starEach es X.env := by rfl) (hpl : (backTo pos (starEach es X.env)).any (·.1) = false := by rfl) :
    DE X L (.Call (.Name x p) (a :: es) [] pos) (tCall (spD n lf P) [] E0 ua) (tCallD n lp P ta) :=
  ⟨pe_call G hr hg hm hk hb .nil hx ha.pe hdb he hpl, se_call hlp hlf ha.snd⟩
end
end DL

set_option Elab.async false
set_option linter.all false
set_option maxRecDepth 100000
namespace DL
open PySem PySem.Spec L2
open PyProof.Rows hiding St

structure DEnds where
  nx : DEnv → Prop
  rt : Slot → DEnv → Prop
  bk : DEnv → Prop := fun _ => False
  ct : DEnv → Prop := fun _ => False
abbrev DTS := DEnds → DEnv → Prop
structure Lnk (F : Fx) (I : Hp) (D : Ends) (Dd : DEnds) : Prop where
  nx : ∀ ρ I' own σ H, Rel F ρ I' own σ H → Sub I I' → Dd.nx ρ → D.nx σ H
  bk : ∀ ρ I' own σ H, Rel F ρ I' own σ H → Sub I I' → Dd.bk ρ → D.bk σ H
  ct : ∀ ρ I' own σ H, Rel F ρ I' own σ H → Sub I I' → Dd.ct ρ → D.ct σ H
  rt : ∀ s ρ I' own σ H v, Rel F ρ I' own σ H → Sub I I' → ResOk F I' own H v s → Dd.rt s ρ → D.rt v H
theorem Lnk.mono {F : Fx} {I I' : Hp} {D : Ends} {Dd : DEnds} (h : Lnk F I D Dd) (s : Sub I I') : Lnk F I' D Dd :=
  ⟨fun ρ J own σ H R s' => h.nx ρ J own σ H R (s.trans s'), fun ρ J own σ H R s' => h.bk ρ J own σ H R (s.trans s'), fun ρ J own σ H R s' => h.ct ρ J own σ H R (s.trans s'), fun t ρ J own σ H v R s' => h.rt t ρ J own σ H v R (s.trans s')⟩
def SS (L : List Nat) (u : TS) (t : DTS) : Prop := ∀ F ρ I own σ H D Dd, FOk F L → Rel F ρ I own σ H → t Dd ρ → Lnk F I D Dd → u D σ H
structure DS (X : Cx) (L : List Nat) (st : Stmt) (u : TS) (t : DTS) : Prop where
  ps : PS X st u
  snd : SS L u t
structure DSs (X : Cx) (L : List Nat) (st : List Stmt) (u : TS) (t : DTS) : Prop where
  ps : PSs X st u
  snd : SS L u t

/-- a value that has come is laid into a slot -/
theorem Rel.assign {F : Fx} {L : List Nat} {ρ : DEnv} {I : Hp} {own : Addr → Option Nat} {σ : St} {H : Hp} {v : V} {s : Slot} {i : Nat} (fo : FOk F L) (hi : i ∉ L) (R : Rel F ρ I own σ H) (r : ResOk F I own H v s) : ∃ own', Rel F (ρ.set i s) I own' (σ.set i (some v)) H := by
  obtain ⟨S, hS, hv⟩ := r
  classical
  have o3 : ∀ a j, (if S a then some i else own a) = some j → (S a ∧ i = j) ∨ own a = some j := fun a j e => by
    by_cases h : S a
    · rw [if_pos h] at e; cases e; exact .inl ⟨h, rfl⟩
    · rw [if_neg h] at e; exact .inr e
  have on : ∀ a, (if S a then some i else own a) ≠ none → S a ∨ own a ≠ none := fun a e => by
    by_cases h : S a
    · exact .inl h
    · rw [if_neg h] at e; exact .inr e
  have hfix : F.fix i = none := by
    cases e : F.fix i with
    | none => rfl
    | some v => exact absurd (fo.1 i (ne_some e)) hi
  refine ⟨fun a => if S a then some i else own a, R.sub, R.frame, R.there, fun a e => ?_, fun a j e => ?_, fun a e => ?_, R.inew, R.i0, fun j w e => ?_, by rw [List.length_set, List.length_set]; exact R.len, fun j => ?_⟩
  · rcases on a e with h | h
    · exact (hS a h).1
    · exact R.imm a h
  · rcases o3 a j e with ⟨h, _⟩ | h
    · exact .inl (hS a h).2.2.1
    · exact R.new a j h
  · rcases on a e with h | h
    · exact (hS a h).2.2.2
    · exact R.live a h
  · rw [List.getElem?_set_ne (fun z => by subst z; rw [hfix] at e; cases e)]
    exact R.fix j w e
  · by_cases hj : i = j
    · subst hj
      by_cases hl : i < ρ.length
      · rw [DEnv.at_set_self hl]
        refine .inr ⟨v, by rw [List.getElem?_set_self (Nat.lt_of_lt_of_le hl R.len)], hv.frame (fun a z => if_pos z) (Sub.refl _) fun _ _ => rfl⟩
      · exact .inl (DEnv.at_out (by rw [List.length_set]; omega))
    · rw [DEnv.at_set_ne hj, List.getElem?_set_ne hj]
      rcases R.slots j with e | ⟨w, e, q⟩
      · exact .inl e
      · refine .inr ⟨w, e, q.frame (fun a z => ?_) (Sub.refl _) fun _ _ => rfl⟩
        show (if S a then some i else own a) = some j
        by_cases h : S a
        · rw [(hS a h).2.1] at z; cases z
        · rw [if_neg h]; exact z

/-- slots forgotten -/
def Wkr : DEnv → DEnv → Prop
  | [], _ => True
  | .un :: a, _ :: b => Wkr a b
  | s :: a, t :: b => s = t ∧ Wkr a b
  | _ :: _, [] => False
theorem Wkr.at : ∀ {a b : DEnv}, Wkr a b → ∀ i, a.at i = .un ∨ a.at i = b.at i
  | [], _, _, i => .inl (DEnv.at_out (Nat.zero_le _))
  | s :: a, t :: b, h, 0 => by
    cases s with
    | un => exact .inl rfl
    | _ => exact .inr h.1
  | s :: a, t :: b, h, i + 1 => by
    have h' : Wkr a b := by
      cases s with
      | un => exact h
      | _ => exact h.2
    exact Wkr.at h' i
  | s :: a, [], h, _ => by
    cases s <;> exact h.elim
theorem Wkr.len : ∀ {a b : DEnv}, Wkr a b → a.length ≤ b.length
  | [], _, _ => Nat.zero_le _
  | s :: a, t :: b, h => by
    have h' : Wkr a b := by
      cases s with
      | un => exact h
      | _ => exact h.2
    have := Wkr.len h'
    simp only [List.length_cons]; omega
  | s :: a, [], h => by cases s <;> exact h.elim
theorem Rel.wk {F : Fx} {ρ ρ' : DEnv} {I : Hp} {own : Addr → Option Nat} {σ : St} {H : Hp} (R : Rel F ρ I own σ H) (w : Wkr ρ' ρ) : Rel F ρ' I own σ H :=
  ⟨R.sub, R.frame, R.there, R.imm, R.new, R.live, R.inew, R.i0, R.fix, Nat.le_trans w.len R.len, fun j => by
    rcases w.at j with e | e
    · exact .inl e
    · rw [e]; exact R.slots j⟩
def Wk (P : DEnv → Prop) : DEnv → Prop := fun ρ => ∃ ρ', Wkr ρ' ρ ∧ P ρ'
theorem Wkr.refl : ∀ ρ : DEnv, Wkr ρ ρ
  | [] => trivial
  | s :: a => by
    have := Wkr.refl a
    cases s with
    | un => exact this
    | _ => exact ⟨rfl, this⟩

section
variable {X : Cx} {L : List Nat} {st : Stmt} {rest : List Stmt} {u u2 : TS} {t t2 : DTS} {e : Expr} {ue : TE} {te : DTE} {pos : Pos}
def dNext : DTS := fun D ρ => D.nx ρ
def dSeq (t u : DTS) : DTS := fun D ρ => t { D with nx := u D } ρ
theorem dss_nil : DSs X L [] tNext dNext := ⟨pss_nil, fun F ρ I own σ H D Dd _ R h k => k.nx ρ I own σ H R (Sub.refl _) h⟩
theorem ss_seq (h1 : SS L u t) (h2 : SS L u2 t2) : SS L (tSeq u u2) (dSeq t t2) := fun F ρ I own σ H D Dd fo R h k =>
  h1 F ρ I own σ H _ _ fo R h ⟨fun ρ' I' own' σ' H' R' s h' => h2 F ρ' I' own' σ' H' D Dd fo R' h' (k.mono s), k.bk, k.ct, k.rt⟩
theorem dss_cons (h1 : DS X L st u t) (h2 : DSs X L rest u2 t2) : DSs X L (st :: rest) (tSeq u u2) (dSeq t t2) := ⟨pss_cons h1.ps h2.ps, ss_seq h1.snd h2.snd⟩
theorem dss_one (h1 : DS X L st u t) : DSs X L [st] u t := ⟨pss_one h1.ps, h1.snd⟩
def dBreak : DTS := fun D ρ => D.bk ρ
def dCont : DTS := fun D ρ => D.ct ρ
theorem ds_pass : DS X L (.Pass pos) tNext dNext := ⟨ps_pass, fun F ρ I own σ H D Dd _ R h k => k.nx ρ I own σ H R (Sub.refl _) h⟩
theorem ds_break : DS X L (.Break pos) tBreak dBreak := ⟨ps_break, fun F ρ I own σ H D Dd _ R h k => k.bk ρ I own σ H R (Sub.refl _) h⟩
theorem ds_continue : DS X L (.Continue pos) tCont dCont := ⟨ps_continue, fun F ρ I own σ H D Dd _ R h k => k.ct ρ I own σ H R (Sub.refl _) h⟩
def dNever : DTS := fun _ _ => False
theorem ds_never : DS X L st tNever dNever := ⟨ps_never, fun F ρ I own σ H D Dd _ R h k => h.elim⟩
theorem dss_never {sts : List Stmt} : DSs X L sts tNever dNever := ⟨pss_never, fun F ρ I own σ H D Dd _ R h k => h.elim⟩
def dDrop (t : DTE) : DTS := fun D ρ => t ρ fun _ ρ1 => D.nx ρ1
theorem ds_expr (he : DE X L e ue te) (hs : swapsWith e none pos.line X.env = pure false := by rfl) : DS X L (.Expr e pos) (tDrop ue) (dDrop te) := ⟨ps_expr he.pe hs, fun F ρ I own σ H D Dd fo R h k =>
  he.snd F ρ I own σ H _ _ fo R h fun s ρ1 I1 own1 H1 v R1 s1 r1 h1 => k.nx ρ1 I1 own1 σ H1 R1 s1 h1⟩
def dRet (t : DTE) : DTS := fun D ρ => t ρ D.rt
theorem ds_ret (he : DE X L e ue te) : DS X L (.Return (some e) pos) (tRet ue) (dRet te) := ⟨ps_ret he.pe, fun F ρ I own σ H D Dd fo R h k =>
  he.snd F ρ I own σ H _ _ fo R h fun s ρ1 I1 own1 H1 v R1 s1 r1 h1 => k.rt s ρ1 I1 own1 σ H1 v R1 s1 r1 h1⟩
def dRetN : DTS := fun D ρ => D.rt (.fz .none) ρ
theorem ds_retN : DS X L (.Return none pos) tRetN dRetN := ⟨ps_retN, fun F ρ I own σ H D Dd fo R h k => k.rt _ ρ I own σ H _ R (Sub.refl _) (.fz .non) h⟩
def dIfS (c : DTT) (t u : DTS) : DTS := fun D ρ => c ρ fun b ρ1 => if b = true then t D ρ1 else u D ρ1
theorem ds_if {c : Expr} {a b : List Stmt} {uc : TT} {tc : DTT} (hc : DT X L c uc tc) (ha : DSs X L a u t) (hb : DSs X L b u2 t2) : DS X L (.If c a b pos) (tIfS uc u u2) (dIfS tc t t2) := ⟨ps_if hc.pe ha.ps hb.ps, fun F ρ I own σ H D Dd fo R h k =>
  hc.snd F ρ I own σ H _ _ fo R h fun c ρ1 I1 own1 H1 R1 s1 h1 => by
    cases c with
    | true => exact ha.snd F ρ1 I1 own1 σ H1 D Dd fo R1 h1 (k.mono s1)
    | false => exact hb.snd F ρ1 I1 own1 σ H1 D Dd fo R1 h1 (k.mono s1)⟩

def dSet (i : Nat) (t : DTE) : DTS := fun D ρ => t ρ fun s ρ1 => D.nx (ρ1.set i s)
theorem ss_set {i : Nat} (hi : i ∉ L) (he : SE L ue te) : SS L (tAsg ue (gName i)) (dSet i te) := fun F ρ I own σ H D Dd fo R h k =>
  he F ρ I own σ H _ _ fo R h fun s ρ1 I1 own1 H1 v R1 s1 r1 h1 => by
    obtain ⟨own2, R2⟩ := R1.assign fo hi r1
    exact k.nx _ I1 own2 _ H1 R2 s1 h1
theorem ds_set (i : Nat) {x : Str} {pos' : Pos} (hN : X.N.Nodup) (he : DE X L e ue te) (hL : i ∉ L := by decide) (hi : X.N[i]? = some x := by rfl) (hx : Loc X.env.scope x := by first | exact Or.inl rfl | exact Or.inr rfl) (hs : swapsWith e (some (.Name x pos')) pos.line X.env = pure false := by rfl) (hf : X.fn x = true ∨ X.env.scope.names.lookup x = some .local := by first | exact .inl rfl | exact .inr rfl | assumption) :
    DS X L (.Assign [.Name x pos'] e pos) (tAsg ue (gName i)) (dSet i te) := ⟨ps_set (i := i) hN hi hx he.pe hs hf, ss_set hL he.snd⟩

abbrev DTG := D → DEnv → (DEnv → Prop) → Prop
structure SG (L js : List Nat) (g : TG) (gd : DTG) : Prop where
  run : ∀ F ρ I own σ H d v Qd (Q : St → Hp → Prop), FOk F L → Rel F ρ I own σ H → Rep I v d → gd d ρ Qd → (∀ ρ' own' σ', Rel F ρ' I own' σ' H → σ'.length = σ.length → (∀ i, i ∉ js → σ'[i]? = σ[i]?) → Qd ρ' → Q σ' H) → g v σ H Q
structure DG (X : Cx) (L js : List Nat) (tg : Expr) (g : TG) (gd : DTG) : Prop where
  pg : PG X tg g
  snd : SG L js g gd
def gNm (i : Nat) : DTG := fun d ρ Q => Q (ρ.set i (.fz d))
theorem dg_name (i : Nat) {x : Str} {p : Pos} (hN : X.N.Nodup) (hL : i ∉ L := by decide) (hi : X.N[i]? = some x := by rfl) (hx : Loc X.env.scope x := by first | exact Or.inl rfl | exact Or.inr rfl) (hf : X.fn x = true ∨ X.env.scope.names.lookup x = some .local := by first | exact .inl rfl | exact .inr rfl | assumption) : DG X L [i] (.Name x p) (gName i) (gNm i) :=
  ⟨pg_name hN hi hx hf, ⟨fun F ρ I own σ H d v Qd Q fo R r h k => by
    obtain ⟨own2, R2⟩ := R.assign fo hL (.fz r)
    exact k _ own2 _ R2 (List.length_set ..) (fun j hj => List.getElem?_set_ne fun e => hj (by rw [e]; exact List.mem_singleton_self _)) h⟩⟩
abbrev DTGs := List D → DEnv → (DEnv → Prop) → Prop
structure DGs (X : Cx) (L js : List Nat) (tgs : List Expr) (g : TGs) (gd : DTGs) : Prop where
  pg : PGs X tgs g
  snd : ∀ F ρ I own σ H ds vs Qd (Q : St → Hp → Prop), FOk F L → Rel F ρ I own σ H → RepL I vs ds → gd ds ρ Qd → (∀ ρ' own' σ', Rel F ρ' I own' σ' H → σ'.length = σ.length → (∀ i, i ∉ js → σ'[i]? = σ[i]?) → Qd ρ' → Q σ' H) → g vs σ H Q
def gsNil : DTGs := fun ds ρ Q => match ds with
  | [] => Q ρ
  | _ => False
def gsCons (g : DTG) (r : DTGs) : DTGs := fun ds ρ Q => match ds with
  | d :: ds => g d ρ fun ρ1 => r ds ρ1 Q
  | [] => False
theorem dgs_nil : DGs X L [] [] gNil gsNil := ⟨pgs_nil, fun F ρ I own σ H ds vs Qd Q fo R r h k => by
  cases r with
  | nil => exact ⟨rfl, k ρ own σ R rfl (fun _ _ => rfl) h⟩
  | cons _ _ => exact h.elim⟩
theorem dgs_cons {js js2 : List Nat} {tg : Expr} {tgs : List Expr} {g : TG} {gs : TGs} {gd : DTG} {gds : DTGs} (h1 : DG X L js tg g gd) (h2 : DGs X L js2 tgs gs gds) (hs : (assignEach (tg :: tgs) X.env).map (·.2) = assign tg X.env :: (assignEach tgs X.env).map (·.2) := by rfl) :
    DGs X L (js ++ js2) (tg :: tgs) (gCons g gs) (gsCons gd gds) := ⟨pgs_cons h1.pg h2.pg hs, fun F ρ I own σ H ds vs Qd Q fo R r h k => by
  cases r with
  | nil => exact h.elim
  | cons r1 r2 =>
    refine ⟨_, _, rfl, h1.snd.run F ρ I own σ H _ _ _ _ fo R r1 h fun ρ1 own1 σ1 R1 l1 k1 h1' => ?_⟩
    exact h2.snd F ρ1 I own1 σ1 H _ _ Qd Q fo R1 r2 h1' fun ρ2 own2 σ2 R2 l2 k2 h2' => k ρ2 own2 σ2 R2 (l2.trans l1) (fun i hi => by
      rw [List.mem_append, not_or] at hi
      rw [k2 i hi.2, k1 i hi.1]) h2'⟩
def gTp (n : Nat) (g : DTGs) : DTG := fun d ρ Q => match d with
  | .tuple ds => ds.length = n ∧ g ds ρ Q
  | _ => False
theorem asE_len : ∀ (es : List Expr) (env : Env), (assignEach es env).length = es.length
  | [], _ => rfl
  | e :: es, env => by
    cases e <;> (unfold assignEach; rw [List.length_cons, List.length_cons, asE_len es env])
theorem dg_tup {js : List Nat} {es : List Expr} {k : Nat} {g : TGs} {gd : DTGs} {p : Pos} (hc : X.calm = true) (h : DGs X L js es g gd) (hst : (assignEach es X.env).findIdx? (·.1) = none := by rfl) :
    DG X L js (.Tuple es k p) (gTup X.K es.length g) (gTp es.length gd) := ⟨pg_tup hc h.pg (asE_len _ _) hst, ⟨fun F ρ I own σ H d v Qd Q fo R r hh kk => by
  cases r with
  | tup h1 r1 => exact ⟨_, _, rfl, .of (R.sub _ _ h1), by rw [r1.length]; exact hh.1, h.snd F ρ I own σ H _ _ Qd Q fo R r1 hh.2 kk⟩
  | _ => exact hh.elim⟩⟩
/-- target = value, the value data -/
def dAsg (t : DTE) (g : DTG) : DTS := fun D ρ => t ρ fun s ρ1 => opt (frzS s) fun d => g d ρ1 D.nx
theorem ds_asg {js : List Nat} {tg : Expr} {g : TG} {gd : DTG} (he : DE X L e ue te) (hg : DG X L js tg g gd) (hs : swapsWithSole [tg] e pos.line X.env = pure false := by rfl) (hw : swappedStores [tg] e X.env = pure none := by rfl)
    (h1 : (assignEach [tg] X.env).map (·.2) = [assign tg X.env] := by rfl) : DS X L (.Assign [tg] e pos) (tAsg ue g) (dAsg te gd) := ⟨ps_asg he.pe hg.pg hs hw h1, fun F ρ I own σ H D Dd fo R h k =>
  he.snd F ρ I own σ H _ _ fo R h fun s ρ1 I1 own1 H1 v R1 s1 r1 h1 => by
    obtain ⟨d, e, h1⟩ := opt_elim h1
    obtain ⟨I2, R2, s2, r2⟩ := r1.freeze R1 e
    exact hg.snd.run F ρ1 I2 own1 σ H1 d v _ _ fo R2 r2 h1 fun ρ3 own3 σ3 R3 _ _ h3 => k.nx ρ3 I2 own3 σ3 H1 R3 (s1.trans s2) h3⟩

theorem Rel.mutate {F : Fx} {ρ : DEnv} {I : Hp} {own : Addr → Option Nat} {σ : St} {H : Hp} (R : Rel F ρ I own σ H) {i : Nat} {v : V} {ds : List D} (hρ : ρ.at i = .lst ds) (hσ : σ[i]? = some (some v)) :
    ∃ p vs, v = .ref p ∧ H p = some (.lst vs) ∧ RepL I vs ds ∧ ∀ ws es, RepL I ws es → Rel F (ρ.set i (.lst es)) I own σ (upd H p (.lst ws)) := by
  rcases R.slots i with z | ⟨w, z, q⟩
  · rw [hρ] at z; cases z
  · rw [hσ] at z; cases z
    rw [hρ] at q
    obtain ⟨p, vs, rfl, hp, h1, h2⟩ := q
    refine ⟨p, vs, rfl, h1, h2, fun ws es r => ?_⟩
    have hn : I p = none := R.imm p (ne_some hp)
    have ok : ∀ a, H a ≠ none → upd H p (.lst ws) a ≠ none := fun a z => by
      by_cases e : a = p
      · subst e; rw [upd_same]; exact fun y => nomatch y
      · rw [upd_ne e]; exact z
    refine ⟨fun a o e => ?_, fun a o e m => ?_, fun a z => ok a (R.there a z), R.imm, R.new, fun a z => ok a (R.live a z), R.inew, R.i0, R.fix, by rw [List.length_set]; exact R.len, fun j => ?_⟩
    · rw [upd_ne (fun z => by subst z; rw [hn] at e; cases e)]; exact R.sub a o e
    · rw [upd_ne (fun z => ?_)]
      · exact R.frame a o e m
      · subst z
        rcases R.new a i hp with y | y
        · rw [y] at e; cases e
        · rw [y] at m; cases m
    · by_cases hj : i = j
      · subst hj
        by_cases hl : i < ρ.length
        · rw [DEnv.at_set_self hl]
          exact .inr ⟨_, hσ, p, ws, rfl, hp, upd_same, r⟩
        · exact .inl (DEnv.at_out (by rw [List.length_set]; omega))
      · rw [DEnv.at_set_ne hj]
        rcases R.slots j with e | ⟨w, e, q⟩
        · exact .inl e
        · refine .inr ⟨w, e, q.frame (fun _ z => z) (Sub.refl _) fun a z => upd_ne fun y => ?_⟩
          subst y
          rw [hp] at z; cases z; exact hj rfl
variable {a b : Expr} {ua ub : TE} {ta tb : DTB}
def lstAt (ρ : DEnv) (i : Nat) (k : List D → Prop) : Prop := match ρ.at i with
  | .lst ds => k ds
  | _ => False
theorem lstAt_elim {ρ : DEnv} {i : Nat} {k : List D → Prop} (h : lstAt ρ i k) : ∃ ds, ρ.at i = .lst ds ∧ k ds := by
  unfold lstAt at h
  split at h
  · rename_i ds e; exact ⟨ds, e, h⟩
  · exact h.elim
theorem slot_val {F : Fx} {ρ : DEnv} {I : Hp} {own : Addr → Option Nat} {σ : St} {H : Hp} (R : Rel F ρ I own σ H) {i : Nat} {ds : List D} (e : ρ.at i = .lst ds) : ∃ p vs, σ[i]? = some (some (.ref p)) ∧ H p = some (.lst vs) := by
  rcases R.slots i with z | ⟨w, z, q⟩
  · rw [e] at z; cases z
  · rw [e] at q
    obtain ⟨p, vs, rfl, _, h1, _⟩ := q
    exact ⟨p, vs, z, h1⟩
/-- x.append(e) -/
def dAppend (i : Nat) (t : DTE) : DTE := fun ρ Q => lstAt ρ i fun _ => t ρ fun s ρ1 => opt (frzS s) fun d => lstAt ρ1 i fun ds => ds.length < sizeLine ∧ Q (.fz .none) (ρ1.set i (.lst (ds ++ [d])))
theorem de_append (i : Nat) {x : Str} {p apos cpos : Pos} (he : DE X L e ue te) (hN : X.N[i]? = some x := by rfl) (hv : Vis X.env.scope x := by first | exact Or.inl rfl | exact Or.inr (Or.inl rfl) | exact Or.inr (Or.inr rfl)) (hd : (x == ("__debug__" : Str)) = false := by decide)
    (hcd : (x == ("__classdict__" : Str)) = false := by decide) (hst : starEach [e] X.env = (false, eval e X.env) :: starEach [] X.env := by rfl)
    (hbase : attributeBase (.Name x p) "append" X.env (eval (.Name x p) X.env) = eval (.Name x p) X.env := by rfl)
    (hfew : ((backTo cpos (starEach [e] X.env)).all (fun x => !x.1) && (backToKw cpos (keywordEach [] X.env)).all (fun x => x.1.isSome) && decide (([e] : List Expr).length + ([] : List Keyword).length + (if ([] : List Keyword).isEmpty then 0 else 1) < 30)) = true := by rfl)
    (hline : (apos.endLine == cpos.line) = true := by rfl) (hpl : (backTo cpos (starEach [] X.env)).any (·.1) = false := by rfl) :
    DE X L (.Call (.Attribute (.Name x p) "append" apos) [e] [] cpos) (tBM X.K "list" rAppend (tVar i) (tCons ue tNil)) (dAppend i te) :=
  ⟨pe_bm PySem.F.plainAttrs_list PySem.F.slot_list_append PySem.F.type_list_append mt_append (pe_var hN hv hd hcd) (pa_cons he.pe pa_nil hst) hbase hfew hline hst hpl, fun F ρ I own σ H Qd Q fo R h k => by
    obtain ⟨ds0, e0, h⟩ := lstAt_elim h
    obtain ⟨p0, vs0, hσ, h0⟩ := slot_val R e0
    refine ⟨_, hσ, .inl ⟨rfl, vs0, .of h0⟩, he.snd F ρ I own σ H _ _ fo R h fun s ρ1 I1 own1 H1 w R1 s1 r1 h1 => ?_⟩
    obtain ⟨d, ed, h1⟩ := opt_elim h1
    obtain ⟨ds, e1, hl, h1⟩ := lstAt_elim h1
    obtain ⟨I2, R2, s2, r2⟩ := r1.freeze R1 ed
    obtain ⟨p, vs, e2, hp, rp, mk⟩ := R2.mutate e1 hσ
    cases e2
    exact ⟨p0, vs, w, rfl, rfl, hp, by rw [rp.length]; exact hl, k _ _ I2 own1 _ _ (mk _ _ (rp.append (.cons r2 .nil))) (s1.trans s2) (.fz .non) h1⟩⟩
/-- x.extend(e), e a list -/
def dExtend (i : Nat) (t : DTB) : DTE := fun ρ Q => lstAt ρ i fun _ => t ρ fun b ρ1 => opt (b.get ρ1) fun y => match y with
  | .list es => lstAt ρ1 i fun ds => ds.length + es.length ≤ sizeLine ∧ Q (.fz .none) (ρ1.set i (.lst (ds ++ es)))
  | _ => False
theorem de_extend (i : Nat) {x : Str} {p apos cpos : Pos} (he : DB X L a ua ta) (hN : X.N[i]? = some x := by rfl) (hv : Vis X.env.scope x := by first | exact Or.inl rfl | exact Or.inr (Or.inl rfl) | exact Or.inr (Or.inr rfl)) (hd : (x == ("__debug__" : Str)) = false := by decide)
    (hcd : (x == ("__classdict__" : Str)) = false := by decide) (hst : starEach [a] X.env = (false, eval a X.env) :: starEach [] X.env := by rfl)
    (hbase : attributeBase (.Name x p) "extend" X.env (eval (.Name x p) X.env) = eval (.Name x p) X.env := by rfl)
    (hfew : ((backTo cpos (starEach [a] X.env)).all (fun x => !x.1) && (backToKw cpos (keywordEach [] X.env)).all (fun x => x.1.isSome) && decide (([a] : List Expr).length + ([] : List Keyword).length + (if ([] : List Keyword).isEmpty then 0 else 1) < 30)) = true := by rfl)
    (hline : (apos.endLine == cpos.line) = true := by rfl) (hpl : (backTo cpos (starEach [] X.env)).any (·.1) = false := by rfl) :
    DE X L (.Call (.Attribute (.Name x p) "extend" apos) [a] [] cpos) (tBM X.K "list" rExtend (tVar i) (tCons ua tNil)) (dExtend i ta) :=
  ⟨pe_bm PySem.F.plainAttrs_list PySem.F.slot_list_extend PySem.F.type_list_extend mt_extend (pe_var hN hv hd hcd) (pa_cons he.pe pa_nil hst) hbase hfew hline hst hpl, fun F ρ I own σ H Qd Q fo R h k => by
    obtain ⟨ds0, e0, h⟩ := lstAt_elim h
    obtain ⟨p0, vs0, hσ, h0⟩ := slot_val R e0
    refine ⟨_, hσ, .inl ⟨rfl, vs0, .of h0⟩, he.snd F ρ I own σ H _ _ fo R h fun s ρ1 I1 own1 H1 w R1 s1 r1 h1 => ?_⟩
    obtain ⟨y, ey, h1⟩ := opt_elim h1
    have ry := r1.rep R1 ey
    split at h1
    · rename_i es
      obtain ⟨q, ws, rfl, hq, rq⟩ := ry.lst R1.sub
      obtain ⟨ds, e1, hl, h1⟩ := lstAt_elim h1
      obtain ⟨p, vs, e2, hp, rp, mk⟩ := R1.mutate e1 hσ
      cases e2
      exact ⟨p0, q, vs, ws, rfl, rfl, hp, hq, by rw [rp.length, rq.length]; exact hl, k _ _ I1 own1 _ _ (mk _ _ (rp.append rq)) s1 (.fz .non) h1⟩
    · exact h1.elim⟩
/-- x.pop(e) -/
def dPopAt (i : Nat) (t : DTB) : DTE := fun ρ Q => lstAt ρ i fun _ => t ρ fun b ρ1 => opt (b.get ρ1) fun y => match y with
  | .int n => lstAt ρ1 i fun ds => 0 ≤ n ∧ n < 1000000 ∧ opt ds[n.toNat]? fun d => Q (.fz d) (ρ1.set i (.lst (ds.eraseIdx n.toNat)))
  | _ => False
theorem de_popAt (i : Nat) {x : Str} {p apos cpos : Pos} (he : DB X L a ua ta) (hN : X.N[i]? = some x := by rfl) (hv : Vis X.env.scope x := by first | exact Or.inl rfl | exact Or.inr (Or.inl rfl) | exact Or.inr (Or.inr rfl)) (hd : (x == ("__debug__" : Str)) = false := by decide)
    (hcd : (x == ("__classdict__" : Str)) = false := by decide) (hst : starEach [a] X.env = (false, eval a X.env) :: starEach [] X.env := by rfl)
    (hbase : attributeBase (.Name x p) "pop" X.env (eval (.Name x p) X.env) = eval (.Name x p) X.env := by rfl)
    (hfew : ((backTo cpos (starEach [a] X.env)).all (fun x => !x.1) && (backToKw cpos (keywordEach [] X.env)).all (fun x => x.1.isSome) && decide (([a] : List Expr).length + ([] : List Keyword).length + (if ([] : List Keyword).isEmpty then 0 else 1) < 30)) = true := by rfl)
    (hline : (apos.endLine == cpos.line) = true := by rfl) (hpl : (backTo cpos (starEach [] X.env)).any (·.1) = false := by rfl) :
    DE X L (.Call (.Attribute (.Name x p) "pop" apos) [a] [] cpos) (tBM X.K "list" rPopAt (tVar i) (tCons ua tNil)) (dPopAt i ta) :=
  ⟨pe_bm PySem.F.plainAttrs_list PySem.F.slot_list_pop PySem.F.type_list_pop mt_popAt (pe_var hN hv hd hcd) (pa_cons he.pe pa_nil hst) hbase hfew hline hst hpl, fun F ρ I own σ H Qd Q fo R h k => by
    obtain ⟨ds0, e0, h⟩ := lstAt_elim h
    obtain ⟨p0, vs0, hσ, h0⟩ := slot_val R e0
    refine ⟨_, hσ, .inl ⟨rfl, vs0, .of h0⟩, he.snd F ρ I own σ H _ _ fo R h fun s ρ1 I1 own1 H1 w R1 s1 r1 h1 => ?_⟩
    obtain ⟨y, ey, h1⟩ := opt_elim h1
    have ry := r1.rep R1 ey
    split at h1
    · rename_i n
      rw [ry.int]
      obtain ⟨ds, e1, hn0, hn1, h1⟩ := lstAt_elim h1
      obtain ⟨d, ed, h1⟩ := opt_elim h1
      obtain ⟨p, vs, e2, hp, rp, mk⟩ := R1.mutate e1 hσ
      cases e2
      obtain ⟨u, eu, ru⟩ := rp.get ed
      have hlt : n.toNat < vs.length := (List.getElem?_eq_some_iff.mp eu).1
      have hix : ixN vs.length n = some n.toNat := by unfold ixN; rw [if_pos hn0, if_pos (by omega)]
      exact ⟨p0, vs, n, n.toNat, u, rfl, rfl, hp, by omega, by omega, (ixN_seq hix).1, eu, k _ _ I1 own1 _ _ (mk _ _ (rp.eraseIdx _)) s1 (.fz ru) h1⟩
    · exact h1.elim⟩
/-- x.reverse() -/
def dReverse (i : Nat) : DTE := fun ρ Q => lstAt ρ i fun ds => Q (.fz .none) (ρ.set i (.lst ds.reverse))
theorem de_reverse (i : Nat) {x : Str} {p apos cpos : Pos} (hN : X.N[i]? = some x := by rfl) (hv : Vis X.env.scope x := by first | exact Or.inl rfl | exact Or.inr (Or.inl rfl) | exact Or.inr (Or.inr rfl)) (hd : (x == ("__debug__" : Str)) = false := by decide)
    (hcd : (x == ("__classdict__" : Str)) = false := by decide)
    (hbase : attributeBase (.Name x p) "reverse" X.env (eval (.Name x p) X.env) = eval (.Name x p) X.env := by rfl) (hline : (apos.endLine == cpos.line) = true := by rfl) :
    DE X L (.Call (.Attribute (.Name x p) "reverse" apos) [] [] cpos) (tBM0 X.K "list" rReverse (tVar i)) (dReverse i) :=
  ⟨pe_bm0 PySem.F.plainAttrs_list PySem.F.slot_list_reverse PySem.F.type_list_reverse mt_reverse (pe_var hN hv hd hcd) hbase hline, fun F ρ I own σ H Qd Q fo R h k => by
    obtain ⟨ds, e0, h⟩ := lstAt_elim h
    obtain ⟨p0, vs0, hσ, h0⟩ := slot_val R e0
    obtain ⟨p, vs, e2, hp, rp, mk⟩ := R.mutate e0 hσ
    cases e2
    exact ⟨_, hσ, .inl ⟨rfl, vs0, .of h0⟩, p0, vs, rfl, rfl, hp, k _ _ I own _ _ (mk _ _ rp.reverse) (Sub.refl _) (.fz .non) h⟩⟩
/-- x[k] = e -/
def dSetI (i : Nat) (tk : DTB) (te : DTE) : DTS := fun D ρ => te ρ fun s ρ1 => opt (frzS s) fun d => lstAt ρ1 i fun _ => tk ρ1 fun b ρ2 => opt (b.get ρ2) fun y => match y with
  | .int n => lstAt ρ2 i fun ds => opt (ixN ds.length n) fun j => D.nx (ρ2.set i (.lst (ds.set j d)))
  | _ => False
theorem ds_setI (i : Nat) {x : Str} {p tp : Pos} (he : DE X L e ue te) (hk : DB X L a ua ta) (hN : X.N[i]? = some x := by rfl) (hv : Vis X.env.scope x := by first | exact Or.inl rfl | exact Or.inr (Or.inl rfl) | exact Or.inr (Or.inr rfl)) (hd : (x == ("__debug__" : Str)) = false := by decide)
    (hcd : (x == ("__classdict__" : Str)) = false := by decide) (hs : swapsWithSole [.Subscript (.Name x p) a tp] e pos.line X.env = pure false := by rfl) (hw : swappedStores [.Subscript (.Name x p) a tp] e X.env = pure none := by rfl)
    (h1 : (assignEach [.Subscript (.Name x p) a tp] X.env).map (·.2) = [assign (.Subscript (.Name x p) a tp) X.env] := by rfl)
    (ha : ∀ v, assign (.Subscript (.Name x p) a tp) X.env v = (do
      let ov ← holding [v] (eval (.Name x p) X.env)
      let iv ← holding [v, ov] (eval a X.env)
      standAt tp
      holding [v, ov, iv] (setItem ov iv v)
      release [v, ov, iv] []) := by intro _; rfl) :
    DS X L (.Assign [.Subscript (.Name x p) a tp] e pos) (tAsg ue (gSub (tVar i) ua rSetL)) (dSetI i ta te) :=
  ⟨ps_asg he.pe (pg_sub (pe_var hN hv hd hcd) hk.pe set_list ha) hs hw h1, fun F ρ I own σ H D Dd fo R h k =>
    he.snd F ρ I own σ H _ _ fo R h fun s ρ1 I1 own1 H1 w R1 s1 r1 h1 => by
      obtain ⟨d, ed, h1⟩ := opt_elim h1
      obtain ⟨ds0, e0, h1⟩ := lstAt_elim h1
      obtain ⟨I2, R2, s2, r2⟩ := r1.freeze R1 ed
      obtain ⟨p0, vs0, hσ, h0⟩ := slot_val R2 e0
      refine ⟨_, hσ, hk.snd F ρ1 I2 own1 σ H1 _ _ fo R2 h1 fun b ρ2 I3 own3 H3 w3 R3 s3 r3 h3 => ?_⟩
      obtain ⟨y, ey, h3⟩ := opt_elim h3
      have ry := r3.rep R3 ey
      split at h3
      · rename_i n
        rw [ry.int]
        obtain ⟨ds, e1, h3⟩ := lstAt_elim h3
        obtain ⟨j, ej, h3⟩ := opt_elim h3
        obtain ⟨p', vs, e2, hp, rp, mk⟩ := R3.mutate e1 hσ
        cases e2
        exact ⟨p0, vs, n, j, rfl, rfl, hp, by rw [rp.length]; exact ej, k.nx _ I3 own3 σ _ (mk _ _ (RepL.set (r2.mono s3) j rp)) ((s1.trans s2).trans s3) h3⟩
      · exact h3.elim⟩
/-- x op= e of ints -/
def dAug (i : Nat) (g : Int → Int → Int) (t : DTB) : DTS := fun D ρ => match ρ.at i with
  | .fz (.int m) => t ρ fun b ρ1 => opt (b.get ρ1) fun y => match y with
    | .int n => D.nx (ρ1.set i (.fz (.int (g m n))))
    | _ => False
  | _ => False
theorem ds_aug (i : Nat) {g : Int → Int → Int} {op : Operator} {x : Str} {pos' : Pos} (hN : X.N.Nodup) (ho : PIp X op (ipI g)) (he : DB X L a ua ta) (hL : i ∉ L := by decide) (hi : X.N[i]? = some x := by rfl) (hx : Loc X.env.scope x := by first | exact Or.inl rfl | exact Or.inr rfl) (hf : X.fn x = true ∨ X.env.scope.names.lookup x = some .local := by first | exact .inl rfl | exact .inr rfl | assumption) :
    DS X L (.AugAssign (.Name x pos') op a pos) (tAug i ua (ipI g)) (dAug i g ta) := ⟨ps_aug hN hi hx he.pe ho hf, fun F ρ I own σ H D Dd fo R h k => by
  simp only [dAug] at h
  split at h
  · rename_i m em
    rcases R.slots i with z | ⟨w, z, q⟩
    · rw [em] at z; cases z
    · rw [em] at q
      cases q with
      | int _ =>
        refine ⟨_, z, he.snd F ρ I own σ H _ _ fo R h fun b ρ1 I1 own1 H1 w1 R1 s1 r1 h1 => ?_⟩
        obtain ⟨y, ey, h1⟩ := opt_elim h1
        have ry := r1.rep R1 ey
        split at h1
        · rename_i n
          rw [ry.int]
          obtain ⟨own2, R2⟩ := R1.assign (v := .int (g m n)) (s := .fz (.int (g m n))) fo hL (.fz (.int _))
          exact ⟨m, n, rfl, rfl, k.nx _ I1 own2 _ H1 R2 s1 h1⟩
        · exact h1.elim
  · exact h.elim⟩
end
end DL

set_option Elab.async false
set_option linter.all false
set_option maxRecDepth 100000
namespace DL
open PySem PySem.Spec L2
open PyProof.Rows hiding St

section
variable {X : Cx} {L : List Nat} {pos : Pos}
def dWhile (c : DTT) (tb : DTS) : DTS := fun D ρ => ∃ (Inv : Nat → DEnv → Prop) (m : Nat), Inv m ρ ∧ ∀ m ρ, Inv m ρ → c ρ fun b ρ1 =>
  if b = true then tb { nx := Wk fun ρ2 => ∃ m', m' < m ∧ Inv m' ρ2, ct := Wk fun ρ2 => ∃ m', m' < m ∧ Inv m' ρ2, bk := D.nx, rt := D.rt } ρ1 else D.nx ρ1
theorem ss_while {uc : TT} {tc : DTT} {u : TS} {t : DTS} (hc : ST L uc tc) (hb : SS L u t) : SS L (tWhile uc u) (dWhile tc t) := fun F ρ I own σ H D Dd fo R h k => by
  obtain ⟨Inv, m, h0, step⟩ := h
  refine ⟨fun m σ H => ∃ ρ I' own, Rel F ρ I' own σ H ∧ Sub I I' ∧ Inv m ρ, ⟨m, ρ, I, own, R, Sub.refl _, h0⟩, ?_⟩
  rintro m σ1 H1 ⟨ρ1, I1, own1, R1, s1, i1⟩
  refine hc F ρ1 I1 own1 σ1 H1 _ _ fo R1 (step m ρ1 i1) fun b ρ2 I2 own2 H2 R2 s2 h2 => ?_
  cases b with
  | true =>
    refine ⟨fun σ' H' => ∃ m', m' < m ∧ ∃ ρ I' own, Rel F ρ I' own σ' H' ∧ Sub I I' ∧ Inv m' ρ, fun σ' H' ⟨m', hm, q⟩ => ⟨m', hm, q⟩, ?_⟩
    refine hb F ρ2 I2 own2 σ1 H2 _ _ fo R2 h2 ⟨fun ρ3 I3 own3 σ3 H3 R3 s3 ⟨ρ', w, m', hm, q⟩ => ⟨m', hm, ρ', I3, own3, R3.wk w, (s1.trans s2).trans s3, q⟩,
      fun ρ3 I3 own3 σ3 H3 R3 s3 q => k.nx ρ3 I3 own3 σ3 H3 R3 ((s1.trans s2).trans s3) q, fun ρ3 I3 own3 σ3 H3 R3 s3 ⟨ρ', w, m', hm, q⟩ => ⟨m', hm, ρ', I3, own3, R3.wk w, (s1.trans s2).trans s3, q⟩,
      fun s ρ3 I3 own3 σ3 H3 v R3 s3 r q => k.rt s ρ3 I3 own3 σ3 H3 v R3 ((s1.trans s2).trans s3) r q⟩
  | false => exact k.nx ρ2 I2 own2 σ1 H2 R2 (s1.trans s2) h2
theorem ds_while {c : Expr} {body : List Stmt} {uc : TT} {tc : DTT} {u : TS} {t : DTS} (hp : PassesOwn (model X.prog X.w) X.A X.env X.xe) (hc : DT X L c uc tc) (hb : DSs X L body u t) : DS X L (.While c body [] pos) (tWhile uc u) (dWhile tc t) :=
  ⟨ps_while hp hc.pe hb.ps, ss_while hc.snd hb.snd⟩

/-- the iterator hands out these data -/
def ItOk (F : Fx) (J : It) (I : Hp) (ds : List D) : Prop := ∀ (i : Nat) (I' : Hp) (H : Hp), Sub I I' → Sub I' H →
  (∀ d, ds[i]? = some d → J.go i H ∧ ∀ x H', J.yld i H x H' → (H' = H ∧ Rep I' x d) ∨ ∃ p vs es, x = .ref p ∧ d = .tuple es ∧ H p = none ∧ H' = upd H p (.tup vs) ∧ RepL I' vs es) ∧ (ds.length ≤ i → J.stop i H)
abbrev DTI := DEnv → (List D → DEnv → Prop) → Prop
def SI (L : List Nat) (w : TI) (t : DTI) : Prop := ∀ F ρ I own σ H Qd (R : It → Hp → Prop), FOk F L → Rel F ρ I own σ H → t ρ Qd → (∀ ds ρ' I' own' H' J, Rel F ρ' I' own' σ H' → Sub I I' → ItOk F J I' ds → Qd ds ρ' → R J H') → w σ H R
structure DI (X : Cx) (L : List Nat) (tg iter : Expr) (w : TI) (t : DTI) : Prop where
  pi : PI X tg iter w
  snd : SI L w t
variable {tg e e2 : Expr} {es : List Expr} {ue ue2 : TE} {te : DTE} {ta tb : DTB} {ua : TA} {tas : DTA}
/-- a list that is frozen from here on -/
def iLst (t : DTE) : DTI := fun ρ Q => t ρ fun s ρ1 => opt (frzS s) fun d => match d with
  | .list ds => Q ds ρ1
  | _ => False
theorem di_list (he : DE X L e ue te) : DI X L tg e (iList X.K ue) (iLst te) := ⟨pi_list he.pe, fun F ρ I own σ H Qd R fo Rl h k =>
  he.snd F ρ I own σ H _ _ fo Rl h fun s ρ1 I1 own1 H1 v R1 s1 r1 h1 => by
    obtain ⟨d, ed, h1⟩ := opt_elim h1
    obtain ⟨I2, R2, s2, r2⟩ := r1.freeze R1 ed
    split at h1
    · rename_i ds
      cases r2 with
      | lst hp rp =>
        rename_i p vs
        refine ⟨p, rfl, ⟨vs, .of (R2.sub _ _ hp)⟩, k ds ρ1 I2 own1 H1 _ R2 (s1.trans s2) (fun i I' H' sI sH => ⟨fun d e => ?_, fun hl => ⟨vs, .of (sH _ _ (sI _ _ hp)), by rw [rp.length]; exact hl⟩⟩) h1⟩
        obtain ⟨u, eu, ru⟩ := rp.get e
        refine ⟨⟨vs, u, .of (sH _ _ (sI _ _ hp)), eu⟩, fun x H'' y => .inl ⟨y.1, ?_⟩⟩
        have := y.2 vs (.of (sH _ _ (sI _ _ hp)))
        rw [eu] at this; cases this
        exact ru.mono sI
    · exact h1.elim⟩
/-- a tuple -/
def iTpl (t : DTE) : DTI := fun ρ Q => t ρ fun s ρ1 => opt (frzS s) fun d => match d with
  | .tuple ds => Q ds ρ1
  | _ => False
theorem di_tup (he : DE X L e ue te) : DI X L tg e (iTup X.K ue) (iTpl te) := ⟨pi_tup he.pe, fun F ρ I own σ H Qd R fo Rl h k =>
  he.snd F ρ I own σ H _ _ fo Rl h fun s ρ1 I1 own1 H1 v R1 s1 r1 h1 => by
    obtain ⟨d, ed, h1⟩ := opt_elim h1
    obtain ⟨I2, R2, s2, r2⟩ := r1.freeze R1 ed
    split at h1
    · rename_i ds
      cases r2 with
      | tup hp rp =>
        rename_i p vs
        refine ⟨p, rfl, ⟨vs, .of (R2.sub _ _ hp)⟩, k ds ρ1 I2 own1 H1 _ R2 (s1.trans s2) (fun i I' H' sI sH => ⟨fun d e => ?_, fun hl => ⟨vs, .of (sH _ _ (sI _ _ hp)), by rw [rp.length]; exact hl⟩⟩) h1⟩
        obtain ⟨u, eu, ru⟩ := rp.get e
        refine ⟨⟨vs, u, .of (sH _ _ (sI _ _ hp)), eu⟩, fun x H'' y => .inl ⟨y.1, ?_⟩⟩
        have := y.2 vs (.of (sH _ _ (sI _ _ hp)))
        rw [eu] at this; cases this
        exact ru.mono sI
    · exact h1.elim⟩
/-- range(n), range(a, b) -/
def rangeD (lo : Int) (n : Nat) : List D := (List.range n).map fun i => .int (lo + (i : Nat))
theorem it_range {F : Fx} {I : Hp} {lo : Int} {n : Nat} : ItOk F (Itr lo n) I (rangeD lo n) := fun i I' H sI sH => by
  refine ⟨fun d e => ?_, fun hl => by unfold rangeD at hl; rw [List.length_map, List.length_range] at hl; exact hl⟩
  unfold rangeD at e
  rw [List.getElem?_map, Option.map_eq_some_iff] at e
  obtain ⟨j, ej, rfl⟩ := e
  obtain ⟨hl, ej⟩ := List.getElem?_eq_some_iff.mp ej
  rw [List.getElem_range] at ej; subst ej
  rw [List.length_range] at hl
  exact ⟨hl, fun x H' y => .inl ⟨y.1, by rw [y.2]; exact .int _⟩⟩
def rgO (j : Int) : Prop := -1000000000000 ≤ j ∧ j ≤ 1000000000000
def iRg1 (ta : DTA) : DTI := fun ρ Q => ta ρ fun bs ρ1 => opt (getD' ρ1 bs) fun ds => match ds with
  | [.int j] => rgO j ∧ Q (rangeD 0 j.toNat) ρ1
  | _ => False
theorem di_range1 {p : Pos} (hg : Gl X "range") (hm : X.mg "range" = none) (ha : DA X L [e] ua tas) (hs : starEach [e] X.env = [(false, eval e X.env)] := by rfl) : DI X L tg (.Call (.Name "range" p) [e] [] pos) (iRng1 ua) (iRg1 tas) :=
  ⟨pi_range1 hg hm ha.pe hs, fun F ρ I own σ H Qd R fo Rl h k => ha.snd F ρ I own σ H _ _ fo Rl h fun bs ρ1 I1 own1 H1 vs R1 s1 r1 h1 => by
    obtain ⟨ds, ed, h1⟩ := opt_elim h1
    have rd := getD'_rep R1 r1 ed
    split at h1
    · rename_i j
      obtain ⟨v, rfl, rv⟩ := one_of rd
      rw [rv.int]
      have b := h1.1
      unfold rgO at b
      exact ⟨j, rfl, by omega, by omega, k _ ρ1 I1 own1 H1 _ R1 s1 it_range h1.2⟩
    · exact h1.elim⟩
def iRg2 (ta : DTA) : DTI := fun ρ Q => ta ρ fun bs ρ1 => opt (getD' ρ1 bs) fun ds => match ds with
  | [.int i, .int j] => (rgO i ∧ rgO j) ∧ Q (rangeD i (j - i).toNat) ρ1
  | _ => False
theorem di_range2 {p : Pos} (hg : Gl X "range") (hm : X.mg "range" = none) (ha : DA X L [e, e2] ua tas) (hs : starEach [e, e2] X.env = [(false, eval e X.env), (false, eval e2 X.env)] := by rfl) (hs2 : starEach [e2] X.env = [(false, eval e2 X.env)] := by rfl) : DI X L tg (.Call (.Name "range" p) [e, e2] [] pos) (iRng2 ua) (iRg2 tas) :=
  ⟨pi_range2 hg hm ha.pe hs hs2, fun F ρ I own σ H Qd R fo Rl h k => ha.snd F ρ I own σ H _ _ fo Rl h fun bs ρ1 I1 own1 H1 vs R1 s1 r1 h1 => by
    obtain ⟨ds, ed, h1⟩ := opt_elim h1
    have rd := getD'_rep R1 r1 ed
    split at h1
    · rename_i i j
      obtain ⟨v, w, rfl, rv, rw'⟩ := two_of rd
      rw [rv.int, rw'.int]
      have b := h1.1
      unfold rgO at b
      exact ⟨i, j, rfl, ⟨by omega, by omega, by omega, by omega⟩, k _ ρ1 I1 own1 H1 _ R1 s1 it_range h1.2⟩
    · exact h1.elim⟩
/-- range(a, b, c), c > 0 -/
def rangeC (lo c : Int) (n : Nat) : List D := (List.range n).map fun i => .int (lo + (i : Nat) * c)
theorem it_rangeC {F : Fx} {I : Hp} {lo c : Int} {n : Nat} : ItOk F (Itc lo c n) I (rangeC lo c n) := fun i I' H sI sH => by
  refine ⟨fun d e => ?_, fun hl => by unfold rangeC at hl; rw [List.length_map, List.length_range] at hl; exact hl⟩
  unfold rangeC at e
  rw [List.getElem?_map, Option.map_eq_some_iff] at e
  obtain ⟨j, ej, rfl⟩ := e
  obtain ⟨hl, ej⟩ := List.getElem?_eq_some_iff.mp ej
  rw [List.getElem_range] at ej; subst ej
  rw [List.length_range] at hl
  exact ⟨hl, fun x H' y => .inl ⟨y.1, by rw [y.2]; exact .int _⟩⟩
def iRg3 (ta : DTA) : DTI := fun ρ Q => ta ρ fun bs ρ1 => opt (getD' ρ1 bs) fun ds => match ds with
  | [.int i, .int j, .int c] => ∃ n, RgC i j c n ∧ Q (rangeC i c n) ρ1
  | _ => False
theorem three_of {I H : Hp} {vs : List V} {d e f : D} (h : Paired (RepH I H) vs [d, e, f]) : ∃ v w z, vs = [v, w, z] ∧ RepH I H v d ∧ RepH I H w e ∧ RepH I H z f := by
  cases h with
  | cons h r =>
    obtain ⟨w, z, rfl, h2, h3⟩ := two_of r
    exact ⟨_, _, _, rfl, h, h2, h3⟩
theorem di_range3 {e3 : Expr} {p : Pos} (hg : Gl X "range") (hm : X.mg "range" = none) (ha : DA X L [e, e2, e3] ua tas) (hs : starEach [e, e2, e3] X.env = (false, eval e X.env) :: starEach [e2, e3] X.env := by rfl) (hpl : (backTo pos (starEach [e2, e3] X.env)).any (·.1) = false := by rfl) : DI X L tg (.Call (.Name "range" p) [e, e2, e3] [] pos) (iRng3 ua) (iRg3 tas) :=
  ⟨pi_range3 hg hm ha.pe hs hpl, fun F ρ I own σ H Qd R fo Rl h k => ha.snd F ρ I own σ H _ _ fo Rl h fun bs ρ1 I1 own1 H1 vs R1 s1 r1 h1 => by
    obtain ⟨ds, ed, h1⟩ := opt_elim h1
    have rd := getD'_rep R1 r1 ed
    split at h1
    · rename_i i j c
      obtain ⟨v, w, z, rfl, rv, rw', rz⟩ := three_of rd
      rw [rv.int, rw'.int, rz.int]
      obtain ⟨n, hn, h1⟩ := h1
      exact ⟨i, j, c, n, rfl, hn, k _ ρ1 I1 own1 H1 _ R1 s1 it_rangeC h1⟩
    · exact h1.elim⟩
/-- enumerate(xs) -/
def enumD : Nat → List D → List D
  | _, [] => []
  | i, d :: ds => .tuple [.int i, d] :: enumD (i + 1) ds
theorem enumD_at : ∀ {ds : List D} {k i : Nat}, (enumD k ds)[i]? = (ds[i]?).map fun d => .tuple [.int ((k + i : Nat) : Int), d]
  | [], _, _ => by simp [enumD]
  | d :: ds, k, 0 => by simp [enumD]
  | d :: ds, k, i + 1 => by
    simp only [enumD, List.getElem?_cons_succ]
    rw [enumD_at, show k + 1 + i = k + (i + 1) from by omega]
theorem enumD_len : ∀ {ds : List D} {k : Nat}, (enumD k ds).length = ds.length
  | [], _ => rfl
  | d :: ds, k => by simp [enumD, enumD_len]
def iEnm (ta : DTA) : DTI := fun ρ Q => ta ρ fun bs ρ1 => opt (allD bs) fun ds => match ds with
  | [.list xs] => Q (enumD 0 xs) ρ1
  | _ => False
theorem di_enum {p tpos : Pos} {elts : List Expr} {kk : Nat} (hg : Gl X "enumerate") (hm : X.mg "enumerate" = none) (ha : DA X L [e] ua tas) (hs : starEach [e] X.env = [(false, eval e X.env)] := by rfl) :
    DI X L (.Tuple elts kk tpos) (.Call (.Name "enumerate" p) [e] [] pos) (iEnum X.K ua) (iEnm tas) :=
  ⟨pi_enum hg hm ha.pe hs, fun F ρ I own σ H Qd R fo Rl h k => ha.snd F ρ I own σ H _ _ fo Rl h fun bs ρ1 I1 own1 H1 vs R1 s1 r1 h1 => by
    obtain ⟨ds, ed, h1⟩ := opt_elim h1
    have rd := allD_rep r1 ed
    split at h1
    · rename_i xs
      cases rd with
      | cons rv rn =>
        cases rn
        cases rv with
        | lst hp rp =>
          rename_i q ws
          refine ⟨q, ws, rfl, .of (R1.sub _ _ hp), k _ ρ1 I1 own1 H1 _ R1 s1 (fun i I' H' sI sH => ⟨fun d e => ?_, fun hl => ⟨ws, .of (sH _ _ (sI _ _ hp)), by rw [enumD_len] at hl; rw [rp.length]; exact hl⟩⟩) h1⟩
          rw [enumD_at, Option.map_eq_some_iff] at e
          obtain ⟨d0, e0, rfl⟩ := e
          obtain ⟨u, eu, ru⟩ := rp.get e0
          refine ⟨⟨ws, u, .of (sH _ _ (sI _ _ hp)), eu⟩, fun x H'' y => .inr ?_⟩
          obtain ⟨T, y0, rfl, hT, rfl, hy⟩ := y
          have := hy ws (.of (sH _ _ (sI _ _ hp)))
          rw [eu] at this; cases this
          refine ⟨T, _, _, rfl, rfl, hT, rfl, .cons ?_ (.cons (ru.mono sI) .nil)⟩
          rw [Nat.zero_add]; exact .int _
    · exact h1.elim⟩
/-- zip(xs, ys) of lists -/
def zipD : List D → List D → List D
  | a :: as, b :: bs => .tuple [a, b] :: zipD as bs
  | _, _ => []
theorem zipD_at : ∀ {as bs : List D} {i : Nat} {d : D}, (zipD as bs)[i]? = some d → ∃ a b, as[i]? = some a ∧ bs[i]? = some b ∧ d = .tuple [a, b]
  | [], _, _, _, h => by simp [zipD] at h
  | _ :: _, [], _, _, h => by simp [zipD] at h
  | a :: as, b :: bs, 0, d, h => by simp [zipD] at h; exact ⟨a, b, rfl, rfl, h.symm⟩
  | a :: as, b :: bs, i + 1, d, h => by
    simp only [zipD, List.getElem?_cons_succ] at h ⊢
    exact zipD_at h
theorem zipD_len : ∀ {as bs : List D}, (zipD as bs).length = min as.length bs.length
  | [], _ => by simp [zipD]
  | _ :: _, [] => by simp [zipD]
  | a :: as, b :: bs => by simp only [zipD, List.length_cons]; rw [zipD_len]; omega
def iZp (ta : DTA) : DTI := fun ρ Q => ta ρ fun bs ρ1 => opt (allD bs) fun ds => match ds with
  | [.list xs, .list ys] => Q (zipD xs ys) ρ1
  | _ => False
theorem di_zip {p tpos : Pos} {elts : List Expr} {kk : Nat} (hg : Gl X "zip") (hm : X.mg "zip" = none) (ha : DA X L [e, e2] ua tas) (hs : starEach [e, e2] X.env = (false, eval e X.env) :: starEach [e2] X.env := by rfl) (hpl : (backTo pos (starEach [e2] X.env)).any (·.1) = false := by rfl) :
    DI X L (.Tuple elts kk tpos) (.Call (.Name "zip" p) [e, e2] [] pos) (iZip X.K ua) (iZp tas) :=
  ⟨pi_zip hg hm ha.pe hs hpl, fun F ρ I own σ H Qd R fo Rl h k => ha.snd F ρ I own σ H _ _ fo Rl h fun bs ρ1 I1 own1 H1 vs R1 s1 r1 h1 => by
    obtain ⟨ds, ed, h1⟩ := opt_elim h1
    have rd := allD_rep r1 ed
    split at h1
    · rename_i xs ys
      cases rd with
      | cons rv rn =>
        cases rn with
        | cons rw' rn =>
          cases rn
          cases rv with
          | lst hp rp =>
            rename_i q ws
            cases rw' with
            | lst hp' rp' =>
              rename_i q' ws'
              refine ⟨q, q', ws, ws', rfl, .of (R1.sub _ _ hp), .of (R1.sub _ _ hp'), k _ ρ1 I1 own1 H1 _ R1 s1 (fun i I' H' sI sH => ⟨fun d e => ?_, fun hl => ?_⟩) h1⟩
              · obtain ⟨d1, d2, e1, e2, rfl⟩ := zipD_at e
                obtain ⟨u1, eu1, ru1⟩ := rp.get e1
                obtain ⟨u2, eu2, ru2⟩ := rp'.get e2
                refine ⟨⟨ws, ws', u1, u2, .of (sH _ _ (sI _ _ hp)), .of (sH _ _ (sI _ _ hp')), eu1, eu2⟩, fun x H'' y => .inr ?_⟩
                obtain ⟨T, y1, y2, rfl, hT, rfl, hy1, hy2⟩ := y
                have z1 := hy1 ws (.of (sH _ _ (sI _ _ hp)))
                have z2 := hy2 ws' (.of (sH _ _ (sI _ _ hp')))
                rw [eu1] at z1; cases z1
                rw [eu2] at z2; cases z2
                exact ⟨T, _, _, rfl, rfl, hT, rfl, .cons (ru1.mono sI) (.cons (ru2.mono sI) .nil)⟩
              · rw [zipD_len] at hl
                refine ⟨ws, ws', .of (sH _ _ (sI _ _ hp)), .of (sH _ _ (sI _ _ hp')), ?_⟩
                rw [rp.length, rp'.length]; omega
    · exact h1.elim⟩

def dFor (it : DTI) (g : DTG) (tb : DTS) : DTS := fun D ρ => it ρ fun ds ρ1 => ∃ Inv : Nat → DEnv → Prop, Inv 0 ρ1 ∧
  (∀ i d ρ, ds[i]? = some d → Inv i ρ → g d ρ fun ρ2 => tb { nx := Wk (Inv (i + 1)), ct := Wk (Inv (i + 1)), bk := D.nx, rt := D.rt } ρ2) ∧ ∀ ρ, Inv ds.length ρ → D.nx ρ
theorem ItOk.step {F : Fx} {J : It} {I I' : Hp} {ds : List D} {ρ : DEnv} {own : Addr → Option Nat} {σ : St} {H H' : Hp} {i : Nat} {d : D} {x : V} (h : ItOk F J I ds) (s : Sub I I') (R : Rel F ρ I' own σ H) (e : ds[i]? = some d) (y : J.yld i H x H') :
    ∃ I2, Rel F ρ I2 own σ H' ∧ Sub I' I2 ∧ Rep I2 x d := by
  rcases ((h i I' H s R.sub).1 d e).2 x H' y with ⟨rfl, r⟩ | ⟨p, vs, es, rfl, rfl, hp, rfl, r⟩
  · exact ⟨I', R, Sub.refl _, r⟩
  · obtain ⟨R2, s2⟩ := R.born (o := .tup vs) hp
    exact ⟨_, R2, s2, .tup upd_same (r.mono s2)⟩
theorem ss_for {js : List Nat} {wi : TI} {it : DTI} {g : TG} {gd : DTG} {u : TS} {t : DTS} (hi : SI L wi it) (hg : SG L js g gd) (hb : SS L u t) : SS L (tFor wi g u) (dFor it gd t) := fun F ρ I own σ H D Dd fo R h k =>
  hi F ρ I own σ H _ _ fo R h fun ds ρ1 I1 own1 H1 J R1 s1 ok h1 => by
    obtain ⟨Inv, h0, step, hend⟩ := h1
    refine ⟨fun i m σ H => i + m = ds.length ∧ ∃ ρ I' own, Rel F ρ I' own σ H ∧ Sub I1 I' ∧ Inv i ρ, ⟨ds.length, by omega, ρ1, I1, own1, R1, Sub.refl _, h0⟩, ?_⟩
    rintro i m σ2 H2 ⟨em, ρ2, I2, own2, R2, s2, q2⟩
    cases m with
    | zero =>
      refine .inl ⟨(ok i I2 H2 s2 R2.sub).2 (by omega), k.nx ρ2 I2 own2 σ2 H2 R2 (s1.trans s2) (hend ρ2 ?_)⟩
      have : i = ds.length := by omega
      rw [← this]; exact q2
    | succ m =>
      have e : ds[i]? = some (ds[i]'(by omega)) := List.getElem?_eq_getElem (by omega)
      refine .inr ⟨((ok i I2 H2 s2 R2.sub).1 _ e).1, fun σ' H' => i + 1 + m = ds.length ∧ ∃ ρ I' own, Rel F ρ I' own σ' H' ∧ Sub I1 I' ∧ Inv (i + 1) ρ, fun σ' H' q => ⟨m, by omega, q⟩, fun x H' y => ?_⟩
      obtain ⟨I3, R3, s3, r3⟩ := ok.step s2 R2 e y
      refine hg.run F ρ2 I3 own2 σ2 H' _ x _ _ fo R3 r3 (step i _ ρ2 e q2) fun ρ4 own4 σ4 R4 _ _ q4 => ?_
      have ss := (s1.trans s2).trans s3
      refine hb F ρ4 I3 own4 σ4 H' _ _ fo R4 q4 ⟨fun ρ5 I5 own5 σ5 H5 R5 s5 ⟨ρ', w, q⟩ => ⟨by omega, ρ', I5, own5, R5.wk w, (s2.trans s3).trans s5, q⟩,
        fun ρ5 I5 own5 σ5 H5 R5 s5 q => k.nx ρ5 I5 own5 σ5 H5 R5 (ss.trans s5) q, fun ρ5 I5 own5 σ5 H5 R5 s5 ⟨ρ', w, q⟩ => ⟨by omega, ρ', I5, own5, R5.wk w, (s2.trans s3).trans s5, q⟩,
        fun s ρ5 I5 own5 σ5 H5 v R5 s5 r q => k.rt s ρ5 I5 own5 σ5 H5 v R5 (ss.trans s5) r q⟩
theorem ds_for {js : List Nat} {iter : Expr} {body : List Stmt} {wi : TI} {it : DTI} {g : TG} {gd : DTG} {u : TS} {t : DTS} (hp : PassesOwn (model X.prog X.w) X.A X.env X.xe) (hc : X.calm = true) (hi : DI X L tg iter wi it) (hg : DG X L js tg g gd) (hb : DSs X L body u t)
    (hs : ∀ x, foldedSetIterable iter X.env x = pure x := by intro _; rfl) : DS X L (.For tg iter body [] pos) (tFor wi g u) (dFor it gd t) := ⟨ps_for hp hc hi.pi hg.pg hb.ps hs, ss_for hi.snd hg.snd hb.snd⟩

def wipeD (ρ : DEnv) : List Nat → DEnv
  | [] => ρ
  | v :: vs => (wipeD ρ vs).set v .un
theorem wipeD_len (ρ : DEnv) : ∀ vs, (wipeD ρ vs).length = ρ.length
  | [] => rfl
  | v :: vs => by simp [wipeD, wipeD_len ρ vs]
theorem wipeD_at {ρ : DEnv} {i : Nat} : ∀ {vs : List Nat}, (wipeD ρ vs).at i = .un ∨ (i ∉ vs ∧ (wipeD ρ vs).at i = ρ.at i)
  | [] => .inr ⟨List.not_mem_nil, rfl⟩
  | v :: vs => by
    rcases DEnv.at_set (ρ := wipeD ρ vs) (i := v) (j := i) (s := .un) with ⟨e, _⟩ | e
    · exact .inl e
    · by_cases h : v = i
      · subst h
        by_cases hl : v < (wipeD ρ vs).length
        · exact .inl (DEnv.at_set_self hl)
        · exact .inl (DEnv.at_out (by show ((wipeD ρ vs).set v .un).length ≤ v; rw [List.length_set]; omega))
      · rcases wipeD_at (ρ := ρ) (i := i) (vs := vs) with z | ⟨z, z2⟩
        · exact .inl (e.trans z)
        · exact .inr ⟨by rw [List.mem_cons, not_or]; exact ⟨fun y => h y.symm, z⟩, e.trans z2⟩
theorem wipe_eq {σ : St} {i : Nat} : ∀ {vs : List Nat}, i ∉ vs → (wipe σ vs)[i]? = σ[i]?
  | [], _ => rfl
  | v :: vs, h => by
    rw [List.mem_cons, not_or] at h
    show ((wipe σ vs).set v none)[i]? = _
    rw [List.getElem?_set_ne (fun e => h.1 e.symm), wipe_eq h.2]
theorem wipe_in {σ : St} {i : Nat} : ∀ {vs : List Nat}, i ∈ vs → (wipe σ vs)[i]? = none ∨ (wipe σ vs)[i]? = some none
  | v :: vs, h => by
    show ((wipe σ vs).set v none)[i]? = none ∨ ((wipe σ vs).set v none)[i]? = some none
    by_cases e : v = i
    · subst e
      by_cases hl : v < (wipe σ vs).length
      · rw [List.getElem?_set_self hl]; exact .inr rfl
      · rw [List.getElem?_eq_none (by rw [List.length_set]; omega)]; exact .inl rfl
    · rw [List.getElem?_set_ne e]
      rcases List.mem_cons.mp h with z | z
      · exact absurd z.symm e
      · exact wipe_in z
theorem wipe_same {σ σ2 : St} {js vs : List Nat} (hl : σ2.length = (wipe σ vs).length) (hk : ∀ i, i ∉ js → σ2[i]? = (wipe σ vs)[i]?) (hj : ∀ j ∈ js, j ∈ vs) : wipe σ2 vs = wipe σ vs := by
  apply List.ext_getElem?
  intro i
  by_cases h : i ∈ vs
  · have l2 : (wipe σ2 vs).length = (wipe σ vs).length := by rw [wipe_length]; exact hl
    by_cases hi : i < (wipe σ vs).length
    · have a : ∀ {τ : St}, i < (wipe τ vs).length → (wipe τ vs)[i]? = some none := fun {τ} q => by
        rcases wipe_in (σ := τ) h with z | z
        · rw [List.getElem?_eq_none_iff] at z; omega
        · exact z
      rw [a hi, a (by omega)]
    · rw [List.getElem?_eq_none (by omega), List.getElem?_eq_none (by omega)]
  · rw [wipe_eq h, hk i (fun z => h (hj i z))]
/-- the slots vs are forgotten on both sides -/
theorem Rel.wipe {F : Fx} {ρ : DEnv} {I : Hp} {own : Addr → Option Nat} {σ σ2 : St} {H : Hp} {vs : List Nat} (R : Rel F ρ I own σ H) (fo : FOk F L) (hL : ∀ v ∈ vs, v ∉ L) (hl : σ2.length = σ.length) (hk : ∀ i, i ∉ vs → σ2[i]? = σ[i]?) : Rel F (wipeD ρ vs) I own σ2 H :=
  ⟨R.sub, R.frame, R.there, R.imm, R.new, R.live, R.inew, R.i0, fun i v e => by
    rw [hk i (fun z => hL i z (fo.1 i (ne_some e)))]; exact R.fix i v e, by rw [wipeD_len, hl]; exact R.len, fun i => by
    rcases wipeD_at (ρ := ρ) (i := i) (vs := vs) with e | ⟨h, e⟩
    · exact .inl e
    · rw [e, hk i h]; exact R.slots i⟩
def dLc (it : DTI) (g : DTG) (tt : DTT) (te : DTE) (vs : List Nat) : DTE := fun ρ Q => it ρ fun ds ρ1 => ∃ Inv : Nat → List D → DEnv → Prop, Inv 0 [] (wipeD ρ1 vs) ∧
  (∀ i d acc ρ, ds[i]? = some d → acc.length ≤ i → Inv i acc ρ → g d ρ fun ρ2 => tt ρ2 fun b ρ3 => if b = true then te ρ3 fun s ρ4 => opt (frzS s) fun x => acc.length < sizeLine ∧ Inv (i + 1) (acc ++ [x]) (wipeD ρ4 vs) else Inv (i + 1) acc (wipeD ρ3 vs)) ∧
  ∀ acc ρ, Inv ds.length acc ρ → Q (.lst acc) ρ
/-- a heap that knows what nobody has, too -/
def Fx.re (F : Fx) (I H : Hp) (own : Addr → Option Nat) : Fx := ⟨I, fun a => if own a = none then H a else F.H0 a, F.mu, F.fix⟩
theorem re_own {F : Fx} {I H : Hp} {own : Addr → Option Nat} {a : Addr} (h : own a = none) : (F.re I H own).H0 a = H a := if_pos h
theorem re_not {F : Fx} {I H : Hp} {own : Addr → Option Nat} {a : Addr} (h : own a ≠ none) : (F.re I H own).H0 a = F.H0 a := if_neg h
theorem re_there {F : Fx} {ρ : DEnv} {I : Hp} {own : Addr → Option Nat} {σ : St} {H : Hp} (R : Rel F ρ I own σ H) {a : Addr} (z : F.H0 a ≠ none) : (F.re I H own).H0 a ≠ none := by
  by_cases h : own a = none
  · rw [re_own h]; exact R.there a z
  · rw [re_not h]; exact z
theorem re_none {F : Fx} {ρ : DEnv} {I : Hp} {own : Addr → Option Nat} {σ : St} {H : Hp} (R : Rel F ρ I own σ H) {a : Addr} (z : (F.re I H own).H0 a = none) : F.H0 a = none := by
  cases e : F.H0 a with
  | none => rfl
  | some o => exact absurd z (re_there R (ne_some e))
theorem FOk.re {F : Fx} {ρ : DEnv} {I : Hp} {own : Addr → Option Nat} {σ : St} {H : Hp} (fo : FOk F L) (R : Rel F ρ I own σ H) : FOk (F.re I H own) L := ⟨fo.1, fo.2.1, fun a z => re_there R (fo.2.2 a z)⟩
theorem Rel.rebase {F : Fx} {ρ : DEnv} {I : Hp} {own : Addr → Option Nat} {σ : St} {H : Hp} (R : Rel F ρ I own σ H) : Rel (F.re I H own) ρ I own σ H := by
  refine ⟨R.sub, fun a o e m => ?_, fun a z => ?_, R.imm, fun a i e => ?_, R.live, fun a z => .inr (.inl z), Sub.refl _, R.fix, R.len, R.slots⟩
  · by_cases h : own a = none
    · rw [re_own h] at e; exact e
    · rw [re_not h] at e; exact R.frame a o e m
  · by_cases h : own a = none
    · rw [re_own h] at z; exact z
    · exact R.live a h
  · rw [re_not (ne_some e)]; exact R.new a i e
theorem Rel.unbase {F : Fx} {ρ ρ' : DEnv} {I I' : Hp} {own own' : Addr → Option Nat} {σ σ' : St} {H H' : Hp} (R : Rel F ρ I own σ H) (R' : Rel (F.re I H own) ρ' I' own' σ' H') : Rel F ρ' I' own' σ' H' := by
  refine ⟨R'.sub, fun a o e m => ?_, fun a z => R'.there a (re_there R z), R'.imm, fun a i e => ?_, R'.live, fun a z => ?_, R.i0.trans R'.i0, R'.fix, R'.len, R'.slots⟩
  · refine R'.frame a o ?_ m
    by_cases h : own a = none
    · rw [re_own h]; exact R.frame a o e m
    · rw [re_not h]; exact e
  · rcases R'.new a i e with z | z
    · exact .inl (re_none R z)
    · exact .inr z
  · rcases R'.inew a z with y | y | y
    · exact .inl (re_none R y)
    · exact R.inew a y
    · exact .inr (.inr y)
/-- a thing that nobody has stays -/
theorem Rel.stays {F : Fx} {ρ' : DEnv} {I I' : Hp} {own own' : Addr → Option Nat} {σ' : St} {H H' : Hp} {p : Addr} {o : HO} (fo : FOk F L) (hp : H p = some o) (h1 : own p = none) (h2 : I p = none) (h3 : F.H0 p = none) (R' : Rel (F.re I H own) ρ' I' own' σ' H') :
    H' p = some o ∧ own' p = none ∧ I' p = none := by
  have m : F.mu p = none := by
    cases e : F.mu p with
    | none => rfl
    | some i => exact absurd h3 (fo.2.2 p (ne_some e))
  have e0 : (F.re I H own).H0 p = some o := (re_own h1).trans hp
  refine ⟨R'.frame p o e0 m, ?_, ?_⟩
  · cases e : own' p with
    | none => rfl
    | some i =>
      rcases R'.new p i e with z | z
      · rw [e0] at z; cases z
      · have z' : F.mu p = some i := z
        rw [m] at z'; cases z'
  · cases e : I' p with
    | none => rfl
    | some u =>
      rcases R'.inew p (ne_some e) with z | z | z
      · rw [e0] at z; cases z
      · exact absurd h2 z
      · exact absurd m z
theorem se_lc {js vs : List Nat} {wi : TI} {it : DTI} {g : TG} {gd : DTG} {ut : TT} {tt : DTT} {ue : TE} {te : DTE} (hi : SI L wi it) (hg : SG L js g gd) (hjs : ∀ j ∈ js, j ∈ vs) (hL : ∀ v ∈ vs, v ∉ L) (ht : ST L ut tt) (he : SE L ue te) : SE L (tLc wi g ut ue vs) (dLc it gd tt te vs) := fun F ρ I own σ H Qd Q fo R h k =>
  hi F ρ I own σ H _ _ fo R h fun ds ρ1 I1 own1 H1 J R1 s1 ok h1 => by
    obtain ⟨Inv, h0, step, hend⟩ := h1
    intro P hP
    have wl : (L2.wipe σ vs).length = σ.length := L2.wipe_length σ vs
    have wk : ∀ i, i ∉ vs → (wipe σ vs)[i]? = σ[i]? := fun i hi => wipe_eq hi
    obtain ⟨n1, n2, n3⟩ := R1.fresh hP
    have R1' : Rel F (wipeD ρ1 vs) I1 own1 (wipe σ vs) (upd H1 P (.lst [])) := (R1.laid hP).wipe fo hL wl wk
    refine ⟨fun i m H => i + m = ds.length ∧ ∃ ρ I' own acc vacc, Rel F ρ I' own (wipe σ vs) H ∧ Sub I1 I' ∧ own P = none ∧ I' P = none ∧ H P = some (.lst vacc) ∧ RepL I' vacc acc ∧ acc.length ≤ i ∧ Inv i acc ρ,
      ⟨ds.length, by omega, wipeD ρ1 vs, I1, own1, [], [], R1', Sub.refl _, n2, n1, upd_same, .nil, Nat.le_refl _, h0⟩, ?_⟩
    rintro i m H2 ⟨em, ρ2, I2, own2, acc, vacc, R2, s2, o2, i2, hP2, ra, la, q2⟩
    cases m with
    | zero =>
      have ei : i = ds.length := by omega
      subst ei
      refine .inl ⟨(ok _ I2 H2 s2 R2.sub).2 (Nat.le_refl _), ?_⟩
      have R3 : Rel F ρ2 I2 own2 σ H2 := by
        refine ⟨R2.sub, R2.frame, R2.there, R2.imm, R2.new, R2.live, R2.inew, R2.i0, fun j w e => ?_, by rw [← wl]; exact R2.len, fun j => ?_⟩
        · have := R2.fix j w e
          exact (L2.wipe_some this).1
        · rcases R2.slots j with z | ⟨w, z, q⟩
          · exact .inl z
          · exact .inr ⟨w, (L2.wipe_some z).1, q⟩
      refine k (.lst acc) ρ2 I2 own2 H2 _ R3 (s1.trans s2) ⟨fun a => a = P, fun a e => ?_, P, vacc, rfl, rfl, hP2, ra⟩ (hend acc ρ2 q2)
      subst e
      exact ⟨i2, o2, n3, ne_some hP2⟩
    | succ m =>
      have e : ds[i]? = some (ds[i]'(by omega)) := List.getElem?_eq_getElem (by omega)
      refine .inr ⟨((ok i I2 H2 s2 R2.sub).1 _ e).1, fun H' => i + 1 + m = ds.length ∧ ∃ ρ I' own acc vacc, Rel F ρ I' own (wipe σ vs) H' ∧ Sub I1 I' ∧ own P = none ∧ I' P = none ∧ H' P = some (.lst vacc) ∧ RepL I' vacc acc ∧ acc.length ≤ i + 1 ∧ Inv (i + 1) acc ρ, fun H' q => ⟨m, by omega, q⟩, fun x H' y => ?_⟩
      -- the item comes: what nobody has stays
      have Rb := R2.rebase
      have fb := fo.re R2
      obtain ⟨I3, R3, s3, r3⟩ := ItOk.step (F := F.re I2 H2 own2) (fun i I' H sI sH => ok i I' H sI sH) s2 Rb e y
      refine hg.run _ ρ2 I3 own2 (wipe σ vs) H' _ x _ _ fb R3 r3 (step i _ acc ρ2 e la q2) fun ρ4 own4 σ4 R4 l4 k4 q4 => ?_
      have w4 : wipe σ4 vs = wipe σ vs := wipe_same l4 k4 hjs
      have k4' : ∀ j, j ∉ vs → (wipe σ vs)[j]? = σ4[j]? := fun j hj => (k4 j (fun z => hj (hjs j z))).symm
      refine ⟨w4, ht _ ρ4 I3 own4 σ4 H' _ _ fb R4 q4 fun b ρ5 I5 own5 H5 R5 s5 q5 => ?_⟩
      cases b with
      | true =>
        rw [if_pos rfl] at q5 ⊢
        refine he _ ρ5 I5 own5 σ4 H5 _ _ fb R5 q5 fun s ρ6 I6 own6 H6 w R6 s6 r6 q6 => ?_
        obtain ⟨d, ed, hl, q6⟩ := opt_elim q6
        obtain ⟨I7, R7, s7, r7⟩ := r6.freeze R6 ed
        obtain ⟨e1, e2, e3⟩ := R7.stays fo hP2 o2 i2 n3
        have s27 : Sub I2 I7 := ((s3.trans s5).trans s6).trans s7
        refine ⟨vacc, e1, by rw [ra.length]; exact hl, by omega, wipeD ρ6 vs, I7, own6, acc ++ [d], vacc ++ [w], ?_, s2.trans s27, e2, e3, upd_same, (ra.mono s27).append (.cons r7 .nil), by simp; omega, q6⟩
        have R8 : Rel F ρ6 I7 own6 σ4 H6 := R2.unbase R7
        have R9 : Rel F ρ6 I7 own6 σ4 (upd H6 P (.lst (vacc ++ [w]))) := by
          have ok' : ∀ a, H6 a ≠ none → upd H6 P (.lst (vacc ++ [w])) a ≠ none := fun a z => by
            by_cases e : a = P
            · subst e; rw [upd_same]; exact fun y => nomatch y
            · rw [upd_ne e]; exact z
          refine ⟨fun a o e => ?_, fun a o e m => ?_, fun a z => ok' a (R8.there a z), R8.imm, R8.new, fun a z => ok' a (R8.live a z), R8.inew, R8.i0, R8.fix, R8.len, fun j => ?_⟩
          · rw [upd_ne (fun z => by subst z; rw [e3] at e; cases e)]; exact R8.sub a o e
          · rw [upd_ne (fun z => by subst z; rw [n3] at e; cases e)]; exact R8.frame a o e m
          · rcases R8.slots j with z | ⟨w', z, q⟩
            · exact .inl z
            · exact .inr ⟨w', z, q.frame (fun _ z => z) (Sub.refl _) fun a z => upd_ne fun y => by subst y; rw [e2] at z; cases z⟩
        exact R9.wipe fo hL l4.symm k4'
      | false =>
        rw [if_neg Bool.false_ne_true] at q5 ⊢
        obtain ⟨e1, e2, e3⟩ := R5.stays fo hP2 o2 i2 n3
        have s25 : Sub I2 I5 := s3.trans s5
        exact ⟨by omega, wipeD ρ5 vs, I5, own5, acc, vacc, (R2.unbase R5).wipe fo hL l4.symm k4', s2.trans s25, e2, e3, e1, ra.mono s25, by omega, q5⟩
structure DTs (X : Cx) (L : List Nat) (ifs : List Expr) (u : TT) (t : DTT) : Prop where
  pt : PTs X ifs u
  snd : ST L u t
def dYes : DTT := fun ρ Q => Q true ρ
theorem dts_nil : DTs X L [] tYes dYes := ⟨pts_nil, fun F ρ I own σ H Qd Q _ R h k => k true ρ I own H R (Sub.refl _) h⟩
theorem dts_one {c : Expr} {u : TT} {t : DTT} (h : DT X L c u t) : DTs X L [c] u t := ⟨pts_one h.pe, h.snd⟩
theorem de_lc {elt tg iter : Expr} {ifs : List Expr} {scope : Scope} {own : List (Str × Nat)} {pos : Pos} {wi : TI} {it : DTI} {g : TG} {gd : DTG} {ut : TT} {tt : DTT} {ue : TE} {te : DTE} {js : List Nat} (hc : X.calm = true) (hN : X.N.Nodup) (hi : DI X L tg iter wi it) (ok : BlkOk X.N X.env.scope scope own)
    (hg : ∀ (s : Shared) (H : Hp) (C : Addr) (cl : List (Str × Addr)) (fp : List Addr), DG (X.blk s H scope (compEnvC scope cl C X.env) fp) L js tg g gd) (ht : ∀ (s : Shared) (H : Hp) (C : Addr) (cl : List (Str × Addr)) (fp : List Addr), DTs (X.blk s H scope (compEnvC scope cl C X.env) fp) L ifs ut tt)
    (he : ∀ (s : Shared) (H : Hp) (C : Addr) (cl : List (Str × Addr)) (fp : List Addr), DE (X.blk s H scope (compEnvC scope cl C X.env) fp) L elt ue te) (hjs : ∀ j ∈ js, j ∈ own.map (·.2) := by decide) (hL : ∀ v ∈ own.map (·.2), v ∉ L := by decide) (hs : ∀ x, foldedSetIterable iter X.env x = pure x := by intro _; rfl) :
    DE X L (.ListComp elt [⟨tg, iter, ifs, 0⟩] scope pos) (tLc wi g ut ue (own.map (·.2))) (dLc it gd tt te (own.map (·.2))) :=
  ⟨pe_lc hc hN hi.pi ok (fun s H C cl fp => (hg s H C cl fp).pg) (fun s H C cl fp => (ht s H C cl fp).pt) (fun s H C cl fp => (he s H C cl fp).pe) hs,
   se_lc hi.snd (hg X.s_0 X.H_0 0 [] []).snd hjs hL (ht X.s_0 X.H_0 0 [] []).snd (he X.s_0 X.H_0 0 [] []).snd⟩
theorem ds_setLc (i : Nat) {y : Str} {py : Pos} {elt tg iter : Expr} {ifs : List Expr} {scope : Scope} {own : List (Str × Nat)} {pos spos : Pos} {wi : TI} {it : DTI} {g : TG} {gd : DTG} {ut : TT} {tt : DTT} {ue : TE} {te : DTE} {js : List Nat} (hc : X.calm = true) (hN : X.N.Nodup)
    (hsw : swapsWith (.ListComp elt [⟨tg, iter, ifs, 0⟩] scope pos) (some (.Name y py)) spos.line X.env = pure true) (hi : DI X L tg iter wi it) (ok : BlkOk X.N X.env.scope scope own)
    (hg : ∀ (s : Shared) (H : Hp) (C : Addr) (cl : List (Str × Addr)) (fp : List Addr), DG (X.blk s H scope (compEnvC scope cl C X.env) fp) L js tg g gd) (ht : ∀ (s : Shared) (H : Hp) (C : Addr) (cl : List (Str × Addr)) (fp : List Addr), DTs (X.blk s H scope (compEnvC scope cl C X.env) fp) L ifs ut tt)
    (he : ∀ (s : Shared) (H : Hp) (C : Addr) (cl : List (Str × Addr)) (fp : List Addr), DE (X.blk s H scope (compEnvC scope cl C X.env) fp) L elt ue te) (hLi : i ∉ L := by decide) (hy : X.N[i]? = some y := by rfl) (hyl : X.env.scope.names.lookup y = some .local := by rfl) (hjs : ∀ j ∈ js, j ∈ own.map (·.2) := by decide) (hL : ∀ v ∈ own.map (·.2), v ∉ L := by decide) (hs : ∀ x, foldedSetIterable iter X.env x = pure x := by intro _; rfl) :
    DS X L (.Assign [.Name y py] (.ListComp elt [⟨tg, iter, ifs, 0⟩] scope pos) spos) (tAsg (tLc wi g ut ue (own.map (·.2))) (gName i)) (dSet i (dLc it gd tt te (own.map (·.2)))) :=
  ⟨ps_setLc hc hN hy hyl hsw hi.pi ok (fun s H C cl fp => (hg s H C cl fp).pg) (fun s H C cl fp => (ht s H C cl fp).pt) (fun s H C cl fp => (he s H C cl fp).pe) hs,
   ss_set hLi (se_lc hi.snd (hg X.s_0 X.H_0 0 [] []).snd hjs hL (ht X.s_0 X.H_0 0 [] []).snd (he X.s_0 X.H_0 0 [] []).snd)⟩

def uns (n : Nat) : DEnv := List.replicate n .un
def exitG (lf : List Nat) (ρ : List Slot) : Nat → List Slot → List Slot
  | _, [] => []
  | j, a :: as => (if lf.contains j = true then DEnv.at ρ j else a) :: exitG lf ρ (j + 1) as
def exitS (n : Nat) (lf : List Nat) (as ρ : List Slot) : List Slot := exitG lf ρ 0 as
theorem exitG_len {lf : List Nat} {ρ : List Slot} : ∀ {as : List Slot} {j : Nat}, (exitG lf ρ j as).length = as.length
  | [], _ => rfl
  | a :: as, j => by simp [exitG, exitG_len]
theorem exitG_at {lf : List Nat} {ρ : List Slot} : ∀ {as : List Slot} {j i : Nat}, i < as.length → (exitG lf ρ j as).getD i .un = if lf.contains (j + i) = true then DEnv.at ρ (j + i) else DEnv.at as i
  | [], _, _, h => absurd h (Nat.not_lt_zero _)
  | a :: as, j, 0, _ => rfl
  | a :: as, j, i + 1, h => by
    have ih := exitG_at (lf := lf) (ρ := ρ) (as := as) (j := j + 1) (i := i) (by simpa using h)
    rw [show j + (i + 1) = j + 1 + i from by omega]
    exact ih
theorem exitS_len {n : Nat} {lf : List Nat} {as ρ : List Slot} (h : as.length = n) : (exitS n lf as ρ).length = n := by unfold exitS; rw [exitG_len]; exact h
theorem exitS_at {n : Nat} {lf : List Nat} {as ρ : List Slot} {i : Nat} (hl : as.length = n) (h : i < n) : (exitS n lf as ρ).getD i .un = if i ∈ lf then DEnv.at ρ i else DEnv.at as i := by
  unfold exitS
  rw [exitG_at (by omega), Nat.zero_add]
  by_cases m : i ∈ lf
  · rw [if_pos m, if_pos (by simpa using m)]
  · rw [if_neg m, if_neg (by simpa using m)]
/-- without parameters that are lent: the promise on data alone -/
abbrev PD := List D → (Slot → Prop) → Prop
def dsOf : List Slot → Option (List D)
  | [] => some []
  | .fz d :: r => (dsOf r).map (d :: ·)
  | _ => none
def pure' (P : PD) : PSpec := fun as Q => opt (dsOf as) fun ds => P ds fun s => Q s as
end

section
variable {P : Program} {w : World} {K : PySem.W.Frag} {mg : Str → Option Value} {base : Heap}
theorem Fun.okD {x qual : Str} {st : Stmt} {f : Addr} {fd : FuncData} {N ps : List Str} {k n : Nat} {lf : List Nat} {PS' : PSpec} (F : Fun K x qual st f fd) (S : FnScope N ps (defScope st)) (hn : ps.length = n) (hlf : ∀ i ∈ lf, i < n := by decide)
    (hbody : ∀ (cdv : Value) (A : Around) (outer : List Env) (s : Shared) (H : Hp) (E : XK), Room k (A.deeper (envOfC qual (defScope st) s.heap.objs.size f cdv)) →
      ∃ u t, DSs (cxOf CX0 P w K mg base N qual (defScope st) f cdv A outer s H E).nox lf (defBody st) u t ∧
        ∀ (as : List Slot) (Qd : Slot → List Slot → Prop), as.length = n → PS' as Qd → t { nx := fun ρ => Qd (.fz .none) (exitS n lf as ρ), rt := fun s ρ => Qd s (exitS n lf as ρ) } (as ++ uns (N.length - n))) : FnOk P w K mg base CX0 (k + 1) f fd ps (spD n lf PS') := by
  refine F.ok S (fun vs H Q E h => h.1.trans hn.symm) fun cdv A outer s H vs Q E hr h => ?_
  obtain ⟨u, t, hb, hw⟩ := hbody cdv A outer s H E hr
  obtain ⟨hv, as, Fx', own, Qd, ha, hfix, fo, hfr, R, hP, hk⟩ := h
  refine ⟨u, hb.ps, hb.snd Fx' (as ++ uns (N.length - n)) Fx'.I0 own (L2.start N vs) H _ _ fo ?_ (hw as Qd ha hP) ?_⟩
  · -- the entry
    have stl : (L2.start N vs).length = vs.length + (N.length - vs.length) := by unfold L2.start; rw [List.length_append, List.length_map, List.length_replicate]
    have sta : ∀ {i : Nat} {v : V}, (vs.map some)[i]? = some (some v) → (L2.start N vs)[i]? = some (some v) := fun {i v} e => by
      unfold L2.start
      rw [List.getElem?_append_left (List.getElem?_eq_some_iff.mp e).1]; exact e
    refine ⟨R.sub, R.frame, R.there, R.imm, R.new, R.live, R.inew, R.i0, fun i v e => sta (R.fix i v e), by rw [List.length_append, stl, ha, hv]; unfold uns; rw [List.length_replicate]; omega, fun i => ?_⟩
    by_cases hi : i < as.length
    · have e : DEnv.at (as ++ uns (N.length - n)) i = DEnv.at as i := by
        unfold DEnv.at
        rw [List.getD_eq_getElem?_getD, List.getElem?_append_left hi, List.getD_eq_getElem?_getD]
      rw [e]
      rcases R.slots i with z | ⟨v, z, q⟩
      · exact .inl z
      · exact .inr ⟨v, sta z, q⟩
    · refine .inl ?_
      unfold DEnv.at uns
      rw [List.getD_eq_getElem?_getD, List.getElem?_append_right (by omega), List.getElem?_replicate]
      split <;> rfl
  · -- the end
    have fin : ∀ s ρ I' own' σ H' v, Rel Fx' ρ I' own' σ H' → Sub Fx'.I0 I' → ResOk Fx' I' own' H' v s → Qd s (exitS n lf as ρ) → Q v H' := fun s ρ I' own' σ H' v R' s' r q => by
      refine hk s (exitS n lf as ρ) I' own' H' v (exitS_len ha) (fun i hi => ?_) ⟨R'.sub, R'.frame, R'.there, R'.imm, R'.new, R'.live, R'.inew, R'.i0, R.fix, by rw [exitS_len ha, List.length_map]; omega, fun i => ?_⟩ r q
      · by_cases hl : i < n
        · rw [exitS_at ha hl, if_neg hi]; rfl
        · rw [List.getD_eq_getElem?_getD, List.getD_eq_getElem?_getD, List.getElem?_eq_none (by rw [exitS_len ha]; omega), List.getElem?_eq_none (by omega)]
      · by_cases hl : i < n
        · have e : DEnv.at (exitS n lf as ρ) i = if i ∈ lf then DEnv.at ρ i else DEnv.at as i := exitS_at ha hl
          rw [e]
          by_cases hi : i ∈ lf
          · rw [if_pos hi]
            have hvi : vs[i]? = some (vs[i]'(by omega)) := List.getElem?_eq_getElem (by omega)
            have hf : Fx'.fix i = some (vs[i]'(by omega)) := by rw [hfix, if_pos hi]; exact hvi
            rcases R'.slots i with z | ⟨v', z, q'⟩
            · exact .inl z
            · have := R'.fix i _ hf
              rw [z] at this
              have ev : v' = vs[i]'(by omega) := by simpa using this
              exact .inr ⟨v', by rw [List.getElem?_map, hvi, ev]; rfl, q'⟩
          · rw [if_neg hi]
            have hz := hfr i hi
            rcases R.slots i with z | ⟨v', z, q'⟩
            · exact .inl z
            · cases es : DEnv.at as i with
              | un => exact .inl rfl
              | fz d =>
                rw [es] at q'
                exact .inr ⟨v', z, Rep.mono s' q'⟩
              | _ =>
                have hz' : frozenS (DEnv.at as i) = true := hz
                rw [es] at hz'; cases hz'
        · exact .inl (DEnv.at_out (by rw [exitS_len ha]; omega))
    exact ⟨fun ρ I' own' σ H' R' s' q => fin _ ρ I' own' σ H' .non R' s' (.fz .non) q, fun _ _ _ _ _ _ _ q => q.elim, fun _ _ _ _ _ _ _ q => q.elim, fun s ρ I' own' σ H' v R' s' r q => fin s ρ I' own' σ H' v R' s' r q⟩
end
end DL

set_option Elab.async false
set_option linter.all false
set_option maxRecDepth 100000
namespace DL
open PySem PySem.Spec L2
open PyProof.Rows hiding St

/-- a new thing stays new while nothing is done to it -/
theorem ResOk.stays {F : Fx} {L : List Nat} {ρ ρ' : DEnv} {I I' : Hp} {own own' : Addr → Option Nat} {σ σ' : St} {H H' : Hp} {v : V} {s : Slot} (fo : FOk F L) (R : Rel F ρ I own σ H) (r : ResOk F I own H v s) (R' : Rel (F.re I H own) ρ' I' own' σ' H') :
    ∃ S : Addr → Prop, (∀ a, S a → I' a = none ∧ own' a = none ∧ F.H0 a = none ∧ H' a ≠ none ∧ (F.re I H own).H0 a ≠ none) ∧ ValOk S I' H' v s := by
  obtain ⟨S, hS, hv⟩ := r
  have key : ∀ a, S a → ∃ o, H a = some o ∧ H' a = some o ∧ own' a = none ∧ I' a = none := fun a sa => by
    obtain ⟨n1, n2, n3, n4⟩ := hS a sa
    cases e : H a with
    | none => exact absurd e n4
    | some o =>
      obtain ⟨e1, e2, e3⟩ := Rel.stays fo e n2 n1 n3 R'
      exact ⟨o, rfl, e1, e2, e3⟩
  refine ⟨S, fun a sa => ?_, hv.frame (fun _ z => z) R'.i0 fun a sa => ?_⟩
  · obtain ⟨o, e0, e1, e2, e3⟩ := key a sa
    obtain ⟨n1, n2, n3, n4⟩ := hS a sa
    exact ⟨e3, e2, n3, ne_some e1, by rw [re_own n2]; exact n4⟩
  · obtain ⟨o, e0, e1, _, _⟩ := key a sa
    rw [e0, e1]
/-- two things in a row into two slots -/
theorem Rel.assign2 {F : Fx} {L : List Nat} {ρ : DEnv} {I : Hp} {own : Addr → Option Nat} {σ : St} {H : Hp} {v w : V} {s t : Slot} {i j : Nat} {S1 S2 : Addr → Prop} (fo : FOk F L) (hi : i ∉ L) (hj : j ∉ L) (R : Rel F ρ I own σ H)
    (h1 : ∀ a, S1 a → I a = none ∧ own a = none ∧ F.H0 a = none ∧ H a ≠ none) (r1 : ValOk S1 I H v s) (h2 : ∀ a, S2 a → I a = none ∧ own a = none ∧ F.H0 a = none ∧ H a ≠ none) (r2 : ValOk S2 I H w t) (dis : ∀ a, S1 a → S2 a → False) :
    ∃ own', Rel F ((ρ.set i s).set j t) I own' ((σ.set i (some v)).set j (some w)) H := by
  classical
  obtain ⟨own1, R1, ho⟩ : ∃ own1, Rel F (ρ.set i s) I own1 (σ.set i (some v)) H ∧ ∀ a, S2 a → own1 a = none := by
    have o3 : ∀ a k, (if S1 a then some i else own a) = some k → (S1 a ∧ i = k) ∨ own a = some k := fun a k e => by
      by_cases h : S1 a
      · rw [if_pos h] at e; cases e; exact .inl ⟨h, rfl⟩
      · rw [if_neg h] at e; exact .inr e
    have on : ∀ a, (if S1 a then some i else own a) ≠ none → S1 a ∨ own a ≠ none := fun a e => by
      by_cases h : S1 a
      · exact .inl h
      · rw [if_neg h] at e; exact .inr e
    have hfix : F.fix i = none := by
      cases e : F.fix i with
      | none => rfl
      | some v => exact absurd (fo.1 i (ne_some e)) hi
    refine ⟨fun a => if S1 a then some i else own a, ⟨R.sub, R.frame, R.there, fun a e => ?_, fun a k e => ?_, fun a e => ?_, R.inew, R.i0, fun k w e => ?_, by rw [List.length_set, List.length_set]; exact R.len, fun k => ?_⟩, fun a ha => ?_⟩
    · rcases on a e with h | h
      · exact (h1 a h).1
      · exact R.imm a h
    · rcases o3 a k e with ⟨h, _⟩ | h
      · exact .inl (h1 a h).2.2.1
      · exact R.new a k h
    · rcases on a e with h | h
      · exact (h1 a h).2.2.2
      · exact R.live a h
    · rw [List.getElem?_set_ne (fun z => by subst z; rw [hfix] at e; cases e)]
      exact R.fix k w e
    · by_cases hk : i = k
      · subst hk
        by_cases hl : i < ρ.length
        · rw [DEnv.at_set_self hl]
          refine .inr ⟨v, by rw [List.getElem?_set_self (Nat.lt_of_lt_of_le hl R.len)], r1.frame (fun a z => if_pos z) (Sub.refl _) fun _ _ => rfl⟩
        · exact .inl (DEnv.at_out (by rw [List.length_set]; omega))
      · rw [DEnv.at_set_ne hk, List.getElem?_set_ne hk]
        rcases R.slots k with e | ⟨w, e, q⟩
        · exact .inl e
        · refine .inr ⟨w, e, q.frame (fun a z => ?_) (Sub.refl _) fun _ _ => rfl⟩
          show (if S1 a then some i else own a) = some k
          by_cases h : S1 a
          · rw [(h1 a h).2.1] at z; cases z
          · rw [if_neg h]; exact z
    · show (if S1 a then some i else own a) = none
      rw [if_neg (fun z => dis a z ha)]; exact (h2 a ha).2.1
  exact R1.assign fo hj ⟨S2, fun a ha => ⟨(h2 a ha).1, ho a ha, (h2 a ha).2.2⟩, r2⟩

theorem Rel.assignFz {F : Fx} {L : List Nat} {ρ : DEnv} {I : Hp} {own : Addr → Option Nat} {σ : St} {H : Hp} {v : V} {d : D} {i : Nat} (fo : FOk F L) (hi : i ∉ L) (R : Rel F ρ I own σ H) (r : Rep I v d) : Rel F (ρ.set i (.fz d)) I own (σ.set i (some v)) H := by
  have hfix : F.fix i = none := by
    cases e : F.fix i with
    | none => rfl
    | some v => exact absurd (fo.1 i (ne_some e)) hi
  refine ⟨R.sub, R.frame, R.there, R.imm, R.new, R.live, R.inew, R.i0, fun k w e => ?_, by rw [List.length_set, List.length_set]; exact R.len, fun k => ?_⟩
  · rw [List.getElem?_set_ne (fun z => by subst z; rw [hfix] at e; cases e)]
    exact R.fix k w e
  · by_cases hk : i = k
    · subst hk
      by_cases hl : i < ρ.length
      · rw [DEnv.at_set_self hl]
        exact .inr ⟨v, by rw [List.getElem?_set_self (Nat.lt_of_lt_of_le hl R.len)], r⟩
      · exact .inl (DEnv.at_out (by rw [List.length_set]; omega))
    · rw [DEnv.at_set_ne hk, List.getElem?_set_ne hk]
      exact R.slots k

section
variable {X : Cx} {L : List Nat} {a b c e : Expr} {es : List Expr} {u1 u2 u3 ue ua : TE} {t1 t2 t3 te : DTE} {ta : DTB} {pos : Pos} {us : TA} {ts : DTA}
/-- x, y = a, b -/
def dPar (i j : Nat) (t1 t2 : DTE) : DTS := fun D ρ => t1 ρ fun s ρ1 => t2 ρ1 fun t ρ2 => D.nx ((ρ2.set i s).set j t)
theorem ss_par {i j : Nat} (hi : i ∉ L) (hj : j ∉ L) (h1 : SE L u1 t1) (h2 : SE L u2 t2) : SS L (tPar i j (tCons u1 (tCons u2 tNil))) (dPar i j t1 t2) := fun F ρ I own σ H D Dd fo R h k =>
  h1 F ρ I own σ H _ _ fo R h fun s ρ1 I1 own1 H1 v R1 s1 r1 q1 => h2 (F.re I1 H1 own1) ρ1 I1 own1 σ H1 _ _ (fo.re R1) R1.rebase q1 fun t ρ2 I2 own2 H2 w R2 s2 r2 q2 => by
    refine ⟨v, w, rfl, ?_⟩
    obtain ⟨S1, g1, v1⟩ := r1.stays fo R1 R2
    obtain ⟨S2, g2, v2⟩ := r2
    have RF := R1.unbase R2
    obtain ⟨own3, R3⟩ := RF.assign2 fo hi hj (fun a h => ⟨(g1 a h).1, (g1 a h).2.1, (g1 a h).2.2.1, (g1 a h).2.2.2.1⟩) v1 (fun a h => ⟨(g2 a h).1, (g2 a h).2.1, re_none R1 (g2 a h).2.2.1, (g2 a h).2.2.2⟩) v2 fun a h h' => (g1 a h).2.2.2.2 (g2 a h').2.2.1
    exact k.nx _ I2 own3 _ H2 R3 (s1.trans s2) q2
theorem ds_par (i j : Nat) {x y : Str} {px py pt : Pos} {kt k2 pt2} (hc : X.calm = true) (hN : X.N.Nodup) (h1 : DE X L a u1 t1) (h2 : DE X L b u2 t2) (hLi : i ∉ L := by decide) (hLj : j ∉ L := by decide) (hi : X.N[i]? = some x := by rfl) (hj : X.N[j]? = some y := by rfl) (hij : i ≠ j := by decide)
    (hx : X.env.scope.names.lookup x = some .local := by rfl) (hy : X.env.scope.names.lookup y = some .local := by rfl) (hw : swappedStores [.Tuple [.Name x px, .Name y py] kt pt] (.Tuple [a, b] k2 pt2) X.env = pure (some [x, y]) := by rfl)
    (hs : swapsWithSole [.Tuple [.Name x px, .Name y py] kt pt] (.Tuple [a, b] k2 pt2) pos.line X.env = pure false := by rfl) (hs1 : starEach [a, b] X.env = (false, eval a X.env) :: starEach [b] X.env := by rfl) (hs2 : starEach [b] X.env = (false, eval b X.env) :: starEach [] X.env := by rfl) :
    DS X L (.Assign [.Tuple [.Name x px, .Name y py] kt pt] (.Tuple [a, b] k2 pt2) pos) (tPar i j (tCons u1 (tCons u2 tNil))) (dPar i j t1 t2) :=
  ⟨ps_par hc hN hi hj hij hx hy (pa_cons h1.pe (pa_cons h2.pe pa_nil hs2) hs1) hw hs, ss_par hLi hLj h1.snd h2.snd⟩
/-- x, y, z = a, b, c: the things data -/
def dPar3 (i j l : Nat) (t1 t2 t3 : DTE) : DTS := fun D ρ => t1 ρ fun s ρ1 => opt (frzS s) fun d1 => t2 ρ1 fun s2 ρ2 => opt (frzS s2) fun d2 => t3 ρ2 fun s3 ρ3 => D.nx (((ρ3.set i (.fz d1)).set j (.fz d2)).set l s3)
theorem ss_par3 {i j l : Nat} (hi : i ∉ L) (hj : j ∉ L) (hl : l ∉ L) (h1 : SE L u1 t1) (h2 : SE L u2 t2) (h3 : SE L u3 t3) : SS L (tPar3 i j l (tCons u1 (tCons u2 (tCons u3 tNil)))) (dPar3 i j l t1 t2 t3) := fun F ρ I own σ H D Dd fo R h k =>
  h1 F ρ I own σ H _ _ fo R h fun s ρ1 I1 own1 H1 v R1 s1 r1 q1 => by
    obtain ⟨d1, e1, q1⟩ := opt_elim q1
    obtain ⟨J1, R1, z1, r1⟩ := r1.freeze R1 e1
    refine h2 F ρ1 J1 own1 σ H1 _ _ fo R1 q1 fun t ρ2 I2 own2 H2 w R2 s2 r2 q2 => ?_
    obtain ⟨d2, e2, q2⟩ := opt_elim q2
    obtain ⟨J2, R2, z2, r2⟩ := r2.freeze R2 e2
    refine h3 F ρ2 J2 own2 σ H2 _ _ fo R2 q2 fun t3' ρ3 I3 own3 H3 w3 R3 s3 r3 q3 => ?_
    refine ⟨v, w, w3, rfl, ?_⟩
    have ra := Rep.mono (s2.trans (z2.trans s3)) r1
    have rb := Rep.mono s3 r2
    obtain ⟨o3, R6⟩ := ((R3.assignFz fo hi ra).assignFz fo hj rb).assign fo hl r3
    exact k.nx _ I3 o3 _ H3 R6 (s1.trans (z1.trans (s2.trans (z2.trans s3)))) q3
theorem ds_par3 (i j l : Nat) {x y z : Str} {px py pz pt : Pos} {kt k2 pt2} (hc : X.calm = true) (hN : X.N.Nodup) (h1 : DE X L a u1 t1) (h2 : DE X L b u2 t2) (h3 : DE X L c u3 t3) (hLi : i ∉ L := by decide) (hLj : j ∉ L := by decide) (hLl : l ∉ L := by decide) (hi : X.N[i]? = some x := by rfl) (hj : X.N[j]? = some y := by rfl) (hl : X.N[l]? = some z := by rfl)
    (hij : i ≠ j := by decide) (hil : i ≠ l := by decide) (hjl : j ≠ l := by decide)
    (hx : X.env.scope.names.lookup x = some .local := by rfl) (hy : X.env.scope.names.lookup y = some .local := by rfl) (hz : X.env.scope.names.lookup z = some .local := by rfl) (hw : swappedStores [.Tuple [.Name x px, .Name y py, .Name z pz] kt pt] (.Tuple [a, b, c] k2 pt2) X.env = pure (some [x, y, z]) := by rfl)
    (hs : swapsWithSole [.Tuple [.Name x px, .Name y py, .Name z pz] kt pt] (.Tuple [a, b, c] k2 pt2) pos.line X.env = pure false := by rfl) (hs1 : starEach [a, b, c] X.env = (false, eval a X.env) :: starEach [b, c] X.env := by rfl) (hs2 : starEach [b, c] X.env = (false, eval b X.env) :: starEach [c] X.env := by rfl) (hs3 : starEach [c] X.env = (false, eval c X.env) :: starEach [] X.env := by rfl) :
    DS X L (.Assign [.Tuple [.Name x px, .Name y py, .Name z pz] kt pt] (.Tuple [a, b, c] k2 pt2) pos) (tPar3 i j l (tCons u1 (tCons u2 (tCons u3 tNil)))) (dPar3 i j l t1 t2 t3) :=
  ⟨ps_par3 hc hN hi hj hl hij hil hjl hx hy hz (pa_cons h1.pe (pa_cons h2.pe (pa_cons h3.pe pa_nil hs3) hs2) hs1) hw hs, ss_par3 hLi hLj hLl h1.snd h2.snd h3.snd⟩

theorem get_list : PGet X (fun o i H Q => ∃ p xs k v, o = .ref p ∧ i = .int k ∧ 0 ≤ k ∧ k < 1000000 ∧ H p = some (.lst xs) ∧ xs[k.toNat]? = some v ∧ Q v H) := by
  intro pins s σ H o i ov iv Q I ro ri h
  obtain ⟨p, xs, k, v, rfl, rfl, h0, h1, hp, hv, q⟩ := h
  cases ro
  obtain ⟨t, rfl⟩ := ri
  obtain ⟨its, rv, pl, _⟩ := I.list (SqL.of (K := X.K) hp)
  obtain ⟨u, eu, ru⟩ := rv.get hv
  exact wpAny_getItem_list pl.isList h0 (by omega) (by simpa using eu) ⟨v, H, I, ru, q⟩
def dAugI (i : Nat) (g : Int → Int → Int) (tk tv : DTB) : DTS := fun D ρ => lstAt ρ i fun _ => tk ρ fun b ρ1 => opt (b.get ρ1) fun y => match y with
  | .int n => lstAt ρ1 i fun ds => (0 ≤ n ∧ n < 1000000) ∧ opt ds[n.toNat]? fun old => match old with
    | .int m => tv ρ1 fun b2 ρ2 => opt (b2.get ρ2) fun z => match z with
      | .int w => lstAt ρ2 i fun ds2 => opt (ixN ds2.length n) fun j => D.nx (ρ2.set i (.lst (ds2.set j (.int (g m w)))))
      | _ => False
    | _ => False
  | _ => False
theorem ds_augI (i : Nat) {g : Int → Int → Int} {op : Operator} {x : Str} {p tp : Pos} {ub : TE} {tb : DTB} (ho : PIp X op (ipI g)) (hk : DB X L a ua ta) (he : DB X L b ub tb) (hN : X.N[i]? = some x := by rfl) (hv : Vis X.env.scope x := by first | exact Or.inl rfl | exact Or.inr (Or.inl rfl) | exact Or.inr (Or.inr rfl)) (hd : (x == ("__debug__" : Str)) = false := by decide)
    (hcd : (x == ("__classdict__" : Str)) = false := by decide) (hst : ∀ ov iv new, augStore a ov iv new = (do holding [new, ov, iv] (setItem ov iv new); release [new, ov, iv] []; pure .next) := by intros; rfl) :
    DS X L (.AugAssign (.Subscript (.Name x p) a tp) op b pos) (tAugS (tVar i) ua ub (fun o i H Q => ∃ p xs k v, o = .ref p ∧ i = .int k ∧ 0 ≤ k ∧ k < 1000000 ∧ H p = some (.lst xs) ∧ xs[k.toNat]? = some v ∧ Q v H) (ipI g) rSetL) (dAugI i g ta tb) :=
  ⟨ps_augS (pe_var hN hv hd hcd) hk.pe get_list he.pe ho set_list hst, fun F ρ I own σ H D Dd fo R h k => by
    obtain ⟨ds0, e0, h⟩ := lstAt_elim h
    obtain ⟨p0, vs0, hσ, h0⟩ := slot_val R e0
    refine ⟨_, hσ, hk.snd F ρ I own σ H _ _ fo R h fun b1 ρ1 I1 own1 H1 v1 R1 s1 r1 q1 => ?_⟩
    obtain ⟨y, ey, q1⟩ := opt_elim q1
    have ry := r1.rep R1 ey
    split at q1
    · rename_i n
      obtain ⟨ds1, e1, hn, q1⟩ := lstAt_elim q1
      obtain ⟨old, eo, q1⟩ := opt_elim q1
      obtain ⟨p1, vs1, z1, hp1, rp1, _⟩ := R1.mutate e1 hσ
      cases z1
      obtain ⟨u, eu, ru⟩ := rp1.get eo
      split at q1
      · rename_i m
        cases ru with
        | int _ =>
          refine ⟨p0, vs1, n, _, rfl, ry.int, hn.1, hn.2, hp1, eu, he.snd F ρ1 I1 own1 σ H1 _ _ fo R1 q1 fun b2 ρ2 I2 own2 H2 v2 R2 s2 r2 q2 => ?_⟩
          obtain ⟨z, ez, q2⟩ := opt_elim q2
          have rz := r2.rep R2 ez
          split at q2
          · rename_i w
            obtain ⟨ds2, e2, q2⟩ := lstAt_elim q2
            obtain ⟨j, ej, q2⟩ := opt_elim q2
            obtain ⟨p2, vs2, z2, hp2, rp2, mk⟩ := R2.mutate e2 hσ
            cases z2
            refine ⟨m, w, rfl, rz.int, p0, vs2, n, j, rfl, ry.int, hp2, by rw [rp2.length]; exact ej, ?_⟩
            exact k.nx _ I2 own2 σ _ (mk _ _ (RepL.set (.int _) j rp2)) (s1.trans s2) q2
          · exact q2.elim
      · exact q1.elim
    · exact q1.elim⟩

def ixOf (x : D) : List D → Option Nat
  | [] => none
  | d :: ds => if PyData.eqv d x = true then some 0 else (ixOf x ds).map (· + 1)
theorem ixOf_at {x : D} : ∀ {ds : List D} {j : Nat}, ixOf x ds = some j → (∃ d, ds[j]? = some d ∧ PyData.eqv d x = true) ∧ ∀ m d, m < j → ds[m]? = some d → PyData.eqv d x = false
  | [], j, h => by cases h
  | d :: ds, j, h => by
    unfold ixOf at h
    by_cases e : PyData.eqv d x = true
    · rw [if_pos e] at h; cases h
      exact ⟨⟨d, rfl, e⟩, fun m _ hm => absurd hm (Nat.not_lt_zero _)⟩
    · rw [if_neg e, Option.map_eq_some_iff] at h
      obtain ⟨k, hk, rfl⟩ := h
      obtain ⟨⟨d', e1, e2⟩, h2⟩ := ixOf_at hk
      refine ⟨⟨d', by simpa using e1, e2⟩, fun m d' hm hd => ?_⟩
      cases m with
      | zero =>
        have : d = d' := by simpa using hd
        rw [← this]; simpa using e
      | succ m => exact h2 m d' (by omega) (by simpa using hd)
theorem flat_get {ds : List D} (f : ds.all flatD = true) {m : Nat} {d : D} (e : ds[m]? = some d) : flatD d = true := List.all_eq_true.mp f d (List.mem_of_getElem? e)
def isLst : BV → DEnv → Prop := fun b ρ => opt (b.get ρ) fun x => match x with
  | .list _ => True
  | _ => False
def dIndex' (ta tb : DTB) : DTE := fun ρ Q => ta ρ fun a ρ1 => isLst a ρ1 ∧ tb ρ1 fun b ρ2 => opt (a.get ρ2) fun x => opt (b.get ρ2) fun y => match x with
  | .list ds => (flatD y = true ∧ ds.all flatD = true) ∧ opt (ixOf y ds) fun j => Q (.fz (.int (j : Nat))) ρ2
  | _ => False
theorem de_index {apos cpos : Pos} {ub : TE} {tb : DTB} (ha : DB X L a ua ta) (hb : DB X L b ub tb) (hst : starEach [b] X.env = (false, eval b X.env) :: starEach [] X.env := by rfl)
    (hbase : attributeBase a "index" X.env (eval a X.env) = eval a X.env := by rfl)
    (hfew : ((backTo cpos (starEach [b] X.env)).all (fun x => !x.1) && (backToKw cpos (keywordEach [] X.env)).all (fun x => x.1.isSome) && decide (([b] : List Expr).length + ([] : List Keyword).length + (if ([] : List Keyword).isEmpty then 0 else 1) < 30)) = true := by rfl)
    (hline : (apos.endLine == cpos.line) = true := by rfl) (hpl : (backTo cpos (starEach [] X.env)).any (·.1) = false := by rfl) :
    DE X L (.Call (.Attribute a "index" apos) [b] [] cpos) (tBM X.K "list" (rIndex X.K) ua (tCons ub tNil)) (dIndex' ta tb) :=
  ⟨pe_bm PySem.F.plainAttrs_list PySem.F.slot_list_index PySem.F.type_list_index mt_index ha.pe (pa_cons hb.pe pa_nil hst) hbase hfew hline hst hpl, fun F ρ I own σ H Qd Q fo R h k =>
    ha.snd F ρ I own σ H _ _ fo R h fun b1 ρ1 I1 own1 H1 v1 R1 s1 r1 q1 => by
      obtain ⟨il, q1⟩ := q1
      obtain ⟨x0, ex0, il⟩ := opt_elim il
      have rx0 := r1.rep R1 ex0
      have ty : tyV X.K "list" v1 H1 := by
        split at il
        · obtain ⟨p, vs, rfl, h1, _⟩ := rx0.lst R1.sub
          exact .inl ⟨rfl, vs, .of h1⟩
        · exact il.elim
      refine ⟨ty, hb.snd F ρ1 I1 own1 σ H1 _ _ fo R1 q1 fun b2 ρ2 I2 own2 H2 v2 R2 s2 r2 q2 => ?_⟩
      obtain ⟨x, ex, q2⟩ := opt_elim q2
      obtain ⟨y, ey, q2⟩ := opt_elim q2
      have rx := (r1.mono s2).rep R2 ex
      have ry := r2.rep R2 ey
      split at q2
      · rename_i ds
        obtain ⟨⟨fy, fds⟩, q2⟩ := q2
        obtain ⟨j, ej, q2⟩ := opt_elim q2
        obtain ⟨p, vs, rfl, h1, rp⟩ := rx.lst R2.sub
        have ry' := ry.rep fy
        obtain ⟨⟨d, ed, ee⟩, hno⟩ := ixOf_at ej
        obtain ⟨u, eu, ru⟩ := rp.get ed
        refine ⟨p, vs, v2, j, u, rfl, rfl, .of h1, ry'.flat fy, rp.flat fds, eu, by rw [ru.eqv ry' (flat_get fds ed) fy]; exact ee, fun m z' hm hz => ?_, k _ ρ2 I2 own2 H2 _ R2 (s1.trans s2) (.fz (.int _)) q2⟩
        obtain ⟨d', ed', rd'⟩ := rp.getV hz
        rw [rd'.eqv ry' (flat_get fds ed') fy]
        exact hno m d' hm ed'
      · exact q2.elim⟩

def cTuple : RC := fun ds Q => match ds with
  | [.list xs] => Q (.fz (.tuple xs))
  | [.tuple xs] => Q (.fz (.tuple xs))
  | _ => False
theorem sc_tuple {K : PySem.W.Frag} : SndC (fun xs H Q => ∃ p ys, xs = [.ref p] ∧ ((SqL K H p ys ∧ ∀ l, H l = none → Q (.ref l) (upd H l (.tup ys))) ∨ (SqT K H p ys ∧ Q (.ref p) H))) cTuple := fun F ρ I own σ H vs ds Qs Q R rx h k => by
  unfold cTuple at h
  split at h
  · obtain ⟨v, rfl, rv⟩ := one_of rx
    obtain ⟨p, ws, rfl, h1, r1⟩ := rv.lst R.sub
    refine ⟨p, ws, rfl, .inl ⟨.of h1, fun l hl => ?_⟩⟩
    obtain ⟨R2, s2⟩ := R.born (o := .tup ws) hl
    exact k _ _ _ _ R2 s2 (.fz (.tup upd_same (r1.mono s2))) h
  · obtain ⟨v, rfl, rv⟩ := one_of rx
    obtain ⟨p, ws, rfl, h1, r1⟩ := rv.tup
    exact ⟨p, ws, rfl, .inr ⟨.of (R.sub _ _ h1), k _ I H _ R (Sub.refl _) (.fz (.tup h1 r1)) h⟩⟩
  · exact h.elim

def lexP (a b : Int × Int) : Bool := decide (a.1 < b.1) || (decide (a.1 = b.1) && decide (a.2 ≤ b.2))
def srtP (ps : List (Int × Int)) : List (Int × Int) := ps.mergeSort lexP
def pairsOf : List D → Option (List (Int × Int))
  | [] => some []
  | .tuple [.int i, .int j] :: ds => (pairsOf ds).map ((i, j) :: ·)
  | _ => none
def pD (p : Int × Int) : D := .tuple [.int p.1, .int p.2]
theorem pairsOf_map : ∀ ps : List (Int × Int), pairsOf (ps.map pD) = some ps
  | [] => rfl
  | p :: ps => by simp only [List.map_cons, pD, pairsOf]; rw [pairsOf_map ps]; rfl
theorem pairsOf_some : ∀ {ds : List D} {ps : List (Int × Int)}, pairsOf ds = some ps → ds = ps.map pD
  | [], ps, h => by cases h; rfl
  | d :: ds, ps, h => by
    unfold pairsOf at h
    split at h
    · rename_i e; cases e
    · rename_i i j ds' e
      cases e
      rw [Option.map_eq_some_iff] at h
      obtain ⟨qs, h1, rfl⟩ := h
      rw [pairsOf_some h1]; rfl
    · cases h
theorem lexP_trans (a b c : Int × Int) (h1 : lexP a b = true) (h2 : lexP b c = true) : lexP a c = true := by
  unfold lexP at *
  simp only [Bool.or_eq_true, Bool.and_eq_true, decide_eq_true_eq] at *
  omega
theorem lexP_total (a b : Int × Int) : (lexP a b || lexP b a) = true := by
  unfold lexP
  simp only [Bool.or_eq_true, Bool.and_eq_true, decide_eq_true_eq]
  omega
theorem lexP_anti {a b : Int × Int} (h1 : lexP a b = true) (h2 : lexP b a = true) : a = b := by
  unfold lexP at *
  simp only [Bool.or_eq_true, Bool.and_eq_true, decide_eq_true_eq] at *
  exact Prod.ext (by omega) (by omega)
theorem srtP_perm (ps : List (Int × Int)) : (srtP ps).Perm ps := List.mergeSort_perm _ _
theorem srtP_sorted (ps : List (Int × Int)) : (srtP ps).Pairwise fun a b => lexP a b = true := List.pairwise_mergeSort lexP_trans lexP_total ps
theorem srtP_of {ps qs : List (Int × Int)} (p : qs.Perm ps) (s : qs.Pairwise fun a b => lexP a b = true) : qs = srtP ps :=
  (p.trans (srtP_perm ps).symm).eq_of_pairwise (le := fun a b => lexP a b = true) (fun a b _ _ h1 h2 => lexP_anti h1 h2) s (srtP_sorted ps)
def kOf (H : Hp) : V → Int × Int
  | .ref t => match H t with
    | some (.tup [.int i, .int j]) => (i, j)
    | _ => (0, 0)
  | _ => (0, 0)
theorem kOf_mem {I H : Hp} (s : Sub I H) : ∀ {ps : List (Int × Int)} {ws : List V}, RepL I ws (ps.map pD) → ws.map (kOf H) = ps ∧ ∀ v ∈ ws, Rep I v (pD (kOf H v)) ∧ ∃ t, v = V.ref t ∧ H t = some (.tup [.int (kOf H v).1, .int (kOf H v).2])
  | [], ws, h => by cases h; exact ⟨rfl, fun _ z => nomatch z⟩
  | p :: ps, ws, h => by
    cases h with
    | cons h r =>
      obtain ⟨e, m⟩ := kOf_mem s r
      cases h with
      | tup ht hr =>
        cases hr with
        | cons r1 hr =>
          cases hr with
          | cons r2 hr =>
            cases hr
            cases r1
            cases r2
            have hH := s _ _ ht
            rename_i a
            have ek : kOf H (.ref a) = p := by simp only [kOf, hH]
            refine ⟨by rw [List.map_cons, ek, e], fun v hv => ?_⟩
            rcases List.mem_cons.mp hv with rfl | hv
            · rw [ek]
              exact ⟨.tup ht (.cons (.int _) (.cons (.int _) .nil)), a, rfl, hH⟩
            · exact m v hv
theorem repL_of {I : Hp} {f : V → D} : ∀ {ws : List V}, (∀ v ∈ ws, Rep I v (f v)) → RepL I ws (ws.map f)
  | [], _ => .nil
  | v :: ws, h => .cons (h v List.mem_cons_self) (repL_of fun w hw => h w (List.mem_cons_of_mem _ hw))
def cSortedP : RC := fun ds Q => match ds with
  | [.list xs] => opt (pairsOf xs) fun ps => Q (.lst ((srtP ps).map pD))
  | _ => False
theorem sc_sortedP {K : PySem.W.Frag} : SndC (rSortedPO K) cSortedP := fun F ρ I own σ H vs ds Qs Q R rx h k => by
  unfold cSortedP at h
  split at h
  · obtain ⟨v, rfl, rv⟩ := one_of rx
    obtain ⟨p, ws, rfl, h1, r1⟩ := rv.lst R.sub
    obtain ⟨ps, e, h⟩ := opt_elim h
    rw [pairsOf_some e] at r1
    obtain ⟨ek, hm⟩ := kOf_mem R.sub r1
    refine ⟨p, ws, kOf H, rfl, .of h1, fun x hx => (hm x hx).2, fun ys q hs hb hq => ?_⟩
    have pm : ys.Perm ws := hb.perm
    have em : ys.map (kOf H) = srtP ps := srtP_of (by rw [← ek]; exact pm.map _) (by
      rw [List.pairwise_map]
      refine hs.imp fun {a b} z => ?_
      have z := SrtO.lexB_no.mp z
      unfold lexP
      simp only [Bool.or_eq_true, Bool.and_eq_true, decide_eq_true_eq]
      omega)
    have ry : RepL I ys ((srtP ps).map pD) := by
      rw [← em, List.map_map]
      exact repL_of fun v hv => (hm v (pm.mem_iff.mp hv)).1
    exact k _ I _ _ (R.laid hq) (Sub.refl _) (ResOk.new R hq ry) h
  · exact h.elim
end
end DL

set_option Elab.async false
set_option linter.all false
set_option maxRecDepth 100000
namespace DL
open PySem PySem.Spec L2
open PyProof.Rows hiding St

/-- a def of the text as the top has left it -/
def DefAt (K : PySem.W.Frag) (mg : Str → Option Value) (x : Str) (st : Stmt) (ps : List Str) : Prop := ∃ f fd, Fun K x x st f fd ∧ Binds K fd ps [] ∧ mg x = some (.ref f)
/-- .. and what it promises -/
structure Okd (P : Program) (w : World) (K : PySem.W.Frag) (mg : Str → Option Value) (base : Heap) (k : Nat) (x : Str) (n : Nat) (lf : List Nat) (PS : PSpec) : Prop where
  ex : ∃ f fd ps, FnOk P w K mg base CX0 k f fd ps (spD n lf PS) ∧ Binds K fd ps [] ∧ mg x = some (.ref f) ∧ PySem.W.keepIn K (.ref f) = true
section
variable {P : Program} {w : World} {K : PySem.W.Frag} {mg : Str → Option Value} {base : Heap}
theorem DefAt.ok {x : Str} {st : Stmt} {N ps : List Str} {k n : Nat} {lf : List Nat} {PS' : PSpec} (h : DefAt K mg x st ps) (S : FnScope N ps (defScope st)) (hn : ps.length = n) (hlf : ∀ i ∈ lf, i < n)
    (hbody : ∀ (f : Addr) (cdv : Value) (A : Around) (outer : List Env) (s : Shared) (H : Hp) (E : XK), Room k (A.deeper (envOfC x (defScope st) s.heap.objs.size f cdv)) →
      ∃ u t, DSs (cxOf CX0 P w K mg base N x (defScope st) f cdv A outer s H E).nox lf (defBody st) u t ∧
        ∀ (as : List Slot) (Qd : Slot → List Slot → Prop), as.length = n → PS' as Qd → t { nx := fun ρ => Qd (.fz .none) (exitS n lf as ρ), rt := fun s ρ => Qd s (exitS n lf as ρ) } (as ++ uns (N.length - n))) : Okd P w K mg base (k + 1) x n lf PS' := by
  obtain ⟨f, fd, F, b, g⟩ := h
  exact ⟨f, fd, ps, Fun.okD F S hn hlf fun cdv A outer s H E hr => hbody f cdv A outer s H E hr, b, g, F.kp⟩
theorem exitG_nil {ρ : List Slot} : ∀ {as : List Slot} {j : Nat}, exitG [] ρ j as = as
  | [], _ => rfl
  | a :: as, j => by simp only [exitG]; rw [exitG_nil, if_neg (by simp)]
/-- .. none lent -/
theorem DefAt.okP {x : Str} {st : Stmt} {N ps : List Str} {k n : Nat} {PS' : PSpec} (h : DefAt K mg x st ps) (S : FnScope N ps (defScope st)) (j : Nat) (hn : ps.length = n) (hj : N.length - n = j)
    (hbody : ∀ (f : Addr) (cdv : Value) (A : Around) (outer : List Env) (s : Shared) (H : Hp) (E : XK), Room k (A.deeper (envOfC x (defScope st) s.heap.objs.size f cdv)) →
      ∃ u t, DSs (cxOf CX0 P w K mg base N x (defScope st) f cdv A outer s H E).nox [] (defBody st) u t ∧
        ∀ (as : List Slot) (Qd : Slot → List Slot → Prop), PS' as Qd → t { nx := fun _ => Qd (.fz .none) as, rt := fun s _ => Qd s as } (as ++ uns j)) : Okd P w K mg base (k + 1) x n [] PS' :=
  h.ok S hn (fun _ z => nomatch z) fun f cdv A outer s H E hr => by
    obtain ⟨u, t, h1, h2⟩ := hbody f cdv A outer s H E hr
    refine ⟨u, t, h1, fun as Qd _ hp => ?_⟩
    have e : ∀ ρ, exitS n [] as ρ = as := fun ρ => exitG_nil
    simp only [e]
    rw [hj]
    exact h2 as Qd hp
/-- .. the first one lent -/
theorem DefAt.okL {x : Str} {st : Stmt} {N ps : List Str} {k n : Nat} {PS' : PSpec} (h : DefAt K mg x st ps) (S : FnScope N ps (defScope st)) (j : Nat) (hn : ps.length = n) (h0 : 0 < n) (hj : N.length - n = j)
    (hbody : ∀ (f : Addr) (cdv : Value) (A : Around) (outer : List Env) (s : Shared) (H : Hp) (E : XK), Room k (A.deeper (envOfC x (defScope st) s.heap.objs.size f cdv)) →
      ∃ u t, DSs (cxOf CX0 P w K mg base N x (defScope st) f cdv A outer s H E).nox [0] (defBody st) u t ∧
        ∀ (a : Slot) (as : List Slot) (Qd : Slot → List Slot → Prop), PS' (a :: as) Qd → t { nx := fun ρ => Qd (.fz .none) (DEnv.at ρ 0 :: as), rt := fun s ρ => Qd s (DEnv.at ρ 0 :: as) } (a :: (as ++ uns j))) : Okd P w K mg base (k + 1) x n [0] PS' :=
  h.ok S hn (fun i z => by rw [List.mem_singleton] at z; omega) fun f cdv A outer s H E hr => by
    obtain ⟨u, t, h1, h2⟩ := hbody f cdv A outer s H E hr
    refine ⟨u, t, h1, fun as Qd hl hp => ?_⟩
    cases as with
    | nil => simp at hl; omega
    | cons a as =>
      have en : ∀ (as : List Slot) (j : Nat) (ρ : DEnv), 0 < j → exitG [0] ρ j as = as := by
        intro as
        induction as with
        | nil => intro j ρ _; rfl
        | cons b bs ih =>
          intro j ρ hj
          simp only [exitG]
          rw [ih (j + 1) ρ (by omega), if_neg (by simp; omega)]
      have e : ∀ ρ, exitS n [0] (a :: as) ρ = DEnv.at ρ 0 :: as := fun ρ => by
        show (if ([0] : List Nat).contains 0 = true then DEnv.at ρ 0 else a) :: exitG [0] ρ 1 as = _
        rw [en as 1 ρ (by decide), if_pos (by decide)]
      simp only [e]
      rw [hj]
      exact h2 a as Qd hp
theorem Okd.imp {x : Str} {k n : Nat} {lf : List Nat} {P1 P2 : PSpec} (h : Okd P w K mg base k x n lf P1) (hi : ∀ as Q, P2 as Q → P1 as Q) : Okd P w K mg base k x n lf P2 := by
  obtain ⟨f, fd, ps, F, b, g, kp⟩ := h.ex
  refine ⟨f, fd, ps, F.imp fun vs H Q E h => ?_, b, g, kp⟩
  obtain ⟨hv, as, Fx', own, Qd, h1, h2, h3, h4, h5, h6, h7⟩ := h
  exact ⟨hv, as, Fx', own, Qd, h1, h2, h3, h4, h5, hi as Qd h6, h7⟩
end
section
variable {X : Cx} {L : List Nat} {a e : Expr} {es : List Expr} {pos : Pos} {ua : TA} {ta : DTA}
theorem de_fn {k n : Nat} {lf : List Nat} {P : PSpec} {x : Str} {p : Pos} (lp : List (Nat × Nat)) (G : Okd X.prog X.w X.K X.mg X.base k x n lf P) (hr : Room k X.A) (ha : DA X L (a :: es) ua ta) (hg : Gl X x := by rfl) (hlp : lpOk n lp = true := by rfl) (hlf : lp.map (·.1) = lf := by rfl) (hdb : (x == ("__debug__" : Str)) = false := by decide)
    (he : starEach (a :: es) X.env = (false, eval a X.env) :: starEach es X.env := by rfl) (hpl : (backTo pos (starEach es X.env)).any (·.1) = false := by rfl) :
    DE X L (.Call (.Name x p) (a :: es) [] pos) (tCall (spD n lf P) [] E0 ua) (tCallD n lp P ta) := by
  obtain ⟨f, fd, ps, F, b, g, kp⟩ := G.ex
  exact de_call lp F hr hg g kp b pass0 ha hlp hlf hdb he hpl
end
theorem sr_lt : SndR (rI0 fun i j => .bl (decide (i < j))) dLt := sr_cmp
theorem sr_le : SndR (rI0 fun i j => .bl (decide (i ≤ j))) dLe := sr_cmp
theorem sr_gt : SndR (rI0 fun i j => .bl (decide (j < i))) dGt := sr_cmp
theorem sr_ge : SndR (rI0 fun i j => .bl (decide (j ≤ i))) dGe := sr_cmp
/-- sorted, of ints or of pairs of ints -/
def rSortU (K : PySem.W.Frag) : List V → Hp → VK → Prop := fun vs H Q => rSortedI K vs H Q ∨ rSortedPO K vs H Q
theorem cr_sortU {X : Cx} : CallR X (.builtin "sorted") (rSortU X.K) := CallR.or cr_sortedI cr_sortedPO
def cSortU : RC := fun ds Q => match ds with
  | [.list xs] => match intsOf xs with
    | some ns => Q (.lst ((srt ns).map PyData.int))
    | none => opt (pairsOf xs) fun ps => Q (.lst ((srtP ps).map pD))
  | _ => False
theorem sc_sortU {K : PySem.W.Frag} : SndC (rSortU K) cSortU := fun F ρ I own σ H vs ds Qs Q R rx h k => by
  unfold cSortU at h
  split at h
  · rename_i xs
    split at h
    · rename_i ns e
      exact .inl (sc_sorted F ρ I own σ H vs _ Qs Q R rx (by show opt (intsOf xs) _; rw [e]; exact h) k)
    · exact .inr (sc_sortedP F ρ I own σ H vs _ Qs Q R rx h k)
  · exact h.elim
/-- list(range(a, b)) -/
def dLstRg (t : DEnv → (Int → Int → DEnv → Prop) → Prop) : DTE := fun ρ Q => t ρ fun a b ρ1 => (0 ≤ a ∧ a ≤ 16777216 ∧ 0 ≤ b ∧ b ≤ 16777216) ∧ Q (.lst (rangeD a (b - a).toNat)) ρ1
structure DR (X : Cx) (L : List Nat) (e : Expr) (u : L2.St → Hp → (Int → Int → Hp → Prop) → Prop) (t : DEnv → (Int → Int → DEnv → Prop) → Prop) : Prop where
  pr : PRg X e u
  snd : ∀ F ρ I own σ H Qd Q, FOk F L → Rel F ρ I own σ H → t ρ Qd → (∀ a b ρ1 I1 own1 H1, Rel F ρ1 I1 own1 σ H1 → Sub I I1 → Qd a b ρ1 → Q a b H1) → u σ H Q
section
variable {X : Cx} {L : List Nat} {a b e : Expr} {ua ub : TE} {ta tb : DTB} {pos p : Pos}
def dRg1 (t : DTB) : DEnv → (Int → Int → DEnv → Prop) → Prop := fun ρ Q => t ρ fun v ρ1 => opt (v.get ρ1) fun x => match x with
  | .int n => Q 0 n ρ1
  | _ => False
def dRg2 (t t2 : DTB) : DEnv → (Int → Int → DEnv → Prop) → Prop := fun ρ Q => t ρ fun v ρ1 => t2 ρ1 fun w ρ2 => opt (v.get ρ2) fun x => opt (w.get ρ2) fun y => match x, y with
  | .int n, .int m => Q n m ρ2
  | _, _ => False
theorem dr_1 (hg : Gl X "range") (hm : X.mg "range" = none) (ha : DB X L a ua ta) (na : starEach [a] X.env = (false, eval a X.env) :: starEach [] X.env := by rfl) : DR X L (.Call (.Name "range" p) [a] [] pos) (tRg1 ua) (dRg1 ta) :=
  ⟨prg_1 hg hm ha.pe na, fun F ρ I own σ H Qd Q fo R h k => ha.snd F ρ I own σ H _ _ fo R h fun v ρ1 I1 own1 H1 u R1 s1 r1 q => by
    obtain ⟨x, ex, q⟩ := opt_elim q
    have rx := r1.rep R1 ex
    split at q
    · exact ⟨_, rx.int, k _ _ ρ1 I1 own1 H1 R1 s1 q⟩
    · exact q.elim⟩
theorem dr_2 (hg : Gl X "range") (hm : X.mg "range" = none) (ha : DB X L a ua ta) (hb : DB X L b ub tb) (na : starEach [a, b] X.env = (false, eval a X.env) :: starEach [b] X.env := by rfl) (nb : starEach [b] X.env = (false, eval b X.env) :: starEach [] X.env := by rfl) (hpl : (backTo pos (starEach [b] X.env)).any (·.1) = false := by rfl) : DR X L (.Call (.Name "range" p) [a, b] [] pos) (tRg2 ua ub) (dRg2 ta tb) :=
  ⟨prg_2 hg hm ha.pe hb.pe na nb hpl, fun F ρ I own σ H Qd Q fo R h k => ha.snd F ρ I own σ H _ _ fo R h fun v ρ1 I1 own1 H1 u R1 s1 r1 q => hb.snd F ρ1 I1 own1 σ H1 _ _ fo R1 q fun v2 ρ2 I2 own2 H2 u2 R2 s2 r2 q => by
    obtain ⟨x, ex, q⟩ := opt_elim q
    obtain ⟨y, ey, q⟩ := opt_elim q
    have rx := (r1.mono s2).rep R2 ex
    have ry := r2.rep R2 ey
    split at q
    · exact ⟨_, _, rx.int, ry.int, k _ _ ρ2 I2 own2 H2 R2 (s1.trans s2) q⟩
    · exact q.elim⟩
theorem repL_rg {I : Hp} (a b : Int) : RepL I (rgV a b) (rangeD a (b - a).toNat) := by
  unfold rgV rangeD
  rw [show (List.range (b - a).toNat).map (fun i => V.int (a + (i : Nat))) = ((List.range (b - a).toNat).map fun i => a + (i : Nat)).map V.int from by rw [List.map_map]; rfl,
    show (List.range (b - a).toNat).map (fun i => PyData.int (a + (i : Nat))) = ((List.range (b - a).toNat).map fun i => a + (i : Nat)).map PyData.int from by rw [List.map_map]; rfl]
  exact .ofInts _
theorem de_listRg {u : L2.St → Hp → (Int → Int → Hp → Prop) → Prop} {t : DEnv → (Int → Int → DEnv → Prop) → Prop} (hc : X.calm = true) (hg : Gl X "list") (hm : X.mg "list" = none) (he : DR X L e u t) (na : starEach [e] X.env = (false, eval e X.env) :: starEach [] X.env := by rfl) : DE X L (.Call (.Name "list" p) [e] [] pos) (tLstRg u) (dLstRg t) :=
  ⟨pe_listRg hc hg hm he.pr na, fun F ρ I own σ H Qd Q fo R h k => he.snd F ρ I own σ H _ _ fo R h fun a b ρ1 I1 own1 H1 R1 s1 q =>
    ⟨RgOk.of_le q.1.1 q.1.2.2.2 q.1.2.1 q.1.2.2.1, fun r hr => k _ ρ1 I1 own1 _ _ (R1.laid hr) s1 (ResOk.new R1 hr (repL_rg a b)) q.2⟩⟩
end
end DL

set_option Elab.async false
set_option linter.all false
set_option maxRecDepth 100000
namespace DL
open PySem PySem.Spec L2
open PyProof.Rows hiding St

def slotK (ρ : DEnv) (i : Nat) (k : Slot → Prop) : Prop := k (ρ.at i)
def setK (ρ : DEnv) (i : Nat) (s : Slot) (k : DEnv → Prop) : Prop := k (ρ.set i s)
def frzK (s : Slot) (k : D → Prop) : Prop := match s with
  | .fz d => k d
  | .lst ds => k (.list ds)
  | _ => False
def blK (s : Slot) (k : Bool → Prop) : Prop := match s with
  | .fz (.bool b) => k b
  | _ => False
def getK (ρ : DEnv) (b : BV) (k : D → Prop) : Prop := match b with
  | .d x => k x
  | .v i => slotK ρ i fun s => frzK s k
def getsK (ρ : DEnv) : List BV → (List D → Prop) → Prop
  | [], k => k []
  | b :: bs, k => getK ρ b fun x => getsK ρ bs fun xs => k (x :: xs)
def allK : List BV → (List D → Prop) → Prop
  | [], k => k []
  | .d x :: bs, k => allK bs fun xs => k (x :: xs)
  | .v _ :: _, _ => False
def argK : List BV → (List Slot → Prop) → Prop
  | [], k => k []
  | .d x :: bs, k => argK bs fun xs => k (.fz x :: xs)
  | .v _ :: _, _ => False
section
variable {ρ : DEnv} {i n : Nat} {s a : Slot} {k : Slot → Prop} {kd : DEnv → Prop} {kD : D → Prop} {kb : Bool → Prop} {kl : List D → Prop} {ks : List Slot → Prop} {d x : D} {ds : List D} {b : BV} {bs : List BV}
theorem slotK_0 : slotK (s :: ρ) 0 k = k s := rfl
theorem slotK_s : slotK (s :: ρ) (n + 1) k = slotK ρ n k := rfl
theorem setK_0 : setK (a :: ρ) 0 s kd = kd (s :: ρ) := rfl
theorem setK_s : setK (a :: ρ) (n + 1) s kd = setK ρ n s fun ρ' => kd (a :: ρ') := rfl
theorem frzK_f : frzK (.fz d) kD = kD d := rfl
theorem frzK_l : frzK (.lst ds) kD = kD (.list ds) := rfl
theorem blK_b {b : Bool} : blK (.fz (.bool b)) kb = kb b := rfl
theorem getK_d : getK ρ (.d x) kD = kD x := rfl
theorem getK_v : getK ρ (.v i) kD = slotK ρ i fun s => frzK s kD := rfl
theorem getsK_0 : getsK ρ [] kl = kl [] := rfl
theorem getsK_s : getsK ρ (b :: bs) kl = getK ρ b fun x => getsK ρ bs fun xs => kl (x :: xs) := rfl
theorem allK_0 : allK [] kl = kl [] := rfl
theorem allK_s : allK (.d x :: bs) kl = allK bs fun xs => kl (x :: xs) := rfl
theorem argK_0 : argK [] ks = ks [] := rfl
theorem argK_s : argK (.d x :: bs) ks = argK bs fun xs => ks (.fz x :: xs) := rfl
theorem opt_frz : opt (frzS s) kD = frzK s kD := by cases s <;> rfl
theorem opt_bl : opt (blS s) kb = blK s kb := by
  cases s with
  | fz d => cases d <;> rfl
  | _ => rfl
theorem opt_get : opt (b.get ρ) kD = getK ρ b kD := by
  cases b with
  | d x => rfl
  | v i =>
    show opt (match ρ.at i with
      | .fz x => some x
      | .lst ds => some (.list ds)
      | _ => none) kD = frzK (ρ.at i) kD
    cases ρ.at i <;> rfl
theorem opt_gets : ∀ {bs : List BV} {kl : List D → Prop}, opt (getD' ρ bs) kl = getsK ρ bs kl
  | [], _ => rfl
  | b :: bs, kl => by
    simp only [getsK, getD']
    rw [← opt_get]
    cases h : b.get ρ with
    | none => rfl
    | some x =>
      show _ = getsK ρ bs fun xs => kl (x :: xs)
      rw [← opt_gets]
      cases getD' ρ bs <;> rfl
theorem opt_all : ∀ {bs : List BV} {kl : List D → Prop}, opt (allD bs) kl = allK bs kl
  | [], _ => rfl
  | .v _ :: _, _ => rfl
  | .d x :: bs, kl => by
    simp only [allD, allK]
    rw [← opt_all]
    cases allD bs <;> rfl
theorem opt_arg : ∀ {bs : List BV} {j : Nat} {ks : List Slot → Prop}, opt (argS ρ [] j bs) ks = argK bs ks
  | [], _, _ => rfl
  | .v _ :: _, j, _ => by simp only [argS, fwd, List.find?_nil, Option.map_none]; rfl
  | .d x :: bs, j, ks => by
    simp only [argS, fwd, List.find?_nil, Option.map_none, argK]
    rw [← opt_arg (j := j + 1)]
    cases argS ρ [] (j + 1) bs <;> rfl
theorem opt_arg1 {i : Nat} : ∀ {bs : List BV} {j : Nat} {ks : List Slot → Prop}, 0 < j → opt (argS ρ [(0, i)] j bs) ks = argK bs ks
  | [], _, _, _ => rfl
  | .v _ :: _, j + 1, _, _ => by
    have : fwd [(0, i)] (j + 1) = none := rfl
    simp only [argS, this]; rfl
  | .d x :: bs, j + 1, ks, _ => by
    have : fwd [(0, i)] (j + 1) = none := rfl
    simp only [argS, this, argK]
    rw [← opt_arg1 (j := j + 1 + 1) (by omega)]
    cases argS ρ [(0, i)] (j + 1 + 1) bs <;> rfl
end

section
variable {ρ : DEnv} {i j n : Nat} {Q : DK} {Qb : BV → DEnv → Prop} {Qt : Bool → DEnv → Prop} {Qa : List BV → DEnv → Prop} {Qs : Slot → Prop} {d : D} {t t1 t2 t3 : DTE} {ta tb tc : DTB} {tt tu : DTT} {ts tr : DTA} {rd rd' : RD} {rc : RC} {P : PSpec} {Z : DEnds} {u v : DTS} {g : DTG} {gs : DTGs} {Qd : DEnv → Prop}
theorem e_K : tK d ρ Q = Q (.fz d) ρ := rfl
theorem e_name : tName i ρ Q = slotK ρ i fun s => match s with
  | .fz d => Q (.fz d) ρ
  | .lst ds => setK ρ i (.fz (.list ds)) fun ρ' => Q (.fz (.list ds)) ρ'
  | _ => False := rfl
theorem e_move : tMove i ρ Q = slotK ρ i fun s => match s with
  | .fz d => Q (.fz d) ρ
  | .un => False
  | s => setK ρ i .un fun ρ' => Q s ρ' := rfl
theorem e_nmB : tNmB i ρ Qb = slotK ρ i fun s => match s with
  | .un => False
  | _ => Qb (.v i) ρ := rfl
theorem e_of : tOf t ρ Qb = t ρ fun s ρ' => frzK s fun d => Qb (.d d) ρ' := by unfold tOf; simp only [opt_frz]
theorem e_bin : tBin rd ta tb ρ Q = ta ρ fun a ρ1 => tb ρ1 fun b ρ2 => getK ρ2 a fun x => getK ρ2 b fun y => rd x y fun s => Q s ρ2 := by unfold tBin; simp only [opt_get]
theorem e_bl : tBl t ρ Qt = t ρ fun s ρ' => blK s fun b => Qt b ρ' := by unfold tBl; simp only [opt_bl]
theorem e_chn : tChn rd rd' ta tb tc ρ Q = ta ρ fun a ρ1 => tb ρ1 fun b ρ2 => getK ρ2 a fun x => getK ρ2 b fun y => rd x y fun s => blK s fun k =>
  if k = true then tc ρ2 fun c ρ3 => getK ρ3 b fun y => getK ρ3 c fun z => rd' y z fun s' => Q s' ρ3 else Q (.fz (.bool false)) ρ2 := by unfold tChn; simp only [opt_get, opt_bl]
theorem e_and : dAnd tt tu ρ Qt = tt ρ fun c ρ1 => if c = true then tu ρ1 Qt else Qt false ρ1 := rfl
theorem e_or : dOr tt tu ρ Qt = tt ρ fun c ρ1 => if c = true then Qt true ρ1 else tu ρ1 Qt := rfl
theorem e_not : dNot tt ρ Qt = tt ρ fun c ρ1 => Qt (!c) ρ1 := rfl
theorem e_andV : dAndV t t2 ρ Q = t ρ fun s ρ1 => blK s fun c => if c = true then t2 ρ1 Q else Q (.fz (.bool false)) ρ1 := by unfold dAndV; simp only [opt_bl]
theorem e_orV : dOrV t t2 ρ Q = t ρ fun s ρ1 => blK s fun c => if c = true then Q (.fz (.bool true)) ρ1 else t2 ρ1 Q := by unfold dOrV; simp only [opt_bl]
theorem e_notV : dNotV t ρ Q = t ρ fun s ρ1 => blK s fun c => Q (.fz (.bool (!c))) ρ1 := by unfold dNotV; simp only [opt_bl]
theorem e_if : dIf tt t1 t2 ρ Q = tt ρ fun c ρ1 => if c = true then t1 ρ1 Q else t2 ρ1 Q := rfl
theorem e_nil : dNil ρ Qa = Qa [] ρ := rfl
theorem e_cons : dCons ta ts ρ Qa = ta ρ fun b ρ1 => ts ρ1 fun bs ρ2 => Qa (b :: bs) ρ2 := rfl
theorem e_tup : dTup ts ρ Q = ts ρ fun bs ρ1 => allK bs fun ds => ds.length ≤ sizeLine ∧ Q (.fz (.tuple ds)) ρ1 := by unfold dTup; simp only [opt_all]
theorem e_lst : dLst ts ρ Q = ts ρ fun bs ρ1 => allK bs fun ds => ds.length ≤ sizeLine ∧ Q (.lst ds) ρ1 := by unfold dLst; simp only [opt_all]
theorem e_cb : dCall rc ts ρ Q = ts ρ fun bs ρ1 => getsK ρ1 bs fun ds => rc ds fun s => Q s ρ1 := by unfold dCall; simp only [opt_gets]
theorem e_isi {f : PyData → Bool} : dIsi f ta ρ Q = ta ρ fun b ρ1 => getK ρ1 b fun x => Q (.fz (.bool (f x))) ρ1 := by unfold dIsi; simp only [opt_get]
def negK (x : D) (k : Int → Prop) : Prop := match x with
  | .int i => k i
  | _ => False
theorem negK_i {i : Int} {k : Int → Prop} : negK (.int i) k = k i := rfl
theorem e_neg : dNeg ta ρ Q = ta ρ fun b ρ1 => getK ρ1 b fun x => negK x fun i => Q (.fz (.int (-i))) ρ1 := by
  unfold dNeg
  simp only [opt_get]
  refine congrArg (ta ρ) (funext fun b => funext fun ρ1 => congrArg (getK ρ1 b) (funext fun x => ?_))
  cases x <;> rfl
theorem e_fn0 : tCallD n [] P ts ρ Q = ts ρ fun bs ρ1 => argK bs fun as => as.length = n ∧ P as fun s _ => Q s ρ1 := by
  unfold tCallD
  simp only [opt_arg]
  rfl
def callK (n i : Nat) (P : PSpec) (bs : List BV) (ρ : DEnv) (Q : DK) : Prop := opt (argS ρ [(0, i)] 0 bs) fun as => as.length = n ∧ P as fun s as' => Q s (backS [(0, i)] as' ρ)
theorem e_fn1 : tCallD n [(0, i)] P ts ρ Q = ts ρ fun bs ρ1 => callK n i P bs ρ1 Q := rfl
theorem callK_v {bs : List BV} : callK n i P (.v i :: bs) ρ Q = slotK ρ i fun s0 => argK bs fun as => as.length + 1 = n ∧ P (s0 :: as) fun s as' => setK ρ i (as'.getD 0 .un) fun ρ2 => Q s ρ2 := by
  unfold callK slotK
  have f0 : fwd [(0, i)] 0 = some i := rfl
  simp only [argS, f0, if_true]
  rw [← opt_arg1 (ρ := ρ) (i := i) (j := 1) (by decide)]
  cases argS ρ [(0, i)] (0 + 1) bs <;> rfl
theorem getD_0 {s : Slot} {as : List Slot} : (s :: as).getD 0 Slot.un = s := rfl
def partK (x : D) (k : Int → Prop) : Prop := negK x k
theorem e_noPart {Qo : Option Int → DEnv → Prop} : dNoPart ρ Qo = Qo none ρ := rfl
theorem e_part {Qo : Option Int → DEnv → Prop} : dPart ta ρ Qo = ta ρ fun b ρ1 => getK ρ1 b fun x => negK x fun i => Qo (some i) ρ1 := by
  unfold dPart
  simp only [opt_get]
  refine congrArg (ta ρ) (funext fun b => funext fun ρ1 => congrArg (getK ρ1 b) (funext fun x => ?_))
  cases x <;> rfl
def slK (x : D) (l h : Option Int) (k : Slot → Prop) : Prop := match x with
  | .list ds => k (.lst (cutD ds l h))
  | .tuple ds => k (.fz (.tuple (cutD ds l h)))
  | .str z => z.length ≤ sizeLine ∧ k (.fz (.str (cutS z l h)))
  | _ => False
theorem e_sl {tl th : DEnv → (Option Int → DEnv → Prop) → Prop} : dSl ta tl th ρ Q = ta ρ fun b ρ1 => tl ρ1 fun l ρ2 => th ρ2 fun h ρ3 => getK ρ3 b fun x => slK x l h fun s => Q s ρ3 := by
  unfold dSl
  simp only [opt_get]
  refine congrArg (ta ρ) (funext fun b => funext fun ρ1 => congrArg (tl ρ1) (funext fun l => funext fun ρ2 => congrArg (th ρ2) (funext fun h => funext fun ρ3 => congrArg (getK ρ3 b) (funext fun x => ?_))))
  cases x <;> rfl
def revK (x : D) (k : Slot → Prop) : Prop := match x with
  | .list ds => k (.lst ds.reverse)
  | _ => False
theorem e_rev : dRev ta ρ Q = ta ρ fun b ρ1 => getK ρ1 b fun x => revK x fun s => Q s ρ1 := by
  unfold dRev
  simp only [opt_get]
  refine congrArg (ta ρ) (funext fun b => funext fun ρ1 => congrArg (getK ρ1 b) (funext fun x => ?_))
  cases x <;> rfl
theorem slK_l {ds : List D} {l h : Option Int} {k : Slot → Prop} : slK (.list ds) l h k = k (.lst (cutD ds l h)) := rfl
theorem slK_t {ds : List D} {l h : Option Int} {k : Slot → Prop} : slK (.tuple ds) l h k = k (.fz (.tuple (cutD ds l h))) := rfl
theorem revK_l {ds : List D} {k : Slot → Prop} : revK (.list ds) k = k (.lst ds.reverse) := rfl

variable {x y m : Int} {a b : Bool} {xs ys : List D} {s s2 : Str}
theorem e_add : dAdd (.int x) (.int y) Qs = Qs (.fz (.int (x + y))) := rfl
theorem e_addL : dAdd (.list xs) (.list ys) Qs = (xs.length + ys.length ≤ sizeLine ∧ Qs (.lst (xs ++ ys))) := rfl
theorem e_addT : dAdd (.tuple xs) (.tuple ys) Qs = (xs.length + ys.length ≤ sizeLine ∧ Qs (.fz (.tuple (xs ++ ys)))) := rfl
theorem e_addS : dAdd (.str s) (.str s2) Qs = (s.length + s2.length ≤ sizeLine ∧ Qs (.fz (.str (s ++ s2)))) := rfl
theorem e_sub : dSub (.int x) (.int y) Qs = Qs (.fz (.int (x - y))) := rfl
/-- fit to be multiplied -/
def mulOk (x y : Int) : Prop := (-(2 ^ 64) < x ∧ x < 2 ^ 64) ∨ (-(2 ^ 64) < y ∧ y < 2 ^ 64)
theorem e_mul : dMul (.int x) (.int y) Qs = (mulOk x y ∧ Qs (.fz (.int (x * y)))) := rfl
def repOk (n : Nat) (y : Int) : Prop := -(2 ^ 63) ≤ y ∧ y < 2 ^ 63 ∧ n * y.toNat ≤ sizeLine
theorem e_mulL : dMul (.list xs) (.int y) Qs = (repOk xs.length y ∧ Qs (.lst (List.replicate y.toNat xs).flatten)) := rfl
def divOk (y : Int) : Prop := 0 < y ∧ y < 2 ^ 100
theorem e_div : dDiv (.int x) (.int y) Qs = (divOk y ∧ Qs (.fz (.int (x / y)))) := rfl
theorem e_mod : dMod (.int x) (.int y) Qs = (0 < y ∧ Qs (.fz (.int (x % y)))) := rfl
def powOk (x y : Int) : Prop := 0 ≤ y ∧ y ≤ 1000 ∧ x.natAbs < 2 ^ 64
theorem e_pow : dPow (.int x) (.int y) Qs = (powOk x y ∧ Qs (.fz (.int (x ^ y.toNat)))) := rfl
theorem e_shl : dShl (.int x) (.int y) Qs = (powOk x y ∧ Qs (.fz (.int (x * 2 ^ y.toNat)))) := rfl
theorem e_lt : dLt (.int x) (.int y) Qs = Qs (.fz (.bool (decide (x < y)))) := rfl
theorem e_le : dLe (.int x) (.int y) Qs = Qs (.fz (.bool (decide (x ≤ y)))) := rfl
theorem e_gt : dGt (.int x) (.int y) Qs = Qs (.fz (.bool (decide (y < x)))) := rfl
theorem e_ge : dGe (.int x) (.int y) Qs = Qs (.fz (.bool (decide (y ≤ x)))) := rfl
theorem e_eq : dEq (.int x) (.int y) Qs = Qs (.fz (.bool (decide (x = y)))) := rfl
theorem e_ne : dNe (.int x) (.int y) Qs = Qs (.fz (.bool (!decide (x = y)))) := rfl
theorem e_eqS : dEq (.str s) (.str s2) Qs = Qs (.fz (.bool (decide (s = s2)))) := rfl
theorem e_neS : dNe (.str s) (.str s2) Qs = Qs (.fz (.bool (!decide (s = s2)))) := rfl
theorem e_eqB : dEq (.bool a) (.bool b) Qs = Qs (.fz (.bool (decide (a = b)))) := rfl
theorem e_neB : dNe (.bool a) (.bool b) Qs = Qs (.fz (.bool (!decide (a = b)))) := rfl
/-- other data -/
def eqK (x y : D) (k : Bool → Prop) : Prop := (gd 60 x = true ∧ gd 60 y = true) ∧ k (PyData.eqv x y)
theorem e_eqL {y : D} : dEq (.list xs) y Qs = eqK (.list xs) y fun b => Qs (.fz (.bool b)) := by cases y <;> rfl
theorem e_neL {y : D} : dNe (.list xs) y Qs = eqK (.list xs) y fun b => Qs (.fz (.bool (!b))) := by cases y <;> rfl
theorem e_eqT {y : D} : dEq (.tuple xs) y Qs = eqK (.tuple xs) y fun b => Qs (.fz (.bool b)) := by cases y <;> rfl
theorem e_neT {y : D} : dNe (.tuple xs) y Qs = eqK (.tuple xs) y fun b => Qs (.fz (.bool (!b))) := by cases y <;> rfl
theorem e_eqN {y : D} : dEq .none y Qs = eqK .none y fun b => Qs (.fz (.bool b)) := by cases y <;> rfl
theorem e_eqIN : dEq (.int x) .none Qs = eqK (.int x) .none fun b => Qs (.fz (.bool b)) := rfl
theorem e_is {d : D} : dIs d .none Qs = Qs (.fz (.bool (isN d))) := by cases d <;> rfl
theorem e_isB : dIs (.bool a) (.bool b) Qs = Qs (.fz (.bool (decide (a = b)))) := rfl
theorem e_isnot {d : D} : dIsNot d .none Qs = Qs (.fz (.bool (!isN d))) := by cases d <;> rfl
theorem e_isnotB : dIsNot (.bool a) (.bool b) Qs = Qs (.fz (.bool (!decide (a = b)))) := rfl
def inK (x : D) (ds : List D) (k : Bool → Prop) : Prop := (flatD x = true ∧ ds.all flatD = true) ∧ k (inD x ds)
theorem e_in {d : D} : dIn d (.list xs) Qs = inK d xs fun b => Qs (.fz (.bool b)) := rfl
theorem e_inT {d : D} : dIn d (.tuple xs) Qs = inK d xs fun b => Qs (.fz (.bool b)) := rfl
theorem e_notin {d : D} : dNotIn d (.list xs) Qs = inK d xs fun b => Qs (.fz (.bool (!b))) := rfl
def atK (ds : List D) (i : Int) (k : D → Prop) : Prop := opt (atI ds i) k
theorem e_ix : dIx (.list xs) (.int x) Qs = atK xs x fun d => Qs (.fz d) := rfl
theorem e_ixT : dIx (.tuple xs) (.int x) Qs = atK xs x fun d => Qs (.fz d) := rfl
theorem e_len : cLen [.list xs] Qs = Qs (.fz (.int xs.length)) := rfl
theorem e_lenT : cLen [.tuple xs] Qs = Qs (.fz (.int xs.length)) := rfl
theorem e_lenS : cLen [.str s] Qs = (s.length ≤ sizeLine ∧ Qs (.fz (.int s.length))) := rfl
def intsK (xs : List D) (k : List Int → Prop) : Prop := opt (intsOf xs) k
theorem intsK_m {ns : List Int} {k : List Int → Prop} : intsK (ns.map PyData.int) k = k ns := by unfold intsK; rw [intsOf_map]; rfl
theorem intsK_0 {k : List Int → Prop} : intsK [] k = k [] := rfl
theorem intsK_s {k : List Int → Prop} : intsK (.int x :: xs) k = intsK xs fun ns => k (x :: ns) := by
  unfold intsK
  simp only [intsOf]
  cases intsOf xs <;> rfl
theorem e_sum : cSum [.list xs] Qs = intsK xs fun ns => Qs (.fz (.int ns.sum)) := rfl
theorem e_max : cMax [.list xs] Qs = intsK xs fun ns => 0 < ns.length ∧ ∀ m, m ∈ ns → (∀ y ∈ ns, y ≤ m) → Qs (.fz (.int m)) := rfl
theorem e_min : cMin [.list xs] Qs = intsK xs fun ns => 0 < ns.length ∧ ∀ m, m ∈ ns → (∀ y ∈ ns, m ≤ y) → Qs (.fz (.int m)) := rfl
theorem e_max2 : cMax [.int x, .int y] Qs = Qs (.fz (.int (if y > x then y else x))) := rfl
theorem e_min2 : cMin [.int x, .int y] Qs = Qs (.fz (.int (if y < x then y else x))) := rfl
theorem e_abs : cAbs [.int x] Qs = Qs (.fz (.int (if x < 0 then -x else x))) := rfl
theorem e_int : cInt [.int x] Qs = Qs (.fz (.int x)) := rfl
theorem e_intB : cInt [.bool a] Qs = Qs (.fz (.int (if a then 1 else 0))) := rfl
theorem e_list : cList [.list xs] Qs = Qs (.lst xs) := rfl
theorem e_listT : cList [.tuple xs] Qs = Qs (.lst xs) := rfl
theorem e_tuple : cTuple [.list xs] Qs = Qs (.fz (.tuple xs)) := rfl
def boolsK (xs : List D) (k : List Bool → Prop) : Prop := opt (boolsOf xs) k
theorem boolsK_m {ns : List Bool} {k : List Bool → Prop} : boolsK (ns.map PyData.bool) k = k ns := by unfold boolsK; rw [boolsOf_map]; rfl
theorem e_all : cAll [.list xs] Qs = boolsK xs fun ns => Qs (.fz (.bool (ns.all id))) := rfl
theorem e_any : cAny [.list xs] Qs = boolsK xs fun ns => Qs (.fz (.bool (ns.any id))) := rfl
def sortK (xs : List D) (k : List D → Prop) : Prop := match intsOf xs with
  | some ns => k ((srt ns).map PyData.int)
  | none => opt (pairsOf xs) fun ps => k ((srtP ps).map pD)
theorem e_sorted : cSortU [.list xs] Qs = sortK xs fun ys => Qs (.lst ys) := by
  unfold cSortU sortK
  dsimp only
  all_goals (cases intsOf xs <;> rfl)
theorem sortK_m {ns : List Int} {k : List D → Prop} : sortK (ns.map PyData.int) k = k ((srt ns).map PyData.int) := by unfold sortK; rw [intsOf_map]
theorem sortK_p {ps : List (Int × Int)} {k : List D → Prop} : sortK (ps.map pD) k = k ((srtP ps).map pD) := by
  unfold sortK
  cases ps with
  | nil => simp [intsOf, srt, srtP]
  | cons p ps =>
    have : intsOf ((p :: ps).map pD) = none := rfl
    rw [this]
    show opt (pairsOf ((p :: ps).map pD)) _ = _
    rw [pairsOf_map]; rfl
theorem isN_i : isN (.int x) = false := rfl
theorem isN_n : isN .none = true := rfl
theorem isN_l : isN (.list xs) = false := rfl
theorem isN_t : isN (.tuple xs) = false := rfl

theorem e_next : dNext Z ρ = Z.nx ρ := rfl
theorem e_seq : dSeq u v Z ρ = u { nx := v Z, rt := Z.rt, bk := Z.bk, ct := Z.ct } ρ := rfl
theorem e_break : dBreak Z ρ = Z.bk ρ := rfl
theorem e_cont : dCont Z ρ = Z.ct ρ := rfl
theorem e_drop : dDrop t Z ρ = t ρ fun _ ρ1 => Z.nx ρ1 := rfl
theorem e_ret : dRet t Z ρ = t ρ Z.rt := rfl
theorem e_retN : dRetN Z ρ = Z.rt (.fz .none) ρ := rfl
theorem e_ifS : dIfS tt u v Z ρ = tt ρ fun b ρ1 => if b = true then u Z ρ1 else v Z ρ1 := rfl
theorem e_set : dSet i t Z ρ = t ρ fun s ρ1 => setK ρ1 i s Z.nx := rfl
theorem e_asg : dAsg t g Z ρ = t ρ fun s ρ1 => frzK s fun d => g d ρ1 Z.nx := by unfold dAsg; simp only [opt_frz]
theorem e_gnm : gNm i d ρ Qd = setK ρ i (.fz d) Qd := rfl
def tpK (n : Nat) (d : D) (k : List D → Prop) : Prop := match d with
  | .tuple ds => ds.length = n ∧ k ds
  | _ => False
theorem e_gtp : gTp n gs d ρ Qd = tpK n d fun ds => gs ds ρ Qd := by cases d <;> rfl
theorem tpK_t {k : List D → Prop} : tpK n (.tuple xs) k = (xs.length = n ∧ k xs) := rfl
theorem e_gs0 : gsNil [] ρ Qd = Qd ρ := rfl
theorem e_gss : gsCons g gs (d :: xs) ρ Qd = g d ρ fun ρ1 => gs xs ρ1 Qd := rfl
def lstK (s : Slot) (k : List D → Prop) : Prop := match s with
  | .lst ds => k ds
  | _ => False
theorem lstK_l {k : List D → Prop} : lstK (.lst xs) k = k xs := rfl
theorem e_lstAt {k : List D → Prop} : lstAt ρ i k = slotK ρ i fun s => lstK s k := by unfold lstAt slotK lstK; rfl
theorem e_append : dAppend i t ρ Q = slotK ρ i fun s0 => lstK s0 fun _ => t ρ fun s ρ1 => frzK s fun d => slotK ρ1 i fun s1 => lstK s1 fun ds => ds.length < sizeLine ∧ setK ρ1 i (.lst (ds ++ [d])) fun ρ2 => Q (.fz .none) ρ2 := by
  unfold dAppend; simp only [opt_frz, e_lstAt]; rfl
def extK (x : D) (k : List D → Prop) : Prop := match x with
  | .list es => k es
  | _ => False
theorem extK_l {k : List D → Prop} : extK (.list xs) k = k xs := rfl
theorem e_extend : dExtend i ta ρ Q = slotK ρ i fun s0 => lstK s0 fun _ => ta ρ fun b ρ1 => getK ρ1 b fun y => extK y fun es => slotK ρ1 i fun s1 => lstK s1 fun ds => ds.length + es.length ≤ sizeLine ∧ setK ρ1 i (.lst (ds ++ es)) fun ρ2 => Q (.fz .none) ρ2 := by
  unfold dExtend
  simp only [opt_get, e_lstAt]
  refine congrArg (slotK ρ i) (funext fun s0 => congrArg (lstK s0) (funext fun _ => congrArg (ta ρ) (funext fun b => funext fun ρ1 => congrArg (getK ρ1 b) (funext fun y => ?_))))
  cases y <;> rfl
theorem e_popAt : dPopAt i ta ρ Q = slotK ρ i fun s0 => lstK s0 fun _ => ta ρ fun b ρ1 => getK ρ1 b fun y => negK y fun n => slotK ρ1 i fun s1 => lstK s1 fun ds => 0 ≤ n ∧ n < 1000000 ∧ opt ds[n.toNat]? fun d => setK ρ1 i (.lst (ds.eraseIdx n.toNat)) fun ρ2 => Q (.fz d) ρ2 := by
  unfold dPopAt
  simp only [opt_get, e_lstAt]
  refine congrArg (slotK ρ i) (funext fun s0 => congrArg (lstK s0) (funext fun _ => congrArg (ta ρ) (funext fun b => funext fun ρ1 => congrArg (getK ρ1 b) (funext fun y => ?_))))
  cases y <;> rfl
theorem e_reverse : dReverse i ρ Q = slotK ρ i fun s => lstK s fun ds => setK ρ i (.lst ds.reverse) fun ρ2 => Q (.fz .none) ρ2 := by unfold dReverse; simp only [e_lstAt]; rfl
def ixK (n : Nat) (i : Int) (k : Nat → Prop) : Prop := opt (ixN n i) k
theorem e_setI : dSetI i tb t Z ρ = t ρ fun s ρ1 => frzK s fun d => slotK ρ1 i fun s0 => lstK s0 fun _ => tb ρ1 fun b ρ2 => getK ρ2 b fun y => negK y fun n => slotK ρ2 i fun s1 => lstK s1 fun ds => ixK ds.length n fun j => setK ρ2 i (.lst (ds.set j d)) Z.nx := by
  unfold dSetI
  simp only [opt_get, opt_frz, e_lstAt]
  refine congrArg (t ρ) (funext fun s => funext fun ρ1 => congrArg (frzK s) (funext fun d => congrArg (slotK ρ1 i) (funext fun s0 => congrArg (lstK s0) (funext fun _ => congrArg (tb ρ1) (funext fun b => funext fun ρ2 => congrArg (getK ρ2 b) (funext fun y => ?_))))))
  cases y <;> rfl
def fzK (s : Slot) (k : D → Prop) : Prop := match s with
  | .fz d => k d
  | _ => False
theorem fzK_f {k : D → Prop} : fzK (.fz d) k = k d := rfl
theorem e_aug {f : Int → Int → Int} : dAug i f ta Z ρ = slotK ρ i fun s => fzK s fun x => negK x fun m => ta ρ fun b ρ1 => getK ρ1 b fun y => negK y fun n => setK ρ1 i (.fz (.int (f m n))) Z.nx := by
  unfold dAug slotK
  cases h : ρ.at i with
  | fz d =>
    cases d with
    | int m =>
      show (ta ρ fun b ρ1 => opt (b.get ρ1) _) = (ta ρ fun b ρ1 => getK ρ1 b _)
      simp only [opt_get]
      refine congrArg (ta ρ) (funext fun b => funext fun ρ1 => congrArg (getK ρ1 b) (funext fun y => ?_))
      cases y <;> rfl
    | _ => rfl
  | _ => rfl
theorem e_augI {f : Int → Int → Int} : dAugI i f ta tb Z ρ = slotK ρ i fun s0 => lstK s0 fun _ => ta ρ fun b ρ1 => getK ρ1 b fun y => negK y fun n => slotK ρ1 i fun s1 => lstK s1 fun ds => (0 ≤ n ∧ n < 1000000) ∧ opt ds[n.toNat]? fun old => negK old fun m =>
    tb ρ1 fun b2 ρ2 => getK ρ2 b2 fun z => negK z fun w => slotK ρ2 i fun s2 => lstK s2 fun ds2 => ixK ds2.length n fun j => setK ρ2 i (.lst (ds2.set j (.int (f m w)))) Z.nx := by
  unfold dAugI
  simp only [opt_get, e_lstAt]
  refine congrArg (slotK ρ i) (funext fun s0 => congrArg (lstK s0) (funext fun _ => congrArg (ta ρ) (funext fun b => funext fun ρ1 => congrArg (getK ρ1 b) (funext fun y => ?_))))
  cases y with
  | int n =>
    refine congrArg (slotK ρ1 i) (funext fun s1 => congrArg (lstK s1) (funext fun ds => congrArg (fun p => (0 ≤ n ∧ n < 1000000) ∧ opt ds[n.toNat]? p) (funext fun old => ?_)))
    cases old with
    | int m =>
      refine congrArg (tb ρ1) (funext fun b2 => funext fun ρ2 => congrArg (getK ρ2 b2) (funext fun z => ?_))
      cases z <;> rfl
    | _ => rfl
  | _ => rfl
theorem e_par : dPar i j t1 t2 Z ρ = t1 ρ fun s ρ1 => t2 ρ1 fun r ρ2 => setK ρ2 i s fun ρ3 => setK ρ3 j r Z.nx := rfl
theorem e_par3 {l : Nat} : dPar3 i j l t1 t2 t3 Z ρ = t1 ρ fun s ρ1 => frzK s fun d1 => t2 ρ1 fun s2 ρ2 => frzK s2 fun d2 => t3 ρ2 fun s3 ρ3 => setK ρ3 i (.fz d1) fun ρ4 => setK ρ4 j (.fz d2) fun ρ5 => setK ρ5 l s3 Z.nx := by
  unfold dPar3; simp only [opt_frz]; rfl
def idxK (x y : D) (k : Nat → Prop) : Prop := match x with
  | .list ds => (flatD y = true ∧ ds.all flatD = true) ∧ opt (ixOf y ds) k
  | _ => False
theorem frzK_and {f : D → Prop} {s : Slot} {R : Prop} : (frzK s f ∧ R) = frzK s fun x => f x ∧ R := by cases s <;> simp [frzK]
theorem getK_and {f : D → Prop} {b : BV} {R : Prop} : (getK ρ b f ∧ R) = getK ρ b fun x => f x ∧ R := by
  cases b with
  | d x => rfl
  | v i => exact frzK_and
theorem e_index : dIndex' ta tb ρ Q = ta ρ fun a ρ1 => getK ρ1 a fun x0 => extK x0 fun _ => tb ρ1 fun b ρ2 => getK ρ2 a fun x => getK ρ2 b fun y => idxK x y fun j => Q (.fz (.int (j : Nat))) ρ2 := by
  unfold dIndex'
  refine congrArg (ta ρ) (funext fun a => funext fun ρ1 => ?_)
  simp only [opt_get, isLst]
  rw [getK_and]
  refine congrArg (getK ρ1 a) (funext fun x0 => ?_)
  cases x0 with
  | list ds =>
    simp only [true_and, extK]
    refine congrArg (tb ρ1) (funext fun b => funext fun ρ2 => congrArg (getK ρ2 a) (funext fun x => congrArg (getK ρ2 b) (funext fun y => ?_)))
    cases x <;> rfl
  | _ => exact propext ⟨fun h => h.1.elim, fun h => h.elim⟩

theorem ite_dec {p : Prop} [Decidable p] {A B : Prop} : (if decide p = true then A else B) = if p then A else B := by
  by_cases h : p <;> simp [h]
theorem ite_ndec {p : Prop} [Decidable p] {A B : Prop} : (if (!decide p) = true then A else B) = if p then B else A := by
  by_cases h : p <;> simp [h]
theorem ite_tr {A B : Prop} : (if true = true then A else B) = A := if_pos rfl
theorem ite_fa {A B : Prop} : (if false = true then A else B) = B := if_neg Bool.false_ne_true
theorem ite_nt {b : Bool} {A B : Prop} : (if (!b) = true then A else B) = if b = true then B else A := by cases b <;> rfl
theorem uns_0 : uns 0 = [] := rfl
theorem uns_s : uns (n + 1) = .un :: uns n := rfl
end
end DL

set_option Elab.async false
set_option linter.all false
set_option maxRecDepth 100000
set_option maxHeartbeats 2000000
namespace Lz
open PySem PySem.Calls PyProof.Rows PyProof.V PySem.Spec PySem.W
open Sem (wp)
section
variable {prog : Program} {w : World} {A : Around} {E : Value → Shared → Prop} {s : Shared} {z TI TO T i1 i2 : Addr} {fp1 fp2 : List Addr} {n1 n2 i : Nat} {P1 P2 : Nat → Value → Prop} {St1 St2 : Nat → Heap → Prop} {f : Bool} {oT : Obj}
theorem item_held0 {Q : Value → Shared → Prop} (S : ZipSep2 z TI TO i1 i2 fp1 fp2) (D1 : Draws prog w A i1 fp1 n1 P1 St1) (D2 : Draws prog w A i2 fp2 n2 P2 St2)
    (hz : IsZipHeld s.heap z TI TO T f) (hT : s.heap.get? T = some oT) (hTI : IsTupOf2 s.heap TI (.ref i1) (.ref i2)) (st1 : St1 i s.heap) (st2 : St2 i s.heap) (hlt1 : i < n1) (hlt2 : i < n2)
    (hQ : ∀ x1 x2 h' tk, P1 i x1 → P2 i x2 → IsZipHeld h' z TI TO T true → St1 (i + 1) h' → St2 (i + 1) h' → IsTupOf2 h' s.heap.objs.size x1 x2 → h'.objs.size = s.heap.objs.size + 1 →
      (∀ c o, c ≠ z → c ≠ i1 → c ≠ i2 → s.heap.get? c = some o → h'.get? c = some o) → Q (.ref s.heap.objs.size) { s with heap := h', toks := tk }) :
    wpAny (model prog w) A (Builtin.«zip.__next__» ⟨[.ref z], []⟩) (fun fin s' => ∃ v, fin = .done (.ret v) ∧ Q v s') E s := by
  obtain ⟨hp, g, d, tk0, os⟩ := s
  show wpAny _ _ (field (.ref z) 2 >>= _) _ _ _
  refine wpAny_bind (wpAny_field hz rfl (x := .bool false) rfl ?_)
  show wpAny _ _ (field (.ref z) 3 >>= _) _ _ _
  refine wpAny_bind (wpAny_field hz rfl (x := .ref TI) rfl ?_)
  refine wpAny_bind (wpAny_seqItems hTI rfl ?_)
  show wpAny _ _ (Builtin.SmallTypes.ownedTupleIsFree (.ref z) >>= _) _ _ _
  refine wpAny_bind (wpAny_tupleHeld_zip hz hT fun h₁ hz₁ hs₁ => ?_)
  replace hs₁ : Heap.SameBut z hp h₁ := hs₁
  simp only [Bool.false_eq_true, if_false]
  refine wpAny_bind ?_
  rw [← Array.forIn_toList]
  simp only [List.forIn_cons, List.forIn_nil]
  refine wpAny_bind (wpAny_bind (wpAny_holding ?_))
  show wpAny _ _ (Builtin.SmallTypes.nextOf (.ref i1) >>= _) _ _ ⟨h₁, g, d, tk0, os⟩
  refine wpAny_bind (D1.item i ⟨h₁, g, d, tk0, os⟩ _ _ hlt1 (D1.over st1 hs₁ S.zf1) fun x1 p1 tk1 hx1 sn1 hp1 => wpAny_pure ?_)
  replace hp1 : Heap.SameBut i1 h₁ p1 := hp1
  refine wpAny_pure ?_
  refine wpAny_bind (wpAny_bind (wpAny_holding ?_))
  show wpAny _ _ (Builtin.SmallTypes.nextOf (.ref i2) >>= _) _ _ ⟨p1, g, d, tk1, os⟩
  refine wpAny_bind (D2.item i ⟨p1, g, d, tk1, os⟩ _ _ hlt2 (D2.over (D2.over st2 hs₁ S.zf2) hp1 S.sep1_2) fun x2 p2 tk2 hx2 sn2 hp2 => wpAny_pure ?_)
  replace hp2 : Heap.SameBut i2 p1 p2 := hp2
  refine wpAny_pure (wpAny_pure ?_)
  show wpAny _ _ (newTuple [x1, x2] >>= _) _ _ ⟨p2, g, d, tk2, os⟩
  refine wpAny_bind (wpAny_newTuple ?_)
  have hsz : p2.objs.size = hp.objs.size := by rw [hp2.1, hp1.1, hs₁.1]
  have hz₃ : IsZipHeld p2 z TI TO T true := hp2.extBut _ _ S.zi2 (hp1.extBut _ _ S.zi1 hz₁)
  have hk : ∀ c o, c ≠ z → c ≠ i1 → c ≠ i2 → hp.get? c = some o → p2.get? c = some o := fun c o c1 c2 c3 e => hp2.extBut _ _ c3 (hp1.extBut _ _ c2 (hs₁.extBut _ _ c1 e))
  have hj1 : St1 (i + 1) p2 := D1.over sn1 hp2 S.sep2_1
  refine wpAny_pure ⟨_, rfl, ?_⟩
  show Q (.ref p2.objs.size) _
  have hpr : IsTupOf2 (p2.push { cls := .type "tuple", data := .seq #[x1, x2] }) p2.objs.size x1 x2 := Heap.get?_push_size _ rfl
  have hz4 : (p2.push { cls := .type "tuple", data := .seq #[x1, x2] }).objs.size = p2.objs.size + 1 := Heap.size_push ..
  rw [hsz] at hpr hz4 ⊢
  exact hQ x1 x2 _ tk2 hx1 hx2 (Heap.get?_push_of_some _ hz₃) (D1.frame _ _ _ hj1 fun b _ o e => Heap.get?_push_of_some _ e) (D2.frame _ _ _ sn2 fun b _ o e => Heap.get?_push_of_some _ e) hpr hz4 fun c o c1 c2 c3 e => Heap.get?_push_of_some _ (hk c o c1 c2 c3 e)

theorem end_held0 {Q : Fin → Shared → Prop} (S : ZipSep2 z TI TO i1 i2 fp1 fp2) (D1 : Draws prog w A i1 fp1 n1 P1 St1) (D2 : Draws prog w A i2 fp2 n2 P2 St2)
    (hz : IsZipHeld s.heap z TI TO T f) (hT : s.heap.get? T = some oT) (hTI : IsTupOf2 s.heap TI (.ref i1) (.ref i2)) (st1 : St1 i s.heap) (st2 : St2 i s.heap) (hle1 : i ≤ n1) (hle2 : i ≤ n2) (hend : i = n1 ∨ i = n2)
    (hE : ∀ h' tk e, (∀ c o, c ≠ z → c ≠ i1 → c ≠ i2 → s.heap.get? c = some o → h'.get? c = some o) → (∃ o, h'.get? e = some o ∧ o.cls = .type "StopIteration") → E (.ref e) { s with heap := h', toks := tk }) :
    wpAny (model prog w) A (Builtin.«zip.__next__» ⟨[.ref z], []⟩) Q E s := by
  obtain ⟨hp, g, d, tk0, os⟩ := s
  show wpAny _ _ (field (.ref z) 2 >>= _) _ _ _
  refine wpAny_bind (wpAny_field hz rfl (x := .bool false) rfl ?_)
  show wpAny _ _ (field (.ref z) 3 >>= _) _ _ _
  refine wpAny_bind (wpAny_field hz rfl (x := .ref TI) rfl ?_)
  refine wpAny_bind (wpAny_seqItems hTI rfl ?_)
  show wpAny _ _ (Builtin.SmallTypes.ownedTupleIsFree (.ref z) >>= _) _ _ _
  refine wpAny_bind (wpAny_tupleHeld_zip hz hT fun h₁ hz₁ hs₁ => ?_)
  replace hs₁ : Heap.SameBut z hp h₁ := hs₁
  simp only [Bool.false_eq_true, if_false]
  refine wpAny_bind ?_
  rw [← Array.forIn_toList]
  simp only [List.forIn_cons, List.forIn_nil]
  refine wpAny_bind (wpAny_bind (wpAny_holding ?_))
  show wpAny _ _ (Builtin.SmallTypes.nextOf (.ref i1) >>= _) _ _ ⟨h₁, g, d, tk0, os⟩
  by_cases h1 : i = n1
  · subst h1
    refine wpAny_bind (D1.done ⟨h₁, g, d, tk0, os⟩ _ _ (D1.over st1 hs₁ S.zf1) fun h₂ e hs₂ he => ?_)
    replace hs₂ : Heap.ExtBut i1 h₁ h₂ := hs₂
    exact hE h₂ tk0 e (fun c o c1 c2 _ x => hs₂ _ _ c2 (hs₁.extBut _ _ c1 x)) he
  · refine wpAny_bind (D1.item i ⟨h₁, g, d, tk0, os⟩ _ _ (by omega) (D1.over st1 hs₁ S.zf1) fun x1 p1 tk1 hx1 sn1 hp1 => wpAny_pure ?_)
    replace hp1 : Heap.SameBut i1 h₁ p1 := hp1
    have h2 : i = n2 := by omega
    subst h2
    refine wpAny_pure ?_
    refine wpAny_bind (wpAny_bind (wpAny_holding ?_))
    show wpAny _ _ (Builtin.SmallTypes.nextOf (.ref i2) >>= _) _ _ ⟨p1, g, d, tk1, os⟩
    refine wpAny_bind (D2.done ⟨p1, g, d, tk1, os⟩ _ _ (D2.over (D2.over st2 hs₁ S.zf2) hp1 S.sep1_2) fun h₃ e hs₃ he => ?_)
    replace hs₃ : Heap.ExtBut i2 p1 h₃ := hs₃
    exact hE h₃ tk1 e (fun c o c1 c2 c3 x => hs₃ _ _ c3 (hp1.extBut _ _ c2 (hs₁.extBut _ _ c1 x))) he

/-- a zip on its way, the tuple given out before still there or none yet -/
structure Zst (h : Heap) (S z TI TO i1 i2 : Addr) (St1 St2 : Nat → Heap → Prop) (i : Nat) : Prop where
  ti : IsTupOf2 h TI (.ref i1) (.ref i2)
  s1 : St1 i h
  s2 : St2 i h
  zz : (IsZip h z TI TO .none ∧ ∃ a b, IsTupOf2 h TO a b) ∨ ∃ T f oT, IsZipHeld h z TI TO T f ∧ h.get? T = some oT ∧ T ≠ z ∧ T ≠ i1 ∧ T ≠ i2 ∧ T ≠ S
theorem zst_item {S : Addr} {Q : Option Value → Shared → Prop} (Sp : ZipSep2 z TI TO i1 i2 fp1 fp2) (D1 : Draws prog w A.in1 i1 fp1 n1 P1 St1) (D2 : Draws prog w A.in1 i2 fp2 n2 P2 St2) (hS : S < s.heap.objs.size)
    (st : Zst s.heap S z TI TO i1 i2 St1 St2 i) (hlt1 : i < n1) (hlt2 : i < n2)
    (hQ : ∀ x1 x2 h' tk, P1 i x1 → P2 i x2 → Zst h' S z TI TO i1 i2 St1 St2 (i + 1) → IsTupOf2 h' s.heap.objs.size x1 x2 → h'.objs.size = s.heap.objs.size + 1 →
      (∀ c o, c ≠ z → c ≠ TO → c ≠ i1 → c ≠ i2 → s.heap.get? c = some o → h'.get? c = some o) → Q (some (.ref s.heap.objs.size)) { s with heap := h', toks := tk }) :
    wpAny (model prog w) A (pyNext (.ref z)) Q E s := by
  obtain ⟨hTI, st1, st2, hz⟩ := st
  have lt : ∀ {c o}, s.heap.get? c = some o → s.heap.objs.size ≠ c := fun e => Nat.ne_of_gt (Heap.lt_size e)
  have l1 : s.heap.objs.size ≠ i1 := by obtain ⟨_, e⟩ := D1.live _ _ st1; exact lt e
  have l2 : s.heap.objs.size ≠ i2 := by obtain ⟨_, e⟩ := D2.live _ _ st2; exact lt e
  rcases hz with ⟨hz, a, b, hTO⟩ | ⟨T, f, oT, hz, hT, r1, r2, r3, r4⟩
  · refine wpAny_pyNext_zipD2_item Sp D1 D2 hz hTI hTO st1 st2 hlt1 hlt2 fun x1 x2 h' tk y1 y2 b1 b2 d1 d2 b5 b6 hk => ?_
    exact hQ x1 x2 h' tk y1 y2 ⟨hk _ _ Sp.TIz Sp.TITO Sp.TIi1 Sp.TIi2 hTI, d1, d2, .inr ⟨s.heap.objs.size, false, _, b1, b5, lt hz, l1, l2, Nat.ne_of_gt hS⟩⟩ b5 b6 hk
  · have hTy : s.TypeIs (.ref z) "zip" := ⟨_, hz, rfl⟩
    unfold pyNext
    exact wpAny_bind (wpAny_attempt (wpAny_callSpecial?_slot (name := Str.ofString "__next__") hTy F.slot_zip_next
      (wpAny_call_entry F.slot_zip_next hTy F.entry_zip_next
        (item_held0 Sp D1 D2 hz hT hTI st1 st2 hlt1 hlt2 fun x1 x2 h' tk y1 y2 a1 a3 a4 a5 a6 a7 => wpAny_pure (hQ x1 x2 h' tk y1 y2
          ⟨a7 _ _ Sp.TIz Sp.TIi1 Sp.TIi2 hTI, a3, a4, .inr ⟨T, true, oT, a1, a7 _ _ r1 r2 r3 hT, r1, r2, r3, r4⟩⟩ a5 a6 fun c o c1 _ c3 c4 e => a7 c o c1 c3 c4 e)) (F.args_zip_next_1 _))))
theorem zst_done {S : Addr} {Q : Option Value → Shared → Prop} (Sp : ZipSep2 z TI TO i1 i2 fp1 fp2) (D1 : Draws prog w A.in1 i1 fp1 n1 P1 St1) (D2 : Draws prog w A.in1 i2 fp2 n2 P2 St2)
    (st : Zst s.heap S z TI TO i1 i2 St1 St2 i) (hle1 : i ≤ n1) (hle2 : i ≤ n2) (hend : i = n1 ∨ i = n2)
    (hQ : ∀ h' tk, (∀ c o, c ≠ z → c ≠ TO → c ≠ i1 → c ≠ i2 → s.heap.get? c = some o → h'.get? c = some o) → Q none { s with heap := h', toks := tk }) : wpAny (model prog w) A (pyNext (.ref z)) Q E s := by
  obtain ⟨hTI, st1, st2, hz⟩ := st
  rcases hz with ⟨hz, a, b, hTO⟩ | ⟨T, f, oT, hz, hT, r1, r2, r3, r4⟩
  · exact wpAny_pyNext_zipD2_end Sp D1 D2 hz hTI hTO st1 st2 hle1 hle2 hend hQ
  · have hTy : s.TypeIs (.ref z) "zip" := ⟨_, hz, rfl⟩
    unfold pyNext
    refine wpAny_bind (wpAny_attempt (wpAny_callSpecial?_slot (name := Str.ofString "__next__") hTy F.slot_zip_next
      (wpAny_call_entry F.slot_zip_next hTy F.entry_zip_next (end_held0 Sp D1 D2 hz hT hTI st1 st2 hle1 hle2 hend fun h' tk e hk he => ?_) (F.args_zip_next_1 _))))
    obtain ⟨o, ho, hc⟩ := he
    refine wpAny_bind (wpAny_isInstance (T := "StopIteration") (b := true) ⟨o, ho, hc⟩ isSubtype_stop ?_)
    exact wpAny_pure (hQ _ _ fun c o c1 _ c3 c4 x => hk c o c1 c3 c4 x)
theorem Zst.keep {h h' : Heap} {S : Addr} (Sp : ZipSep2 z TI TO i1 i2 fp1 fp2) (D1 : Draws prog w A i1 fp1 n1 P1 St1) (D2 : Draws prog w A i2 fp2 n2 P2 St2) (st : Zst h S z TI TO i1 i2 St1 St2 i)
    (hSz : z ≠ S) (hSI : TI ≠ S) (hSO : TO ≠ S) (h1 : S ∉ fp1) (h2 : S ∉ fp2) (up : ∀ b o, b ≠ S → h.get? b = some o → h'.get? b = some o) : Zst h' S z TI TO i1 i2 St1 St2 i := by
  obtain ⟨hTI, st1, st2, hz⟩ := st
  refine ⟨up _ _ hSI hTI, D1.frame _ _ _ st1 fun b hb o e => up b o (fun q => h1 (q ▸ hb)) e, D2.frame _ _ _ st2 fun b hb o e => up b o (fun q => h2 (q ▸ hb)) e, ?_⟩
  rcases hz with ⟨hz, a, b, hTO⟩ | ⟨T, f, oT, hz, hT, r1, r2, r3, r4⟩
  · exact .inl ⟨up _ _ hSz hz, a, b, up _ _ hSO hTO⟩
  · exact .inr ⟨T, f, oT, up _ _ hSz hz, up _ _ r4 hT, r1, r2, r3, r4⟩
end
/-- the pairs made, above lo, rising -/
structure Pg (P1 P2 : Nat → Value → Prop) (lo : Addr) (h : Heap) (as : List Addr) : Prop where
  rise : as.Pairwise (· < ·)
  above : ∀ a ∈ as, lo < a
  pairs : ∀ (j : Nat) (a : Addr), as[j]? = some a → ∃ x y, P1 j x ∧ P2 j y ∧ h.get? a = some { cls := .type "tuple", data := .seq #[x, y] }
theorem Pg.there {P1 P2 : Nat → Value → Prop} {lo : Addr} {h : Heap} {as : List Addr} (g : Pg P1 P2 lo h as) {a : Addr} (ha : a ∈ as) : a < h.objs.size := by
  obtain ⟨j, hj⟩ := List.mem_iff_getElem?.mp ha
  obtain ⟨x, y, _, _, e⟩ := g.pairs j a hj
  exact Heap.lt_size e
section
variable {prog : Program} {w : World} {A : Around} {s : Shared} {R : Result → Shared → Prop} {z TI TO i1 i2 : Addr} {fp1 fp2 : List Addr} {n1 n2 : Nat} {P1 P2 : Nat → Value → Prop} {St1 St2 : Nat → Heap → Prop}
/-- S lies apart from, and above, all of the zip -/
structure Ab (S z TI TO i1 i2 : Addr) (fp1 fp2 : List Addr) : Prop where
  z : z < S
  TI : TI < S
  TO : TO < S
  i1 : i1 < S
  i2 : i2 < S
  f1 : S ∉ fp1
  f2 : S ∉ fp2
theorem dz_loop {S : Addr} (Sp : ZipSep2 z TI TO i1 i2 fp1 fp2) (D1 : Draws prog w A.in1.in1 i1 fp1 n1 P1 St1) (D2 : Draws prog w A.in1.in1 i2 fp2 n2 P2 St2) (ab : Ab S z TI TO i1 i2 fp1 fp2) (hn : min n1 n2 ≤ sizeLine) (res : Value) {h₁ : Heap}
    (hR : ∀ h' tk acc c as, (∀ b o, b ≠ S → b ≠ z → b ≠ TO → b ≠ i1 → b ≠ i2 → h₁.get? b = some o → h'.get? b = some o) → h'.get? S = some { cls := .type "list", dict := none, data := .seq acc c, slots := #[] } → as.length = min n1 n2 → Pg P1 P2 S h' as →
      acc.toList = as.map Value.ref → R (.ok (.ret res)) { s with heap := h', toks := tk }) :
    ∀ (k i : Nat) (h : Heap) (tk c : Nat) (acc : Array Value) (as : List Addr), min n1 n2 - i = k → i ≤ min n1 n2 → Zst h S z TI TO i1 i2 St1 St2 i → (∀ b o, b ≠ S → b ≠ z → b ≠ TO → b ≠ i1 → b ≠ i2 → h₁.get? b = some o → h.get? b = some o) →
      h.get? S = some { cls := .type "list", dict := none, data := .seq acc c, slots := #[] } → acc.toList = as.map Value.ref → as.length = i → Pg P1 P2 S h as →
      codeAny (model prog w) A (.builtin "list.extend.loop" ⟨[.ref S, .ref z, res], []⟩) R { s with heap := h, toks := tk } := by
  have zS := Nat.ne_of_lt ab.z
  intro k
  induction k with
  | zero =>
    intro i h tk c acc as hk hi hst hkeep hS hacc hal hG
    have hin : i = min n1 n2 := by omega
    refine codeAny_builtin PySem.F.entry_extend_loop ?_
    rw [Around.under_plainId PySem.F.plain_extend_loop _]
    show wpAny _ A.in1 (pyNext (.ref z) >>= _) _ _ _
    refine wpAny_bind (zst_done (s := { s with heap := h, toks := tk }) (A := A.in1) Sp D1 D2 hst (by omega) (by omega) (by omega) fun h' tk' he => ?_)
    refine wpAny_pure (hR h' tk' acc c as (fun b o h1 h2 h3 h4 h5 e => he b o h2 h3 h4 h5 (hkeep b o h1 h2 h3 h4 h5 e)) (he S _ (Nat.ne_of_gt ab.z) (Nat.ne_of_gt ab.TO) (Nat.ne_of_gt ab.i1) (Nat.ne_of_gt ab.i2) hS) (by omega) ⟨hG.rise, hG.above, fun j a hj => ?_⟩ hacc)
    obtain ⟨x, y, p1, p2, e3⟩ := hG.pairs j a hj
    have hb := hG.above a (List.mem_of_getElem? hj)
    exact ⟨x, y, p1, p2, he a _ (Nat.ne_of_gt (Nat.lt_trans ab.z hb)) (Nat.ne_of_gt (Nat.lt_trans ab.TO hb)) (Nat.ne_of_gt (Nat.lt_trans ab.i1 hb)) (Nat.ne_of_gt (Nat.lt_trans ab.i2 hb)) e3⟩
  | succ k ih =>
    intro i h tk c acc as hk hi hst hkeep hS hacc hal hG
    have hlt : i < min n1 n2 := by omega
    have hsz : acc.size = i := by rw [← Array.length_toList, hacc, List.length_map, hal]
    refine codeAny_builtin PySem.F.entry_extend_loop ?_
    rw [Around.under_plainId PySem.F.plain_extend_loop _]
    show wpAny _ A.in1 (pyNext (.ref z) >>= _) _ _ _
    refine wpAny_bind (zst_item (s := { s with heap := h, toks := tk }) (A := A.in1) (S := S) Sp D1 D2 (Heap.lt_size hS) hst (by omega) (by omega) fun x1 x2 h' tk' p1 p2 hst' ht hz hkp => ?_)
    dsimp only at ht hz hkp ⊢
    have hS' := hkp S _ (Nat.ne_of_gt ab.z) (Nat.ne_of_gt ab.TO) (Nat.ne_of_gt ab.i1) (Nat.ne_of_gt ab.i2) hS
    have up : ∀ b o, b ≠ S → h'.get? b = some o → (h'.update S (Obj.mapSeq (·.push (Value.ref h.objs.size)))).get? b = some o := fun b o hb e => (Heap.get?_update_other _ _ (Ne.symm hb)).trans e
    have hSl : S < h.objs.size := Heap.lt_size hS
    show wpAny _ A.in1 (updateSeq S (·.push (Value.ref h.objs.size)) >>= _) _ _ _
    refine wpAny_bind ?_
    refine wpAny_updateSeq hS' rfl (wpAny_pure ⟨plainId_quiet PySem.F.plain_extend_loop _, ih (i + 1) _ tk' _ (acc.push (Value.ref h.objs.size)) (as ++ [h.objs.size]) (by omega) hlt (hst'.keep Sp D1 D2 zS (Nat.ne_of_lt ab.TI) (Nat.ne_of_lt ab.TO) ab.f1 ab.f2 up)
      (fun b o h1 h2 h3 h4 h5 e => up b o h1 (hkp b o h2 h3 h4 h5 (hkeep b o h1 h2 h3 h4 h5 e))) (Heap.get?_update_self _ hS' rfl) (by rw [Array.toList_push, hacc, List.map_append]; rfl) (by rw [List.length_append, hal]; rfl) ⟨?_, ?_, ?_⟩⟩) (by rw [hsz]; omega) (by show (acc.push (Value.ref h.objs.size)).size ≤ sizeLine + 1; rw [Array.size_push, hsz]; omega)
    · refine List.pairwise_append.mpr ⟨hG.rise, List.pairwise_singleton _ _, fun a ha b hb => ?_⟩
      rw [List.mem_singleton.mp hb]
      exact hG.there ha
    · intro a ha
      rcases List.mem_append.mp ha with ha | ha
      · exact hG.above a ha
      · rw [List.mem_singleton.mp ha]; exact hSl
    · intro j b hj
      rcases Nat.lt_trichotomy j as.length with h1 | h1 | h1
      · rw [List.getElem?_append_left h1] at hj
        obtain ⟨x, y, q1, q2, e3⟩ := hG.pairs j b hj
        have hb := hG.above b (List.mem_of_getElem? hj)
        exact ⟨x, y, q1, q2, up b _ (Nat.ne_of_gt hb) (hkp b _ (Nat.ne_of_gt (Nat.lt_trans ab.z hb)) (Nat.ne_of_gt (Nat.lt_trans ab.TO hb)) (Nat.ne_of_gt (Nat.lt_trans ab.i1 hb)) (Nat.ne_of_gt (Nat.lt_trans ab.i2 hb)) e3)⟩
      · subst h1
        have hb : h.objs.size = b := by simpa using hj
        subst hb
        subst hal
        exact ⟨x1, x2, p1, p2, up _ _ (Nat.ne_of_gt hSl) ht⟩
      · have hnone : (as ++ [h.objs.size])[j]? = none := List.getElem?_eq_none (by rw [List.length_append, List.length_singleton]; omega)
        rw [hnone] at hj; cases hj
end
theorem zip_no_len : typeLookup (.type "zip") "__len__" = pure none := am_miss_of_fast (by decide +kernel)
theorem zip_no_hint : typeLookup (.type "zip") "__length_hint__" = pure none := am_miss_of_fast (by decide +kernel)
section
variable {prog : Program} {w : World} {A : Around} {E : Value → Shared → Prop} {s : Shared} {z TI TO i1 i2 : Addr} {fp1 fp2 : List Addr} {n1 n2 : Nat} {P1 P2 : Nat → Value → Prop} {St1 St2 : Nat → Heap → Prop}
theorem dz_hint {r : Addr} {Q : Bool → Shared → Prop} (hT : s.TypeIs (.ref r) "zip") (h : Q true s) : wpAny (model prog w) A (Builtin.List.listLengthHint (.ref r)) Q E s := by
  unfold Builtin.List.listLengthHint
  refine wpAny_bind (wpAny_specialOf hT zip_no_len ?_)
  show wpAny _ A (specialOf (Value.ref r) (Str.ofString "__length_hint__") >>= _) _ _ _
  refine wpAny_bind (wpAny_specialOf hT zip_no_hint ?_)
  exact wpAny_pure h
theorem dz_extend {R : Result → Shared → Prop} {S : Addr} (Sp : ZipSep2 z TI TO i1 i2 fp1 fp2) (D1 : Draws prog w A.in1.in1 i1 fp1 n1 P1 St1) (D2 : Draws prog w A.in1.in1 i2 fp2 n2 P2 St2) (ab : Ab S z TI TO i1 i2 fp1 fp2) (hn : min n1 n2 ≤ sizeLine)
    (st : Zst s.heap S z TI TO i1 i2 St1 St2 0) (hz : IsZip s.heap z TI TO .none) (res : Value) (c₀ : Nat) (hS : s.heap.get? S = some { cls := .type "list", data := .seq #[] c₀ })
    (hR : ∀ h' tk acc c as, (∀ b o, b ≠ S → b ≠ z → b ≠ TO → b ≠ i1 → b ≠ i2 → s.heap.get? b = some o → h'.get? b = some o) → h'.get? S = some { cls := .type "list", dict := none, data := .seq acc c, slots := #[] } → as.length = min n1 n2 → Pg P1 P2 S h' as →
      acc.toList = as.map Value.ref → R (.ok (.ret res)) { s with heap := h', toks := tk }) :
    wpAny (model prog w) A.in1 (Builtin.List.listExtendWith (.ref S) (.ref z) res)
      (fun fin s' => match fin with | .done f => R (.ok f) s' | .again c' => c'.quiet = true ∧ codeAny (model prog w) A c' R s') (fun e s' => R (.error e) s') s := by
  have key : ∀ (h : Heap) (c₁ tk : Nat), (∀ b o, b ≠ S → s.heap.get? b = some o → h.get? b = some o) →
      h.get? S = some { cls := .type "list", data := .seq #[] c₁ } → codeAny (model prog w) A (.builtin "list.extend.loop" ⟨[.ref S, .ref z, res], []⟩) R { s with heap := h, toks := tk } := by
    intro h c₁ tk hk hS₁
    refine dz_loop (s := s) (h₁ := s.heap) Sp D1 D2 ab hn res hR
      (min n1 n2) 0 h tk c₁ #[] [] (Nat.sub_zero _) (Nat.zero_le _) (st.keep Sp D1 D2 (Nat.ne_of_lt ab.z) (Nat.ne_of_lt ab.TI) (Nat.ne_of_lt ab.TO) ab.f1 ab.f2 hk) (fun b o hb _ _ _ _ e => hk b o hb e) hS₁ rfl rfl
      ⟨List.Pairwise.nil, (fun _ ha => nomatch ha), (fun j a hj => by simp at hj)⟩
  have hSz : S ≠ z := Nat.ne_of_gt ab.z
  unfold Builtin.List.listExtendWith
  refine wpAny_bind (wpAny_typeOf (T := "zip") ⟨_, hz, rfl⟩ ?_)
  have h1 : Builtin.List.listSameRef (.ref S) (.ref z) = false := by simp [Builtin.List.listSameRef, hSz]
  have h2 : (Value.type "zip" == Value.type "list") = false := by decide
  have h3 : (Value.type "zip" == Value.type "tuple") = false := by decide
  simp only [h1, h2, h3, Bool.or_false, Bool.false_eq_true, if_false]
  refine wpAny_bind (wpAny_pyIter_zip hz ?_)
  refine wpAny_bind (wpAny_holding (dz_hint ⟨_, hz, rfl⟩ ?_))
  refine wpAny_ite_split (fun _ => ?_) (fun _ => wpAny_pure ⟨plainId_quiet PySem.F.plain_extend_loop _, key _ c₀ _ (fun b o _ e => e) hS⟩)
  refine wpAny_bind (wpAny_rule ?_)
  refine wpAny_bind ?_
  show wpAny _ _ (updateSeq S (·.push .none) >>= fun _ => updateSeq S (·.pop)) _ _ _
  refine wpAny_bind (wpAny_updateSeq hS rfl ?_)
  have hS₂ := Heap.get?_update_self (Obj.mapSeq (·.push Value.none)) hS rfl
  refine wpAny_updateSeq (hz := by seq_fits) hS₂ rfl ?_
  have hS₃ := Heap.get?_update_self (Obj.mapSeq (·.pop)) hS₂ rfl
  refine wpAny_pure ⟨plainId_quiet PySem.F.plain_extend_loop _, key _ _ _ (fun b o hb e => ?_) hS₃⟩
  exact (Heap.get?_update_other _ _ (Ne.symm hb)).trans ((Heap.get?_update_other _ _ (Ne.symm hb)).trans e)
theorem dz_init {R : Result → Shared → Prop} {S : Addr} (Sp : ZipSep2 z TI TO i1 i2 fp1 fp2) (D1 : Draws prog w A.in1.in1 i1 fp1 n1 P1 St1) (D2 : Draws prog w A.in1.in1 i2 fp2 n2 P2 St2) (ab : Ab S z TI TO i1 i2 fp1 fp2) (hn : min n1 n2 ≤ sizeLine)
    (st : Zst s.heap S z TI TO i1 i2 St1 St2 0) (hz : IsZip s.heap z TI TO .none) (hS : s.heap.get? S = some { cls := .type "list", data := .seq #[] })
    (hR : ∀ h' tk acc c as, (∀ b o, b ≠ S → b ≠ z → b ≠ TO → b ≠ i1 → b ≠ i2 → s.heap.get? b = some o → h'.get? b = some o) → h'.get? S = some { cls := .type "list", dict := none, data := .seq acc c, slots := #[] } → as.length = min n1 n2 → Pg P1 P2 S h' as →
      acc.toList = as.map Value.ref → R (.ok (.ret .none)) { s with heap := h', toks := tk }) :
    wpAny (model prog w) A.in1 (Builtin.«list.__init__» ⟨[.ref S, .ref z], []⟩)
      (fun fin s' => match fin with | .done f => R (.ok f) s' | .again c' => c'.quiet = true ∧ codeAny (model prog w) A c' R s') (fun e s' => R (.error e) s') s := by
  show wpAny _ _ (do let old ← Builtin.List.listItems (.ref S); Builtin.List.listUpdate (.ref S) (fun _ => #[]); letGo old.toList.reverse; Builtin.List.listExtendWith (.ref S) (.ref z) .none) _ _ s
  refine wpAny_bind ?_
  unfold Builtin.List.listItems
  refine wpAny_bind (wpAny_seqItems hS rfl (wpAny_pure ?_))
  show wpAny _ _ (updateSeq S (fun _ => #[]) >>= fun _ => letGo (#[] : Array Value).toList.reverse >>= fun _ => Builtin.List.listExtendWith (.ref S) (.ref z) .none) _ _ s
  refine wpAny_bind (wpAny_updateSeq hS rfl ?_)
  have hS₂ := Heap.get?_update_self (Obj.mapSeq (fun _ => (#[] : Array Value))) hS rfl
  have oth : ∀ b o, b ≠ S → s.heap.get? b = some o → (s.heap.update S (Obj.mapSeq (fun _ => (#[] : Array Value)))).get? b = some o :=
    fun b o hb e => (Heap.get?_update_other _ _ (Ne.symm hb)).trans e
  refine wpAny_bind (wpAny_letGo ?_)
  refine dz_extend (s := { s with heap := _ }) Sp D1 D2 ab hn (st.keep Sp D1 D2 (Nat.ne_of_lt ab.z) (Nat.ne_of_lt ab.TI) (Nat.ne_of_lt ab.TO) ab.f1 ab.f2 oth) (oth _ _ (Nat.ne_of_lt ab.z) hz) .none _ hS₂ fun h' tk acc c as hk hS' hl hG hacc => ?_
  exact hR h' tk acc c as (fun b o hb h1 h2 h3 h4 e => hk b o hb h1 h2 h3 h4 (oth b o hb e)) hS' hl hG hacc
/-- list(zip(v1, v2)), the zip just made: five cells, then the list -/
theorem dz_call {v1 v2 : Value} {o1 o2 : Obj} {H1 H2 : Heap → Prop} {c1 c2 : Addr} {Q : Value → Shared → Prop} (B1 : Begins v1 o1 H1) (B2 : Begins v2 o2 H2) (h1 : H1 s.heap) (h2 : H2 s.heap)
    (D1 : Draws prog w A.in1.in1.in1 s.heap.objs.size [s.heap.objs.size, c1] n1 P1 St1) (D2 : Draws prog w A.in1.in1.in1 (s.heap.objs.size + 1) [s.heap.objs.size + 1, c2] n2 P2 St2) (l1 : c1 < s.heap.objs.size) (l2 : c2 < s.heap.objs.size)
    (b1 : ∀ h : Heap, H1 h → h.get? s.heap.objs.size = some o1 → St1 0 h) (b2 : ∀ h : Heap, H2 h → h.get? (s.heap.objs.size + 1) = some o2 → St2 0 h) (hn : min n1 n2 ≤ sizeLine)
    (hQ : ∀ h' tk acc c as, (∀ b o, s.heap.get? b = some o → h'.get? b = some o) → h'.get? (s.heap.objs.size + 5) = some { cls := .type "list", dict := none, data := .seq acc c, slots := #[] } → as.length = min n1 n2 → Pg P1 P2 (s.heap.objs.size + 5) h' as →
      acc.toList = as.map Value.ref → Q (.ref (s.heap.objs.size + 5)) { s with heap := h', toks := tk }) :
    wpAny (model prog w) A (call (.type "zip") [v1, v2]) (fun v s' => wpAny (model prog w) A (call (.type "list") [v]) Q E s') E s := by
  refine zip_begins2 B1 B2 h1 h2 fun h' hz hTI hTO g1 g2 hsz hk => ?_
  have l1' : (c1 : Nat) < (s.heap.objs.size : Nat) := l1
  have l2' : (c2 : Nat) < (s.heap.objs.size : Nat) := l2
  have k1 := B1.keeps _ _ h1 hk
  have k2 := B2.keeps _ _ h2 hk
  have Sp : ZipSep2 (s.heap.objs.size + 4) (s.heap.objs.size + 2) (s.heap.objs.size + 3) s.heap.objs.size (s.heap.objs.size + 1) [s.heap.objs.size, c1] [s.heap.objs.size + 1, c2] := by
    refine ⟨?_, ?_, ?_, ?_, ?_, ?_, ?_, ?_, ?_, ?_, ?_, ?_, ?_⟩ <;> simp <;> (try apply Nat.ne_of_gt) <;> (try omega)
    all_goals first | exact Nat.lt_of_lt_of_le l1 (Nat.le_add_right _ _) | exact Nat.lt_of_lt_of_le l2 (Nat.le_add_right _ _)
  have ab : Ab (s.heap.objs.size + 5) (s.heap.objs.size + 4) (s.heap.objs.size + 2) (s.heap.objs.size + 3) s.heap.objs.size (s.heap.objs.size + 1) [s.heap.objs.size, c1] [s.heap.objs.size + 1, c2] := by
    constructor <;> first | (simp; done) | (simp; exact Nat.ne_of_gt (Nat.lt_of_lt_of_le l1 (Nat.le_add_right _ _))) | (simp; exact Nat.ne_of_gt (Nat.lt_of_lt_of_le l2 (Nat.le_add_right _ _)))
  refine callType_codes (Q₁ := fun obj s₁ => obj = .ref (s.heap.objs.size + 5) ∧ s₁ = { s with heap := h'.push { cls := .type "list", data := .seq #[] } }) PySem.F.called_list (PySem.F.typeCall_list_1 _) PySem.F.entry_list_init
    (code_list_new _ ⟨by rw [← hsz], rfl⟩) fun obj s₁ h₁ => ?_
  obtain ⟨rfl, rfl⟩ := h₁
  have hS : (h'.push { cls := .type "list", data := .seq #[] }).get? (s.heap.objs.size + 5) = some { cls := .type "list", data := .seq #[] } := by rw [← hsz]; exact Heap.get?_push_size _ rfl
  have up : ∀ b o, h'.get? b = some o → (h'.push { cls := .type "list", data := .seq #[] }).get? b = some o := fun b o e => Heap.get?_push_of_some _ e
  refine ⟨⟨_, hS, rfl⟩, PySem.F.args_list_init_2 _ _, dz_init (A := A.in1) Sp D1 D2 ab hn ⟨up _ _ hTI, D1.frame _ _ _ (b1 _ k1 g1) fun b _ o e => up b o e, D2.frame _ _ _ (b2 _ k2 g2) fun b _ o e => up b o e, .inl ⟨up _ _ hz, _, _, up _ _ hTO⟩⟩ (up _ _ hz) hS (fun h'' tk acc c as hk' hS' hl hG hacc => ?_)⟩
  exact ⟨rfl, hQ h'' tk acc c as (fun b o e => by
    have lt := Heap.lt_size e
    have ne : ∀ k, b ≠ s.heap.objs.size + k := fun k => Nat.ne_of_lt (Nat.lt_of_lt_of_le lt (Nat.le_add_right _ _))
    exact hk' b o (ne 5) (ne 4) (ne 3) (ne 0) (ne 1) (up _ _ (hk b o e))) hS' hl hG hacc⟩
end
end Lz

set_option Elab.async false
set_option linter.all false
set_option maxRecDepth 100000
set_option maxHeartbeats 2000000
namespace DL
open PySem PySem.Spec L2
open PyProof.Rows hiding St
def putP : Hp → List Addr → List (V × V) → Hp
  | H, a :: as, p :: ps => putP (upd H a (.tup [p.1, p.2])) as ps
  | H, _, _ => H
theorem putP_off {b : Addr} : ∀ (as : List Addr) (ps : List (V × V)) (H : Hp), b ∉ as → putP H as ps b = H b
  | [], _, _, _ => rfl
  | _ :: _, [], _, _ => rfl
  | a :: as, p :: ps, H, h => by
    show putP (upd H a (.tup [p.1, p.2])) as ps b = H b
    rw [putP_off as ps _ (fun z => h (List.mem_cons_of_mem _ z)), upd_ne (fun z => h (by rw [z]; exact List.mem_cons_self))]
theorem putP_at : ∀ (as : List Addr) (ps : List (V × V)) (H : Hp), as.length = ps.length → as.Nodup → Paired (fun (t : Addr) (p : V × V) => putP H as ps t = some (.tup [p.1, p.2])) as ps
  | [], [], _, _, _ => .nil
  | [], _ :: _, _, h, _ => by cases h
  | _ :: _, [], _, h, _ => by cases h
  | a :: as, p :: ps, H, h, hn => by
    have hn' := List.nodup_cons.mp hn
    have ih := putP_at as ps (upd H a (.tup [p.1, p.2])) (Nat.succ.inj h) hn'.2
    refine .cons ?_ ih
    show putP (upd H a (.tup [p.1, p.2])) as ps a = some (.tup [p.1, p.2])
    rw [putP_off as ps _ hn'.1, upd_same]
def rListZip (K : PySem.W.Frag) : List V → Hp → VK → Prop := fun vs H Q => ∃ a b xs ys, vs = [.ref a, .ref b] ∧ ((SqL K H a xs ∧ SqL K H b ys) ∨ (SqT K H a xs ∧ SqT K H b ys)) ∧
  ∀ (p : Addr) (ts : List Addr), H p = none → (∀ t ∈ ts, H t = none) → p ∉ ts → ts.Nodup → ts.length = (xs.zip ys).length → Q (.ref p) (upd (putP H ts (xs.zip ys)) p (.lst (ts.map V.ref)))
def tListZip (K : PySem.W.Frag) (ta : TA) : TE := fun σ H Q => ta σ H fun vs H1 => rListZip K vs H1 Q
section
variable {X : Cx}
theorem zip_laid {pins : List (Addr × Obj)} {σ : L2.St} {H : Hp} {s : Shared} {h' : Heap} {tk : Nat} {xs ys : List V} {us ws : List Value} {acc : Array Value} {c : Nat} {as : List Addr} {S : Addr} (I : Inv X pins σ H s) (hSs : s.heap.objs.size ≤ S) (hz : (xs.zip ys).length ≤ sizeLine) (rx : Vals xs us) (ry : Vals ys ws)
    (hk : ∀ b o, s.heap.get? b = some o → h'.get? b = some o) (hS : h'.get? S = some { cls := .type "list", dict := none, data := .seq acc c, slots := #[] }) (hl : as.length = (xs.zip ys).length) (hG : Lz.Pg (fun i v => us.toArray[i]? = some v) (fun i v => ws.toArray[i]? = some v) S h' as) (hacc : acc.toList = as.map Value.ref) :
    H S = none ∧ (∀ t ∈ as, H t = none) ∧ S ∉ as ∧ as.Nodup ∧ Inv X pins σ (upd (putP H as (xs.zip ys)) S (.lst (as.map V.ref))) { s with heap := h', toks := tk } := by
  have hSn : S ∉ as := fun z => Nat.lt_irrefl _ (hG.above _ z)
  have nd : as.Nodup := List.Pairwise.imp (fun {a b} (h : a < b) => Nat.ne_of_lt h) hG.rise
  have new : ∀ t ∈ as, H t = none := fun t ht => I.hok.fresh (Nat.le_trans hSs (Nat.le_of_lt (hG.above t ht)))
  have newS : H S = none := I.hok.fresh hSs
  have atP := putP_at as (xs.zip ys) H hl nd
  have off : ∀ b, b ∉ as → b ≠ S → upd (putP H as (xs.zip ys)) S (.lst (as.map V.ref)) b = H b := fun b h1 h2 => by rw [upd_ne h2, putP_off as _ _ h1]
  have low : ∀ b o, s.heap.get? b = some o → b ∉ as ∧ b ≠ S := fun b o e => ⟨fun z => absurd (Heap.lt_size e) (Nat.not_lt.mpr (Nat.le_trans hSs (Nat.le_of_lt (hG.above b z)))), Nat.ne_of_lt (Nat.lt_of_lt_of_le (Heap.lt_size e) hSs)⟩
  have kp : ∀ b u, H b = some u → upd (putP H as (xs.zip ys)) S (.lst (as.map V.ref)) b = some u := fun b u e => by
    rw [off b (fun z => by rw [new b z] at e; cases e) (fun z => by rw [z, newS] at e; cases e)]
    exact e
  refine ⟨newS, new, hSn, nd, ?_⟩
  refine I.call' (ch := []) rfl ⟨fun b o q _ _ _ => hk b o q, fun b o q _ _ _ => ⟨o.slots, hk b o q⟩, fun b o q n _ => ?_, fun b o q _ => ⟨o, hk b o q⟩, fun b xs q => kp b _ q, fun b o u q => kp b _ q, fun b ps q => ⟨#[], by rw [kp b _ q]; simp⟩⟩ (fun b u q => ?_) I.bare fun b z => by simp at z
  · obtain ⟨z1, z2⟩ := low b o q
    rw [off b z1 z2]
    exact n
  · by_cases hb2 : b = S
    · rw [hb2] at q ⊢
      rw [upd_same] at q
      cases q
      refine ⟨by rw [List.length_map]; omega, acc.toList, c, by rw [hacc]; exact LiI.vals_refs as, ?_⟩
      rw [Array.toArray_toList]
      exact hS
    · by_cases hb : b ∈ as
      · obtain ⟨j, pk, e1, e2, e3⟩ := LiI.paired_ix atP hb
        rw [upd_ne hb2, e3] at q
        cases q
        obtain ⟨x, y, p1, p2, f3⟩ := hG.pairs j b e1
        obtain ⟨g1, g2⟩ := List.getElem?_zip_eq_some.mp e2
        obtain ⟨u1, k1, r1⟩ := LiI.paired_get rx g1
        obtain ⟨u2, k2, r2⟩ := LiI.paired_get ry g2
        have q1 : us[j]? = some x := by simpa using p1
        have q2 : ws[j]? = some y := by simpa using p2
        rw [k1] at q1
        rw [k2] at q2
        cases q1
        cases q2
        exact ⟨by show 2 ≤ sizeLine; decide, [x, y], .cons r1 (.cons r2 .nil), ⟨_, f3, rfl, _, rfl⟩⟩
      · rw [off b hb hb2] at q
        exact (I.hok b u q).stay (fun d v _ y => hk d v y) (fun d y => kp d _ y) fun d xs y => kp d _ y
variable {e e2 : Expr} {ta : TA} {p p2 pos pos2 : Pos}
theorem pe_listZip (hc : X.calm = true) (hg : Gl X "list") (hm : X.mg "list" = none) (hg2 : Gl X "zip") (hm2 : X.mg "zip" = none) (ha : PA X [e, e2] ta)
    (hs2 : starEach [e, e2] X.env = (false, eval e X.env) :: starEach [e2] X.env := by rfl) (hpl : (backTo pos2 (starEach [e2] X.env)).any (·.1) = false := by rfl)
    (hs : starEach [.Call (.Name "zip" p2) [e, e2] [] pos2] X.env = (false, eval (.Call (.Name "zip" p2) [e, e2] [] pos2) X.env) :: starEach [] X.env := by rfl) :
    PE X (.Call (.Name "list" p) [.Call (.Name "zip" p2) [e, e2] [] pos2] [] pos) (tListZip X.K ta) := by
  refine ⟨fun pins s σ H Q I h => ?_⟩
  refine Call_ (ld_blt I hg hm boot_list ?_)
  refine PyProof.Rows.callWith_type1 ?_ hs rfl
  rw [hs]
  show wpAny _ _ (spliced ((false, eval (.Call (.Name "zip" p2) [e, e2] [] pos2) X.env) :: backTo pos (starEach [] X.env))) _ _ s
  refine Calls.spliced_cons ?_
  refine Call_ (ld_blt I hg2 hm2 PyProof.Rows.boot_zip (PyProof.Rows.callWith_type1 (thn (ha.run pos2 pins s σ H _ I h) fun us s1 ⟨vs, H1, I1, r1, q1⟩ => ?_) hs2 hpl))
  obtain ⟨a, b, xs, ys, ex, hq, q⟩ := q1
  subst ex
  cases r1 with
  | cons r rr =>
    cases rr with
    | cons r' rr =>
      cases rr
      cases r
      cases r'
      have hh := I1.ok.hd hc
      have fin : ∀ {us ws : List Value}, Vals xs us → Vals ys ws → us.length ≤ sizeLine → ∀ (h' : Heap) (tk : Nat) (acc : Array Value) (c : Nat) (as : List Addr), (∀ b o, s1.heap.get? b = some o → h'.get? b = some o) → h'.get? (s1.heap.objs.size + 5) = some { cls := .type "list", dict := none, data := .seq acc c, slots := #[] } → as.length = min us.toArray.size ws.toArray.size → Lz.Pg (fun i v => us.toArray[i]? = some v) (fun i v => ws.toArray[i]? = some v) (s1.heap.objs.size + 5) h' as →
          acc.toList = as.map Value.ref → (∃ (x : V) (H' : Hp), Inv X pins σ H' { s1 with heap := h', toks := tk } ∧ RelV x (.ref (s1.heap.objs.size + 5)) ∧ Q x H') := by
        intro us ws rx ry hn h' tk acc c as hk hS hl hG hacc
        have l1 := rx.length
        have l2 := ry.length
        have hl' : as.length = (xs.zip ys).length := by rw [List.length_zip, l1, l2]; simpa using hl
        obtain ⟨k2, k3, k4, k5, J⟩ := zip_laid (tk := tk) I1 (Nat.le_add_right _ 5) (by rw [List.length_zip]; omega) rx ry hk hS hl' hG hacc
        exact ⟨.ref _, _, J, rfl, q _ as k2 k3 k4 k5 hl'⟩
      rcases hq with ⟨hqx, hqy⟩ | ⟨hqx, hqy⟩
      · obtain ⟨us, rx, p1, hz1⟩ := I1.list hqx
        obtain ⟨ws, ry, p2, hz2⟩ := I1.list hqy
        have ln := rx.length
        exact wpAny_mono (Lz.dz_call (Q := fun v s' => ∃ x H', Inv X pins σ H' s' ∧ RelV x v ∧ Q x H') (begins_list a us.toArray) (begins_list b ws.toArray) p1.isList p2.isList (Draws.list (A := X.A.in1.in1.in1) hh s1.heap.objs.size a (Nat.ne_of_lt p1.lt) us.toArray) (Draws.list (A := X.A.in1.in1.in1) hh (s1.heap.objs.size + 1) b (Nat.ne_of_lt (Nat.lt_succ_of_lt p2.lt)) ws.toArray) p1.lt p2.lt
          (fun h i e => ⟨⟨_, e, rfl, rfl⟩, i⟩) (fun h i e => ⟨⟨_, e, rfl, rfl⟩, i⟩) (by simp; omega) (fin rx ry (by omega))) (fun v s' h => Calls.spliced_nil h) fun _ _ h => h
      · obtain ⟨us, rx, p1, hz1⟩ := I1.tuple hqx
        obtain ⟨ws, ry, p2, hz2⟩ := I1.tuple hqy
        have ln := rx.length
        obtain ⟨o1, ho1, _⟩ := id p1
        obtain ⟨o2, ho2, _⟩ := id p2
        exact wpAny_mono (Lz.dz_call (Q := fun v s' => ∃ x H', Inv X pins σ H' s' ∧ RelV x v ∧ Q x H') (begins_tuple a us.toArray) (begins_tuple b ws.toArray) p1 p2 (Draws.tuple (A := X.A.in1.in1.in1) hh s1.heap.objs.size a (Nat.ne_of_lt (Heap.lt_size ho1)) us.toArray) (Draws.tuple (A := X.A.in1.in1.in1) hh (s1.heap.objs.size + 1) b (Nat.ne_of_lt (Nat.lt_succ_of_lt (Heap.lt_size ho2))) ws.toArray) (Heap.lt_size ho1) (Heap.lt_size ho2)
          (fun h i e => ⟨⟨_, e, rfl, rfl⟩, i⟩) (fun h i e => ⟨⟨_, e, rfl, rfl⟩, i⟩) (by simp; omega) (fin rx ry (by omega))) (fun v s' h => Calls.spliced_nil h) fun _ _ h => h

theorem zip_born {F : Fx} {ρ : DEnv} {own : Addr → Option Nat} {σ : L2.St} : ∀ {I H : Hp} (ts : List Addr) (xs ys : List V) (ds es : List D), Rel F ρ I own σ H → RepL I xs ds → RepL I ys es → (∀ t ∈ ts, H t = none) → ts.Nodup → ts.length = (xs.zip ys).length →
    ∃ I', Rel F ρ I' own σ (putP H ts (xs.zip ys)) ∧ Sub I I' ∧ RepL I' (ts.map V.ref) (zipD ds es)
  | I, H, [], [], ys, ds, es, R, rx, ry, _, _, _ => by cases rx; exact ⟨I, R, Sub.refl _, .nil⟩
  | I, H, [], x :: xs, [], ds, es, R, rx, ry, _, _, _ => by cases rx; cases ry; exact ⟨I, R, Sub.refl _, .nil⟩
  | I, H, [], x :: xs, y :: ys, ds, es, R, rx, ry, _, _, h => by simp at h
  | I, H, t :: ts, [], ys, ds, es, R, rx, ry, _, _, h => by simp at h
  | I, H, t :: ts, x :: xs, [], ds, es, R, rx, ry, _, _, h => by simp at h
  | I, H, t :: ts, x :: xs, y :: ys, ds, es, R, rx, ry, hf, hn, h => by
    cases rx with
    | cons r1 rx =>
      cases ry with
      | cons r2 ry =>
        have hn' := List.nodup_cons.mp hn
        obtain ⟨R2, s2⟩ := R.born (o := .tup [x, y]) (hf t List.mem_cons_self)
        obtain ⟨I', R3, s3, r3⟩ := zip_born ts xs ys _ _ R2 (rx.mono s2) (ry.mono s2) (fun u hu => by rw [upd_ne (fun z => hn'.1 (by rw [← z]; exact hu))]; exact hf u (List.mem_cons_of_mem _ hu)) hn'.2 (by simpa using h)
        exact ⟨I', R3, s2.trans s3, .cons (.tup (s3 _ _ upd_same) (.cons (r1.mono (s2.trans s3)) (.cons (r2.mono (s2.trans s3)) .nil))) r3⟩
theorem putP_none {b : Addr} {ts : List Addr} {ps : List (V × V)} {H : Hp} (h : H b = none) (hb : b ∉ ts) : putP H ts ps b = none := by rw [putP_off _ _ _ hb]; exact h
def lzK (ds : List D) (Q : Slot → Prop) : Prop := match ds with
  | [.list xs, .list ys] => Q (.lst (zipD xs ys))
  | [.tuple xs, .tuple ys] => Q (.lst (zipD xs ys))
  | _ => False
theorem lzK_l {xs ys : List D} {Q : Slot → Prop} : lzK [.list xs, .list ys] Q = Q (.lst (zipD xs ys)) := rfl
theorem lzK_t {xs ys : List D} {Q : Slot → Prop} : lzK [.tuple xs, .tuple ys] Q = Q (.lst (zipD xs ys)) := rfl
def dListZip (t : DTA) : DTE := fun ρ Q => t ρ fun bs ρ1 => opt (allD bs) fun ds => lzK ds fun s => Q s ρ1
theorem e_listZip {tas : DTA} {ρ : DEnv} {Q : Slot → DEnv → Prop} : dListZip tas ρ Q = tas ρ fun bs ρ1 => allK bs fun ds => lzK ds fun s => Q s ρ1 := by
  unfold dListZip; simp only [opt_all]
theorem de_listZip {L : List Nat} {tas : DTA} (hc : X.calm = true) (hg : Gl X "list") (hm : X.mg "list" = none) (hg2 : Gl X "zip") (hm2 : X.mg "zip" = none) (ha : DA X L [e, e2] ta tas)
    (hs2 : starEach [e, e2] X.env = (false, eval e X.env) :: starEach [e2] X.env := by rfl) (hpl : (backTo pos2 (starEach [e2] X.env)).any (·.1) = false := by rfl)
    (hs : starEach [.Call (.Name "zip" p2) [e, e2] [] pos2] X.env = (false, eval (.Call (.Name "zip" p2) [e, e2] [] pos2) X.env) :: starEach [] X.env := by rfl) :
    DE X L (.Call (.Name "list" p) [.Call (.Name "zip" p2) [e, e2] [] pos2] [] pos) (tListZip X.K ta) (dListZip tas) :=
  ⟨pe_listZip hc hg hm hg2 hm2 ha.pe hs2 hpl hs, fun F ρ I own σ H Qd Q fo Rl h k => ha.snd F ρ I own σ H _ _ fo Rl h fun bs ρ1 I1 own1 H1 vs R1 s1 r1 h1 => by
    obtain ⟨ds, ed, h1⟩ := opt_elim h1
    have rd := allD_rep r1 ed
    unfold lzK at h1
    split at h1
    · rename_i xs ys
      cases rd with
      | cons rv rn =>
        cases rn with
        | cons rw' rn =>
          cases rn
          cases rv with
          | lst hp rp =>
            rename_i q ws
            cases rw' with
            | lst hp' rp' =>
              rename_i q' ws'
              refine ⟨q, q', ws, ws', rfl, .inl ⟨.of (R1.sub _ _ hp), .of (R1.sub _ _ hp')⟩, fun a ts n1 n2 n3 n4 n5 => ?_⟩
              obtain ⟨I2, R2, s2, r2⟩ := zip_born ts ws ws' xs ys R1 rp rp' n2 n4 n5
              have n6 := putP_none (ps := ws.zip ws') n1 n3
              exact k _ ρ1 I2 own1 _ _ (R2.laid n6) (s1.trans s2) (ResOk.new R2 n6 r2) h1
    · rename_i xs ys
      cases rd with
      | cons rv rn =>
        cases rn with
        | cons rw' rn =>
          cases rn
          cases rv with
          | tup hp rp =>
            rename_i q ws
            cases rw' with
            | tup hp' rp' =>
              rename_i q' ws'
              refine ⟨q, q', ws, ws', rfl, .inr ⟨.of (R1.sub _ _ hp), .of (R1.sub _ _ hp')⟩, fun a ts n1 n2 n3 n4 n5 => ?_⟩
              obtain ⟨I2, R2, s2, r2⟩ := zip_born ts ws ws' xs ys R1 rp rp' n2 n4 n5
              have n6 := putP_none (ps := ws.zip ws') n1 n3
              exact k _ ρ1 I2 own1 _ _ (R2.laid n6) (s1.trans s2) (ResOk.new R2 n6 r2) h1
    · exact h1.elim⟩
end
end DL

set_option Elab.async false
set_option linter.all false
set_option maxRecDepth 100000
namespace DL
open PySem PySem.Spec L2
open PyProof.Rows hiding St
section
variable {ρ : DEnv} {i n : Nat} {Z : DEnds} {x y z u d : D} {xs : List D} {k : D → Prop} {kl : List D → Prop}
theorem at_0 : atK (x :: xs) 0 k = k x := by
  have h : ixN (x :: xs).length 0 = some 0 := by unfold ixN; rw [if_pos (by decide), if_pos (by simp only [List.length_cons]; omega)]; rfl
  unfold atK atI; rw [h]; rfl
theorem at_1 : atK (x :: y :: xs) 1 k = k y := by
  have h : ixN (x :: y :: xs).length 1 = some 1 := by unfold ixN; rw [if_pos (by decide), if_pos (by simp only [List.length_cons]; omega)]; rfl
  unfold atK atI; rw [h]; rfl
theorem at_2 : atK (x :: y :: z :: xs) 2 k = k z := by
  have h : ixN (x :: y :: z :: xs).length 2 = some 2 := by unfold ixN; rw [if_pos (by decide), if_pos (by simp only [List.length_cons]; omega)]; rfl
  unfold atK atI; rw [h]; rfl
theorem at_3 : atK (x :: y :: z :: u :: xs) 3 k = k u := by
  have h : ixN (x :: y :: z :: u :: xs).length 3 = some 3 := by unfold ixN; rw [if_pos (by decide), if_pos (by simp only [List.length_cons]; omega)]; rfl
  unfold atK atI; rw [h]; rfl
def ogK (ds : List D) (n : Int) (k : D → Prop) : Prop := opt ds[n.toNat]? k
theorem og_0 : ogK (x :: xs) 0 k = k x := rfl
theorem og_1 : ogK (x :: y :: xs) 1 k = k y := rfl
theorem og_2 : ogK (x :: y :: z :: xs) 2 k = k z := rfl
theorem og_3 : ogK (x :: y :: z :: u :: xs) 3 k = k u := rfl
def isK (ds : List D) (n : Int) (d : D) (k : List D → Prop) : Prop := ixK ds.length n fun j => k (ds.set j d)
theorem is_0 : isK (x :: xs) 0 d kl = kl (d :: xs) := by
  have h : ixN (x :: xs).length 0 = some 0 := by unfold ixN; rw [if_pos (by decide), if_pos (by simp only [List.length_cons]; omega)]; rfl
  unfold isK ixK; rw [h]; rfl
theorem is_1 : isK (x :: y :: xs) 1 d kl = kl (x :: d :: xs) := by
  have h : ixN (x :: y :: xs).length 1 = some 1 := by unfold ixN; rw [if_pos (by decide), if_pos (by simp only [List.length_cons]; omega)]; rfl
  unfold isK ixK; rw [h]; rfl
theorem is_2 : isK (x :: y :: z :: xs) 2 d kl = kl (x :: y :: d :: xs) := by
  have h : ixN (x :: y :: z :: xs).length 2 = some 2 := by unfold ixN; rw [if_pos (by decide), if_pos (by simp only [List.length_cons]; omega)]; rfl
  unfold isK ixK; rw [h]; rfl
theorem is_3 : isK (x :: y :: z :: u :: xs) 3 d kl = kl (x :: y :: z :: d :: xs) := by
  have h : ixN (x :: y :: z :: u :: xs).length 3 = some 3 := by unfold ixN; rw [if_pos (by decide), if_pos (by simp only [List.length_cons]; omega)]; rfl
  unfold isK ixK; rw [h]; rfl
def augOk (n : Int) : Prop := 0 ≤ n ∧ n < 1000000
theorem aug_0 : augOk 0 = True := eq_true ⟨by decide, by decide⟩
theorem aug_1 : augOk 1 = True := eq_true ⟨by decide, by decide⟩
theorem aug_2 : augOk 2 = True := eq_true ⟨by decide, by decide⟩
theorem aug_3 : augOk 3 = True := eq_true ⟨by decide, by decide⟩
theorem e_setI2 {tb : DTB} {t : DTE} : dSetI i tb t Z ρ = t ρ fun s ρ1 => frzK s fun d => slotK ρ1 i fun s0 => lstK s0 fun _ => tb ρ1 fun b ρ2 => getK ρ2 b fun y => negK y fun n => slotK ρ2 i fun s1 => lstK s1 fun ds => isK ds n d fun ds' => setK ρ2 i (.lst ds') Z.nx := e_setI
theorem e_augI2 {f : Int → Int → Int} {ta tb : DTB} : dAugI i f ta tb Z ρ = slotK ρ i fun s0 => lstK s0 fun _ => ta ρ fun b ρ1 => getK ρ1 b fun y => negK y fun n => slotK ρ1 i fun s1 => lstK s1 fun ds => augOk n ∧ ogK ds n fun old => negK old fun m =>
    tb ρ1 fun b2 ρ2 => getK ρ2 b2 fun z => negK z fun w => slotK ρ2 i fun s2 => lstK s2 fun ds2 => isK ds2 n (.int (f m w)) fun ds' => setK ρ2 i (.lst ds') Z.nx := e_augI
theorem mulOk_r {a b : Int} (h1 : -(2 ^ 64) < b) (h2 : b < 2 ^ 64) : mulOk a b := .inr ⟨h1, h2⟩
theorem mulOk_l {a b : Int} (h1 : -(2 ^ 64) < a) (h2 : a < 2 ^ 64) : mulOk a b := .inl ⟨h1, h2⟩
theorem e_neNN {Qs : Slot → Prop} : dNe .none .none Qs = Qs (.fz (.bool false)) := by
  have e : PyData.eqv .none .none = true := by first | rfl | simp [PyData.eqv] | decide +kernel
  show (_ ∧ Qs (.fz (.bool (!PyData.eqv .none .none)))) = _
  rw [e]
  exact propext ⟨fun h => h.2, fun h => ⟨⟨by decide +kernel, by decide +kernel⟩, h⟩⟩
theorem ite_T {P Q : Prop} : (if True then P else Q) = P := if_pos trivial
theorem ite_F {P Q : Prop} : (if False then P else Q) = Q := if_neg id
theorem Wk.mk {P : DEnv → Prop} {ρ : DEnv} (h : P ρ) : Wk P ρ := ⟨ρ, Wkr.refl ρ, h⟩
theorem tpK_2' : tpK (0 + 1 + 1) (.tuple [x, y]) kl = kl [x, y] := propext ⟨fun h => h.2, fun h => ⟨rfl, h⟩⟩
theorem tpK_3' : tpK (0 + 1 + 1 + 1) (.tuple [x, y, z]) kl = kl [x, y, z] := propext ⟨fun h => h.2, fun h => ⟨rfl, h⟩⟩
theorem tpK_4' : tpK (0 + 1 + 1 + 1 + 1) (.tuple [x, y, z, u]) kl = kl [x, y, z, u] := propext ⟨fun h => h.2, fun h => ⟨rfl, h⟩⟩
theorem tpK_2 {e1 e2 : Expr} : tpK [e1, e2].length (.tuple [x, y]) kl = kl [x, y] := by
  exact propext ⟨fun h => h.2, fun h => ⟨rfl, h⟩⟩
theorem tpK_3 {e1 e2 e3 : Expr} : tpK [e1, e2, e3].length (.tuple [x, y, z]) kl = kl [x, y, z] := by
  exact propext ⟨fun h => h.2, fun h => ⟨rfl, h⟩⟩
theorem tpK_4 {e1 e2 e3 e4 : Expr} : tpK [e1, e2, e3, e4].length (.tuple [x, y, z, u]) kl = kl [x, y, z, u] := by
  exact propext ⟨fun h => h.2, fun h => ⟨rfl, h⟩⟩
end
end DL
namespace DL
open PySem PySem.Spec L2
open PyProof.Rows hiding St
section
variable {ρ : DEnv} {Z : DEnds} {t : DTE} {ta : DTA} {g : DTG} {tb : DTS} {tt : DTT} {te : DTE} {it : DTI} {vs : List Nat} {Q : Slot → DEnv → Prop} {Qi : List D → DEnv → Prop} {ds : List D}
def lsK (d : D) (k : List D → Prop) : Prop := match d with
  | .list ds => k ds
  | _ => False
theorem lsK_l {k : List D → Prop} : lsK (.list ds) k = k ds := rfl
def tsK (d : D) (k : List D → Prop) : Prop := match d with
  | .tuple ds => k ds
  | _ => False
theorem tsK_t {k : List D → Prop} : tsK (.tuple ds) k = k ds := rfl
theorem e_iLst : iLst t ρ Qi = t ρ fun s ρ1 => frzK s fun d => lsK d fun ds => Qi ds ρ1 := by
  unfold iLst; simp only [opt_frz]; rfl
theorem e_iTpl : iTpl t ρ Qi = t ρ fun s ρ1 => frzK s fun d => tsK d fun ds => Qi ds ρ1 := by
  unfold iTpl; simp only [opt_frz]; rfl
def rg1K (ds : List D) (k : List D → Prop) : Prop := match ds with
  | [.int j] => rgO j ∧ k (rangeD 0 j.toNat)
  | _ => False
theorem rg1K_i {j : Int} {k : List D → Prop} : rg1K [.int j] k = (rgO j ∧ k (rangeD 0 j.toNat)) := rfl
theorem e_iRg1 : iRg1 ta ρ Qi = ta ρ fun bs ρ1 => getsK ρ1 bs fun ds => rg1K ds fun ds => Qi ds ρ1 := by
  unfold iRg1; simp only [opt_gets]; refine congrArg (ta ρ) (funext fun bs => funext fun ρ1 => congrArg (getsK ρ1 bs) (funext fun ds => ?_)); 
  cases ds with
  | nil => rfl
  | cons a r => cases r with
    | nil => cases a <;> rfl
    | cons b r => cases a <;> rfl
def rg2K (ds : List D) (k : List D → Prop) : Prop := match ds with
  | [.int i, .int j] => (rgO i ∧ rgO j) ∧ k (rangeD i (j - i).toNat)
  | _ => False
theorem rg2K_i {i j : Int} {k : List D → Prop} : rg2K [.int i, .int j] k = ((rgO i ∧ rgO j) ∧ k (rangeD i (j - i).toNat)) := rfl
theorem e_iRg2 : iRg2 ta ρ Qi = ta ρ fun bs ρ1 => getsK ρ1 bs fun ds => rg2K ds fun ds => Qi ds ρ1 := by
  unfold iRg2; simp only [opt_gets]; refine congrArg (ta ρ) (funext fun bs => funext fun ρ1 => congrArg (getsK ρ1 bs) (funext fun ds => ?_)); 
  cases ds with
  | nil => rfl
  | cons a r => cases r with
    | nil => cases a <;> rfl
    | cons b r => cases r with
      | nil => cases a <;> cases b <;> rfl
      | cons c r => cases a <;> cases b <;> rfl
def en1K (ds : List D) (k : List D → Prop) : Prop := match ds with
  | [.list xs] => k (enumD 0 xs)
  | _ => False
theorem en1K_l {xs : List D} {k : List D → Prop} : en1K [.list xs] k = k (enumD 0 xs) := rfl
theorem e_iEnm : iEnm ta ρ Qi = ta ρ fun bs ρ1 => allK bs fun ds => en1K ds fun ds => Qi ds ρ1 := by
  unfold iEnm; simp only [opt_all]; refine congrArg (ta ρ) (funext fun bs => funext fun ρ1 => congrArg (allK bs) (funext fun ds => ?_)); 
  cases ds with
  | nil => rfl
  | cons a r => cases r with
    | nil => cases a <;> rfl
    | cons b r => cases a <;> rfl
def zpK (ds : List D) (k : List D → Prop) : Prop := match ds with
  | [.list xs, .list ys] => k (zipD xs ys)
  | _ => False
theorem zpK_l {xs ys : List D} {k : List D → Prop} : zpK [.list xs, .list ys] k = k (zipD xs ys) := rfl
theorem e_iZp : iZp ta ρ Qi = ta ρ fun bs ρ1 => allK bs fun ds => zpK ds fun ds => Qi ds ρ1 := by
  unfold iZp; simp only [opt_all]; refine congrArg (ta ρ) (funext fun bs => funext fun ρ1 => congrArg (allK bs) (funext fun ds => ?_)); 
  cases ds with
  | nil => rfl
  | cons a r => cases r with
    | nil => cases a <;> rfl
    | cons b r => cases r with
      | nil => cases a <;> cases b <;> rfl
      | cons c r => cases a <;> cases b <;> rfl

def LC (g : DTG) (tt : DTT) (te : DTE) (vs : List Nat) (ds : List D) (ρ0 : DEnv) (Q : Slot → DEnv → Prop) : Prop := ∃ Inv : Nat → List D → DEnv → Prop, Inv 0 [] ρ0 ∧
  (∀ i d acc ρ, ds[i]? = some d → acc.length ≤ i → Inv i acc ρ → g d ρ fun ρ2 => tt ρ2 fun b ρ3 => if b = true then te ρ3 fun s ρ4 => opt (frzS s) fun x => acc.length < sizeLine ∧ Inv (i + 1) (acc ++ [x]) (wipeD ρ4 vs) else Inv (i + 1) acc (wipeD ρ3 vs)) ∧
  ∀ acc ρ, Inv ds.length acc ρ → Q (.lst acc) ρ
def wipeK (ρ : DEnv) (vs : List Nat) (k : DEnv → Prop) : Prop := k (wipeD ρ vs)
theorem wipeK_n {k : DEnv → Prop} : wipeK ρ (List.map (fun x : Str × Nat => x.snd) []) k = k ρ := rfl
theorem wipeK_c {x : Str} {i : Nat} {r : List (Str × Nat)} {k : DEnv → Prop} : wipeK ρ (List.map (fun x : Str × Nat => x.snd) ((x, i) :: r)) k = wipeK ρ (List.map (fun x : Str × Nat => x.snd) r) fun ρ' => setK ρ' i .un k := rfl
theorem e_lc : dLc it g tt te vs ρ Q = it ρ fun ds ρ1 => wipeK ρ1 vs fun ρ0 => LC g tt te vs ds ρ0 Q := rfl
/-- each thing handed out gives what F tells; the rest of the places stays -/
theorem LC.fm {ρ0 : DEnv} (F : D → Option D) (hl : ds.length ≤ sizeLine)
    (h : ∀ d ∈ ds, ∀ (Kt : D → DEnv → Prop) (Kf : DEnv → Prop), (∀ x, F d = some x → ∀ ρ4, wipeD ρ4 vs = ρ0 → Kt x ρ4) → (F d = none → ∀ ρ3, wipeD ρ3 vs = ρ0 → Kf ρ3) → g d ρ0 fun ρ2 => tt ρ2 fun b ρ3 => if b = true then te ρ3 fun s ρ4 => frzK s fun x => Kt x ρ4 else Kf ρ3)
    (hQ : Q (.lst (ds.filterMap F)) ρ0) : LC g tt te vs ds ρ0 Q := by
  refine ⟨fun i acc ρ => ρ = ρ0 ∧ acc = (ds.take i).filterMap F, ⟨rfl, by simp⟩, ?_, ?_⟩
  · rintro i d acc ρ e hi ⟨rfl, rfl⟩
    obtain ⟨hlt, ed⟩ := List.getElem?_eq_some_iff.mp e
    have et : ds.take (i + 1) = ds.take i ++ [d] := by rw [List.take_succ, e]; rfl
    simp only [opt_frz]
    exact h d (List.mem_of_getElem? e) _ _ (fun x e1 ρ4 e2 => ⟨by omega, e2, by rw [et, List.filterMap_append]; simp [e1]⟩) fun e1 ρ3 e2 => ⟨e2, by rw [et, List.filterMap_append]; simp [e1]⟩
  · rintro acc ρ ⟨rfl, rfl⟩
    rw [List.take_length]
    exact hQ
theorem fm_ints (f : Int → Int) (F : D → Option D) (hF : ∀ n, F (.int n) = some (.int (f n))) : ∀ ns : List Int, (ns.map PyData.int).filterMap F = (ns.map f).map .int
  | [] => rfl
  | n :: ns => by
    have := fm_ints f F hF ns
    simp only [List.map_cons, List.filterMap_cons, hF]
    rw [this]
theorem LC.ints {ρ0 : DEnv} {ns : List Int} (f : Int → Int) (hl : ns.length ≤ sizeLine)
    (h : ∀ n ∈ ns, ∀ (Kt : D → DEnv → Prop) (Kf : DEnv → Prop), (∀ ρ4, wipeD ρ4 vs = ρ0 → Kt (.int (f n)) ρ4) → g (.int n) ρ0 fun ρ2 => tt ρ2 fun b ρ3 => if b = true then te ρ3 fun s ρ4 => frzK s fun x => Kt x ρ4 else Kf ρ3)
    (hQ : Q (.lst ((ns.map f).map .int)) ρ0) : LC g tt te vs (ns.map .int) ρ0 Q := by
  let F : D → Option D := fun d => match d with
    | .int n => some (.int (f n))
    | _ => none
  refine LC.fm F (by simpa using hl) (fun d hd Kt Kf ht hf => ?_) (by rw [fm_ints f F (fun _ => rfl)]; exact hQ)
  obtain ⟨n, hn, rfl⟩ := List.mem_map.mp hd
  exact h n hn Kt Kf fun ρ4 e => ht _ rfl ρ4 e
/-- the same over any things, each gives one -/
theorem LC.all {α : Type} {ρ0 : DEnv} {xs : List α} (c : α → D) (f : α → D) (hl : xs.length ≤ sizeLine)
    (h : ∀ x ∈ xs, ∀ (Kt : D → DEnv → Prop) (Kf : DEnv → Prop), (∀ ρ4, wipeD ρ4 vs = ρ0 → Kt (f x) ρ4) → g (c x) ρ0 fun ρ2 => tt ρ2 fun b ρ3 => if b = true then te ρ3 fun s ρ4 => frzK s fun x => Kt x ρ4 else Kf ρ3)
    (hQ : Q (.lst (xs.map f)) ρ0) : LC g tt te vs (xs.map c) ρ0 Q := by
  refine ⟨fun i acc ρ => ρ = ρ0 ∧ acc = (xs.take i).map f, ⟨rfl, by simp⟩, ?_, ?_⟩
  · rintro i d acc ρ e hi ⟨rfl, rfl⟩
    rw [List.getElem?_map, Option.map_eq_some_iff] at e
    obtain ⟨x, e, rfl⟩ := e
    obtain ⟨hlt, ed⟩ := List.getElem?_eq_some_iff.mp e
    have et : xs.take (i + 1) = xs.take i ++ [x] := by rw [List.take_succ, e]; rfl
    simp only [opt_frz]
    exact h x (List.mem_of_getElem? e) _ _ fun ρ4 e2 => ⟨by simp at hi ⊢; omega, e2, by rw [et]; simp⟩
  · rintro acc ρ ⟨rfl, rfl⟩
    rw [List.length_map, List.take_length]
    exact hQ
theorem fm_filt (p : Int → Bool) (c : Int → Int) (F : D → Option D) (hF : ∀ n, F (.int n) = if p n = true then some (.int (c n)) else none) : ∀ ns : List Int, (ns.map PyData.int).filterMap F = ((ns.filter p).map c).map .int
  | [] => rfl
  | n :: ns => by
    have := fm_filt p c F hF ns
    simp only [List.map_cons, List.filterMap_cons, hF, List.filter_cons]
    cases p n <;> simp [this]
theorem LC.filt {ρ0 : DEnv} {ns : List Int} (p : Int → Bool) (c : Int → Int) (hl : ns.length ≤ sizeLine)
    (h : ∀ n ∈ ns, ∀ (Kt : D → DEnv → Prop) (Kf : DEnv → Prop), (p n = true → ∀ ρ4, wipeD ρ4 vs = ρ0 → Kt (.int (c n)) ρ4) → (p n = false → ∀ ρ3, wipeD ρ3 vs = ρ0 → Kf ρ3) → g (.int n) ρ0 fun ρ2 => tt ρ2 fun b ρ3 => if b = true then te ρ3 fun s ρ4 => frzK s fun x => Kt x ρ4 else Kf ρ3)
    (hQ : Q (.lst (((ns.filter p).map c).map .int)) ρ0) : LC g tt te vs (ns.map .int) ρ0 Q := by
  let F : D → Option D := fun d => match d with
    | .int n => if p n = true then some (.int (c n)) else none
    | _ => none
  refine LC.fm F (by simpa using hl) (fun d hd Kt Kf ht hf => ?_) (by rw [fm_filt p c F (fun _ => rfl)]; exact hQ)
  obtain ⟨n, hn, rfl⟩ := List.mem_map.mp hd
  refine h n hn Kt Kf (fun hp ρ4 e => ht _ ?_ ρ4 e) fun hp ρ3 e => hf ?_ ρ3 e
  · show (if p n = true then some (PyData.int (c n)) else none) = _
    rw [if_pos hp]
  · show (if p n = true then some (PyData.int (c n)) else none) = _
    rw [if_neg (by rw [hp]; decide)]
def FR (g : DTG) (tb : DTS) (Z : DEnds) (ds : List D) (ρ1 : DEnv) : Prop := ∃ Inv : Nat → DEnv → Prop, Inv 0 ρ1 ∧
  (∀ i d ρ, ds[i]? = some d → Inv i ρ → g d ρ fun ρ2 => tb { nx := Wk (Inv (i + 1)), ct := Wk (Inv (i + 1)), bk := Z.nx, rt := Z.rt } ρ2) ∧ ∀ ρ, Inv ds.length ρ → Z.nx ρ
theorem e_for : dFor it g tb Z ρ = it ρ fun ds ρ1 => FR g tb Z ds ρ1 := rfl
/-- the same stands behind each thing -/
theorem FR.mem {ρ1 : DEnv} (Inv : DEnv → Prop) (h0 : Inv ρ1) (h : ∀ d ∈ ds, ∀ ρ, Inv ρ → g d ρ fun ρ2 => tb { nx := Wk Inv, ct := Wk Inv, bk := Z.nx, rt := Z.rt } ρ2) (he : ∀ ρ, Inv ρ → Z.nx ρ) : FR g tb Z ds ρ1 :=
  ⟨fun _ => Inv, h0, fun _ d ρ e q => h d (List.mem_of_getElem? e) ρ q, he⟩
/-- over things x of xs, written c x; Inv over the things done and those to come -/
theorem FR.all {α : Type} {ρ1 : DEnv} {xs : List α} (c : α → D) (Inv : List α → List α → DEnv → Prop) (h0 : Inv [] xs ρ1)
    (h : ∀ (pre : List α) (x : α) (post : List α) (ρ : DEnv), xs = pre ++ x :: post → Inv pre (x :: post) ρ → g (c x) ρ fun ρ2 => tb { nx := Wk (Inv (pre ++ [x]) post), ct := Wk (Inv (pre ++ [x]) post), bk := Z.nx, rt := Z.rt } ρ2)
    (he : ∀ ρ, Inv xs [] ρ → Z.nx ρ) : FR g tb Z (xs.map c) ρ1 := by
  refine ⟨fun i ρ => Inv (xs.take i) (xs.drop i) ρ, by simpa using h0, fun i d ρ e q => ?_, fun ρ q => he ρ (by rw [List.length_map, List.take_length, List.drop_length] at q; exact q)⟩
  rw [List.getElem?_map, Option.map_eq_some_iff] at e
  obtain ⟨x, e, rfl⟩ := e
  obtain ⟨hlt, ed⟩ := List.getElem?_eq_some_iff.mp e
  have e1 : xs.take (i + 1) = xs.take i ++ [x] := by rw [List.take_succ, e]; rfl
  have e2 : xs.drop i = x :: xs.drop (i + 1) := by rw [List.drop_eq_getElem_cons hlt, ed]
  simp only [e1]
  rw [e2] at q
  exact h (xs.take i) x (xs.drop (i + 1)) ρ (by rw [← e2, List.take_append_drop]) q
end
end DL
namespace DL
open PySem PySem.Spec L2
open PyProof.Rows hiding St
section
variable {ρ : DEnv} {Z : DEnds} {g : DTG} {tb : DTS} {k : D → Prop} {kb : Bool → Prop} {kl : List D → Prop} {Qt : Bool → DEnv → Prop} {xs : List D} {x : D}
theorem e_yes : dYes ρ Qt = Qt true ρ := rfl
theorem FR.range {lo : Int} {n : Nat} {ρ1 : DEnv} (Inv : Nat → DEnv → Prop) (h0 : Inv 0 ρ1)
    (h : ∀ (i : Nat) (ρ : DEnv), i < n → Inv i ρ → g (.int (lo + (i : Nat))) ρ fun ρ2 => tb { nx := Wk (Inv (i + 1)), ct := Wk (Inv (i + 1)), bk := Z.nx, rt := Z.rt } ρ2)
    (he : ∀ ρ, Inv n ρ → Z.nx ρ) : FR g tb Z (rangeD lo n) ρ1 := by
  refine ⟨Inv, h0, fun i d ρ e q => ?_, fun ρ q => he ρ (by unfold rangeD at q; rw [List.length_map, List.length_range] at q; exact q)⟩
  unfold rangeD at e
  rw [List.getElem?_map, Option.map_eq_some_iff] at e
  obtain ⟨j, ej, rfl⟩ := e
  obtain ⟨hl, ej⟩ := List.getElem?_eq_some_iff.mp ej
  rw [List.getElem_range] at ej
  rw [List.length_range] at hl
  subst ej
  exact h i ρ hl q
theorem FR.range0 {n : Nat} {ρ1 : DEnv} (Inv : Nat → DEnv → Prop) (h0 : Inv 0 ρ1)
    (h : ∀ (i : Nat) (ρ : DEnv), i < n → Inv i ρ → g (.int (i : Nat)) ρ fun ρ2 => tb { nx := Wk (Inv (i + 1)), ct := Wk (Inv (i + 1)), bk := Z.nx, rt := Z.rt } ρ2)
    (he : ∀ ρ, Inv n ρ → Z.nx ρ) : FR g tb Z (rangeD 0 n) ρ1 :=
  FR.range Inv h0 (fun i ρ hi q => by rw [Int.zero_add]; exact h i ρ hi q) he
theorem intsInj {ns ms : List Int} : (ns.map PyData.int = ms.map PyData.int) = (ns = ms) := propext (List.map_inj_right fun _ _ h => PyData.int.inj h)
theorem rep_int {n : Nat} {m : Int} : (List.replicate n [PyData.int m]).flatten = (List.replicate n m).map PyData.int := by
  induction n with
  | zero => rfl
  | succ n ih => rw [List.replicate_succ, List.flatten_cons, ih, List.replicate_succ]; rfl
theorem eqv_nil {xs : List D} : PyData.eqv (.list xs) (.list []) = decide (xs = []) := by
  cases xs <;> simp [PyData.eqv, PyData.eqvAll]
theorem canAll_ints : ∀ ns : List Int, PyData.canLayAll0 (ns.map .int) = true
  | [] => rfl
  | n :: ns => by simp [PyData.canLayAll0, PyData.canLay0, canAll_ints ns]
theorem depth_ints : ∀ ns : List Int, PyData.depthAll (ns.map .int) = 0
  | [] => rfl
  | n :: ns => by simp [PyData.depthAll, PyData.depth, depth_ints ns]
theorem gd_ints {ns : List Int} : gd 60 (.list (ns.map .int)) = true := by
  unfold gd; simp [PyData.canLay0, PyData.depth, canAll_ints, depth_ints]
theorem canAll_pairs : ∀ ns : List (Int × Int), PyData.canLayAll0 (ns.map pD) = true
  | [] => rfl
  | n :: ns => by simp [PyData.canLayAll0, PyData.canLay0, canAll_pairs ns, pD]
theorem depth_pairs : ∀ ns : List (Int × Int), PyData.depthAll (ns.map pD) ≤ 1
  | [] => by simp [PyData.depthAll]
  | n :: ns => by have := depth_pairs ns; simp [PyData.depthAll, PyData.depth, pD]; omega
theorem gd_pairs {ns : List (Int × Int)} : gd 60 (.list (ns.map pD)) = true := by
  have := depth_pairs ns
  unfold gd; simp [PyData.canLay0, PyData.depth, canAll_pairs]; omega
theorem eqv_ints : ∀ ns ms : List Int, PyData.eqvAll (ns.map .int) (ms.map .int) = decide (ns = ms)
  | [], [] => by simp [PyData.eqvAll]
  | [], _ :: _ => by simp [PyData.eqvAll]
  | _ :: _, [] => by simp [PyData.eqvAll]
  | n :: ns, m :: ms => by
    simp only [List.map_cons, PyData.eqvAll, PyData.eqv, eqv_ints ns ms]
    by_cases h : n = m <;> by_cases h2 : ns = ms <;> simp [h, h2]
theorem gd_nil : gd 60 (.list []) = true := gd_ints (ns := [])
theorem eqK_nilI {ns : List Int} : eqK (.list (ns.map .int)) (.list []) kb = kb (decide (ns = [])) := by
  unfold eqK; rw [eqv_nil]; simp [gd_ints, gd_nil]
theorem eqK_nilP {ns : List (Int × Int)} : eqK (.list (ns.map pD)) (.list []) kb = kb (decide (ns = [])) := by
  unfold eqK; rw [eqv_nil]; simp [gd_pairs, gd_nil]
theorem eqK_ints {ns ms : List Int} : eqK (.list (ns.map .int)) (.list (ms.map .int)) kb = kb (decide (ns = ms)) := by
  unfold eqK; simp [gd_ints, PyData.eqv, eqv_ints]
theorem eqK_Ni {i : Int} : eqK .none (.int i) kb = kb false := by
  unfold eqK
  have e : PyData.eqv .none (.int i) = false := by simp [PyData.eqv]
  have e1 : gd 60 .none = true := by decide +kernel
  have e2 : gd 60 (.int i) = true := by simp [gd, PyData.canLay0, PyData.depth]
  rw [e, e1, e2]; simp
theorem atK_ints {ns : List Int} {i : Int} (h1 : 0 ≤ i) (h2 : i < ns.length) : atK (ns.map .int) i k = k (.int (ns.getD i.toNat 0)) := by
  have h3 : i.toNat < ns.length := by omega
  have e : atI (ns.map PyData.int) i = some (.int (ns.getD i.toNat 0)) := by
    unfold atI ixN
    rw [if_pos h1, if_pos (by simpa using h2)]
    simp [List.getElem?_eq_getElem h3, List.getD]
  unfold atK
  rw [e]; rfl
theorem isK_ints {ns : List Int} {i v : Int} (h1 : 0 ≤ i) (h2 : i < ns.length) : isK (ns.map .int) i (.int v) kl = kl ((ns.set i.toNat v).map .int) := by
  have e : ixN (ns.map PyData.int).length i = some i.toNat := by
    unfold ixN
    rw [if_pos h1, if_pos (by simpa using h2)]
  unfold isK ixK
  rw [e]
  show kl ((ns.map PyData.int).set i.toNat (PyData.int v)) = _
  rw [← List.map_set]
theorem atK_last : atK (xs ++ [x]) (-1) k = k x := by
  have e : atI (xs ++ [x]) (-1) = some x := by
    unfold atI ixN
    rw [if_neg (by decide), if_pos (by simp; omega)]
    have : (-1 + ((xs ++ [x]).length : Int)).toNat = xs.length := by simp; omega
    simp only [Option.bind_some, this]
    simp
  unfold atK
  rw [e]; rfl
theorem ixOf_ints {m : Int} : ∀ {ns : List Int}, m ∈ ns → ixOf (.int m) (ns.map .int) = some (ns.idxOf m)
  | n :: ns, h => by
    rw [List.map_cons, List.idxOf_cons]
    unfold ixOf
    by_cases e : n = m
    · subst e; simp [PyData.eqv]
    · have : m ∈ ns := by exact (List.mem_cons.mp h).resolve_left fun h => e h.symm
      have e' : (n == m) = false := by simpa using e
      rw [ixOf_ints this, e']
      simp [PyData.eqv, e]
theorem idxK_ints {ns : List Int} {m : Int} {kn : Nat → Prop} (h : m ∈ ns) : idxK (.list (ns.map .int)) (.int m) kn = kn (ns.idxOf m) := by
  show ((_ ∧ _) ∧ _) = _
  rw [ixOf_ints h]
  have : (ns.map PyData.int).all flatD = true := by simp [List.all_map, flatD, Function.comp_def]
  simp [this, flatD, opt]
theorem zipD_ints : ∀ ns ms : List Int, zipD (ns.map .int) (ms.map .int) = (ns.zip ms).map pD
  | [], _ => by simp [zipD]
  | _ :: _, [] => by simp [zipD]
  | n :: ns, m :: ms => by simp [zipD, zipD_ints ns ms, pD]
end
end DL

set_option Elab.async false
set_option linter.all false
set_option maxRecDepth 100000
set_option maxHeartbeats 2000000
namespace DL
open PySem PySem.Spec L2
open PyProof.Rows hiding St
mutual
/-- data -/
inductive AL : Nat → D → Prop
  | int (i : Int) : AL 1 (.int i)
  | bool (b : Bool) : AL 1 (.bool b)
  | str (s : Str) : AL 1 (.str s)
  | none : AL 1 .none
  | list {n : Nat} {ds : List D} : ALs n ds → AL (n + 1) (.list ds)
  | tuple {n : Nat} {ds : List D} : ALs n ds → AL (n + 1) (.tuple ds)
inductive ALs : Nat → List D → Prop
  | nil : ALs 0 []
  | cons {n m : Nat} {d : D} {ds : List D} : AL n d → ALs m ds → ALs (n + m) (d :: ds)
end
end DL
namespace DL
open PySem PySem.Spec L2
open PyProof.Rows hiding St
def BagL (L : List D) : Prop := ∃ (b0 b1 b2 : Int) (cs : List Int), L = [.int b0, .int b1, .int b2, .list (cs.map .int)] ∧ 0 ≤ b0 ∧ 0 ≤ b1 ∧ b1 < 2147483647 ∧ 0 ≤ b2 ∧ cs.length ≤ 63 ∧ ∀ c ∈ cs, 0 ≤ c
def p_law_take : PSpec := fun as Q => ∃ L m, as = [.lst L, .fz (.int m)] ∧ BagL L ∧ (0 < m ∧ m < 2 ^ 100) ∧ ∀ v L', BagL L' → 0 ≤ v → v < m → Q (.fz (.int v)) [.lst L', .fz (.int m)]
theorem q_law_take {L : List D} {m : Int} {Q : Slot → List Slot → Prop} : p_law_take [.lst L, .fz (.int m)] Q = (BagL L ∧ (0 < m ∧ m < 2 ^ 100) ∧ ∀ v L', BagL L' → 0 ≤ v → v < m → Q (.fz (.int v)) [.lst L', .fz (.int m)]) :=
  propext ⟨fun ⟨_, _, e, h⟩ => by cases e; exact h, fun h => ⟨_, _, rfl, h⟩⟩
def p_law_some : PSpec := fun as Q => ∃ L xs, as = [.lst L, .fz (.list xs)] ∧ BagL L ∧ (0 < xs.length ∧ xs.length ≤ 16777216) ∧ ∀ x ∈ xs, ∀ L', BagL L' → Q (.fz x) [.lst L', .fz (.list xs)]
theorem q_law_some {L xs : List D} {Q : Slot → List Slot → Prop} : p_law_some [.lst L, .fz (.list xs)] Q = (BagL L ∧ (0 < xs.length ∧ xs.length ≤ 16777216) ∧ ∀ x ∈ xs, ∀ L', BagL L' → Q (.fz x) [.lst L', .fz (.list xs)]) :=
  propext ⟨fun ⟨_, _, e, h⟩ => by cases e; exact h, fun h => ⟨_, _, rfl, h⟩⟩
theorem cutD_map {α β : Type} (f : α → β) (xs : List α) (lo hi : Option Int) : cutD (xs.map f) lo hi = (cutD xs lo hi).map f := by
  unfold cutD; simp [List.map_take, List.map_drop]
theorem cutD_sub {α : Type} {xs : List α} {lo hi : Option Int} {x : α} (h : x ∈ cutD xs lo hi) : x ∈ xs := List.mem_of_mem_drop (List.mem_of_mem_take h)
theorem cutD_len {α : Type} (xs : List α) (lo hi : Option Int) : (cutD xs lo hi).length ≤ xs.length := by
  unfold cutD; rw [List.length_take, List.length_drop]; omega
/-- a cell off the script's rest, 0 behind it -/
theorem take_head {cs : List Int} (hc : ∀ c ∈ cs, 0 ≤ c) (lo hi : Option Int) : ∃ (n : Int) (r : List D), 0 ≤ n ∧ cutD (cs.map PyData.int) lo hi ++ [PyData.int 0] = .int n :: r := by
  rw [cutD_map]
  cases e : cutD cs lo hi with
  | nil => exact ⟨0, [], Int.le_refl _, rfl⟩
  | cons a l => exact ⟨a, l.map .int ++ [.int 0], hc a (cutD_sub (by rw [e]; exact List.mem_cons_self)), rfl⟩
theorem atK_int {ds : List D} {i : Int} {k : D → Prop} (h1 : 0 ≤ i) (h2 : i < ds.length) (h : ∀ x ∈ ds, k x) : atK ds i k := by
  have h3 : i.toNat < ds.length := by omega
  have e : atI ds i = some ds[i.toNat] := by
    unfold atI ixN
    rw [if_pos h1, if_pos h2]
    exact List.getElem?_eq_getElem h3
  unfold atK
  rw [e]
  exact h _ (List.getElem_mem h3)
def kindF : D → Int
  | .bool _ => 0
  | .int _ => 1
  | .str _ => 2
  | .tuple _ => 3
  | .list _ => 4
  | .dict _ => 5
  | .none => -1
def p_law_kind : PSpec := fun as Q => ∃ d, as = [.fz d] ∧ Q (.fz (.int (kindF d))) as
theorem q_law_kind {d : D} {Q : Slot → List Slot → Prop} : p_law_kind [.fz d] Q = Q (.fz (.int (kindF d))) [.fz d] :=
  propext ⟨fun ⟨_, e, h⟩ => by cases e; exact h, fun h => ⟨_, rfl, h⟩⟩
def p_law_alike : PSpec := fun as Q => ∃ d n, as = [.fz d, .fz d] ∧ AL n d ∧ n ≤ 1000000 ∧ Q (.fz (.bool true)) as
theorem q_law_alike2 {d d' : D} {n : Nat} {Q : Slot → List Slot → Prop} (e : d = d') (h1 : AL n d') (h2 : n ≤ 1000000) (h : Q (.fz (.bool true)) [.fz d', .fz d']) : p_law_alike [.fz d, .fz d'] Q := by
  subst e
  exact ⟨_, _, rfl, h1, h2, h⟩
theorem q_law_alike {d d' : D} {n : Nat} {Q : Slot → List Slot → Prop} (e : d' = d) (h1 : AL n d) (h2 : n ≤ 1000000) (h : Q (.fz (.bool true)) [.fz d, .fz d]) : p_law_alike [.fz d, .fz d'] Q := by
  subst e
  exact ⟨_, _, rfl, h1, h2, h⟩
end DL
namespace DL
open PySem PySem.Spec L2
open PyProof.Rows hiding St
def twin (x : D) : D := .tuple [x, x]
theorem zipD_self : ∀ ds : List D, zipD ds ds = ds.map twin
  | [] => rfl
  | x :: xs => by simp [zipD, zipD_self xs, twin]
theorem atK_app {pre r : List D} {x : D} {k : D → Prop} : atK (pre ++ x :: r) (pre.length : Int) k = k x := by
  have e : atI (pre ++ x :: r) (pre.length : Int) = some x := by
    unfold atI ixN
    rw [if_pos (by omega), if_pos (by simp; omega)]
    simp
  unfold atK; rw [e]; rfl
theorem atK_twin {pre r : List D} {x : D} {k : D → Prop} : atK (pre ++ twin x :: r) (pre.length : Int) k = k (.tuple [x, x]) := atK_app
theorem env_s1 {pre r : List D} {x d : D} {s4 s5 : Slot} : ([.fz d, .fz d, .lst (pre ++ twin x :: r.map twin), .fz (.int (pre.length + 1)), s4, s5, .un] : DEnv) = [.fz d, .fz d, .lst ((pre ++ [twin x]) ++ r.map twin), .fz (.int ((pre ++ [twin x]).length : Nat)), s4, s5, .un] := by simp
theorem env_s2 {pre r es : List D} {x d : D} {s4 s5 : Slot} : ([.fz d, .fz d, .lst (pre ++ twin x :: r.map twin ++ es.map twin), .fz (.int (pre.length + 1)), s4, s5, .un] : DEnv) = [.fz d, .fz d, .lst ((pre ++ [twin x]) ++ (r ++ es).map twin), .fz (.int ((pre ++ [twin x]).length : Nat)), s4, s5, .un] := by simp
theorem AL.pos {n : Nat} {d : D} : AL n d → 1 ≤ n
  | .int _ | .bool _ | .str _ | .none => Nat.le_refl _
  | .list _ | .tuple _ => Nat.le_add_left _ _
theorem ALs.len : ∀ {n : Nat} {ds : List D}, ALs n ds → ds.length ≤ n
  | _, _, .nil => Nat.le_refl _
  | _, _, .cons h t => by
    have := h.pos
    have := t.len
    simp only [List.length_cons]; omega
theorem ALs.app : ∀ {n m : Nat} {ds es : List D}, ALs n ds → ALs m es → ALs (n + m) (ds ++ es)
  | _, _, _, _, .nil, h => by simpa using h
  | _, _, _, _, .cons (n := a) (m := b) h t, h2 => by
    have := ALs.cons h (t.app h2)
    rw [← Nat.add_assoc] at this
    exact this
end DL

set_option Elab.async false
set_option linter.all false
set_option maxRecDepth 100000
namespace DL
open PySem PySem.Spec L2
open PyProof.Rows hiding St
def rowsF (m w : Int) : Int := if (m + w - 1) / w > 1 then (m + w - 1) / w else 1
def spillF (ns : List Int) (w : Int) : Int := (ns.map fun n => rowsF n w - 1).sum
def freeF (n w : Int) : Int := w * rowsF n w - n
def needF (n w : Int) : Int := w * rowsF n w + 1 - n
def rawAt (w : Int) (k : Nat) (ns : List Int) : List (Int × Int) := (ns.zipIdx k).filterMap fun p => if 0 < p.1 then some (needF p.1 w, (p.2 : Int)) else none
theorem rawAt_snoc (w : Int) (k : Nat) (ns : List Int) (n : Int) : rawAt w k (ns ++ [n]) = rawAt w k ns ++ if 0 < n then [(needF n w, ((k + ns.length : Nat) : Int))] else [] := by
  unfold rawAt
  rw [List.zipIdx_append, List.filterMap_append]
  congr 1
  by_cases h : 0 < n <;> simp [h, Nat.add_comm]
def needsF (ns : List Int) (w : Int) : List (Int × Int) := srtP (rawAt w 0 ns)
def gStep (s : List Int × Int) (p : Int × Int) : List Int × Int := if p.1 ≤ s.2 then (s.1.set p.2.toNat p.1, s.2 - p.1) else s
def greedyF (ps : List (Int × Int)) (put : List Int) (more : Int) : List Int × Int := ps.foldl gStep (put, more)
def restF (ps : List (Int × Int)) : Int := match ps with
  | [] => 0
  | p :: _ => p.2
def addAt (put : List Int) (i : Int) (v : Int) : List Int := put.set i.toNat (put.getD i.toNat 0 + v)
def gPut (ns : List Int) (w more : Int) : List Int := addAt (greedyF (needsF ns w) (List.replicate ns.length 0) more).1 (restF (needsF ns w)) (greedyF (needsF ns w) (List.replicate ns.length 0) more).2
def lStep (w : Int) (s : List Int × Int) (n : Int) : List Int × Int := (s.1 ++ [if freeF n w < s.2 then freeF n w else s.2], s.2 - if freeF n w < s.2 then freeF n w else s.2)
def lPut (ns : List Int) (w more : Int) : List Int := addAt (ns.foldl (lStep w) ([], more)).1 0 (ns.foldl (lStep w) ([], more)).2
def behindF (ns : List Int) (w : Int) (put : List Int) : Int := spillF ((ns.zip put).map fun p => p.1 + p.2) w
theorem gStep_len (s : List Int × Int) (p : Int × Int) : (gStep s p).1.length = s.1.length := by unfold gStep; split <;> simp
theorem greedy_len (ps : List (Int × Int)) : ∀ s : List Int × Int, (ps.foldl gStep s).1.length = s.1.length := by
  induction ps with
  | nil => intro s; rfl
  | cons p ps ih => intro s; rw [List.foldl_cons, ih, gStep_len]
theorem lStep_len (w : Int) (ns : List Int) : ∀ s : List Int × Int, (ns.foldl (lStep w) s).1.length = s.1.length + ns.length := by
  induction ns with
  | nil => intro s; rfl
  | cons p ps ih => intro s; rw [List.foldl_cons, ih]; simp [lStep]; omega
theorem rawAt_room {w : Int} {k : Nat} {ns : List Int} {p : Int × Int} (h : p ∈ rawAt w k ns) : ∃ i : Nat, p.2 = i ∧ i < k + ns.length := by
  unfold rawAt at h
  obtain ⟨⟨n, i⟩, h1, h2⟩ := List.mem_filterMap.mp h
  have := List.snd_lt_of_mem_zipIdx h1
  dsimp only at h2 this
  split at h2
  · cases h2; exact ⟨i, rfl, by omega⟩
  · cases h2
theorem rawAt_len {w : Int} {k : Nat} {ns : List Int} : (rawAt w k ns).length ≤ ns.length := by
  unfold rawAt
  exact Nat.le_trans (List.length_filterMap_le _ _) (by simp)
theorem needs_room {w : Int} {ns : List Int} {p : Int × Int} (h : p ∈ needsF ns w) : 0 ≤ p.2 ∧ p.2 < ns.length := by
  obtain ⟨i, e, hi⟩ := rawAt_room ((srtP_perm _).mem_iff.mp h)
  omega
theorem needs_len {w : Int} {ns : List Int} : (needsF ns w).length ≤ ns.length := by
  unfold needsF; rw [(srtP_perm _).length_eq]; exact rawAt_len
def isPutF (r : Nat) (more : Int) (ps : List Int) : Bool := decide (ps.length = r) && (ps.all fun p => decide (0 ≤ p)) && decide (ps.sum = more)
def fewF (ns : List Int) (w limit : Int) : Int :=
  let gap := if limit - spillF ns w > 0 then limit - spillF ns w else 0
  let needs := (needsF ns w).map (·.1)
  if gap = 0 then 0 else if needs = [] then gap * w + 1 else (needs.take gap.toNat).sum + w * (if gap - needs.length > 0 then gap - needs.length else 0)
def mostF (ns : List Int) (w limit : Int) : D := if limit - spillF ns w < 0 then .none else .int ((limit - spillF ns w) * w + (ns.map fun n => freeF n w).sum)
end DL
namespace DL
open PySem PySem.Spec L2
open PyProof.Rows hiding St
def Wd (w : Int) : Prop := 0 < w ∧ w ≤ 8
def p_is_whole : PSpec := fun as Q => ∃ i : Int, as = [.fz (.int i)] ∧ Q (.fz (.bool true)) as
theorem q_is_whole {m : Int} {Q : Slot → List Slot → Prop} : p_is_whole [.fz (.int m)] Q = Q (.fz (.bool true)) [.fz (.int m)] :=
  propext ⟨fun ⟨_, e, h⟩ => by cases e; exact h, fun h => ⟨_, rfl, h⟩⟩
def p_rows_for : PSpec := fun as Q => ∃ m w : Int, as = [.fz (.int m), .fz (.int w)] ∧ Wd w ∧ Q (.fz (.int (rowsF m w))) as
theorem q_rows_for {m w : Int} {Q : Slot → List Slot → Prop} : p_rows_for [.fz (.int m), .fz (.int w)] Q = (Wd w ∧ Q (.fz (.int (rowsF m w))) [.fz (.int m), .fz (.int w)]) :=
  propext ⟨fun ⟨_, _, e, h⟩ => by cases e; exact h, fun h => ⟨_, _, rfl, h⟩⟩
def p_free_of : PSpec := fun as Q => ∃ m w : Int, as = [.fz (.int m), .fz (.int w)] ∧ Wd w ∧ Q (.fz (.int (freeF m w))) as
theorem q_free_of {m w : Int} {Q : Slot → List Slot → Prop} : p_free_of [.fz (.int m), .fz (.int w)] Q = (Wd w ∧ Q (.fz (.int (freeF m w))) [.fz (.int m), .fz (.int w)]) :=
  propext ⟨fun ⟨_, _, e, h⟩ => by cases e; exact h, fun h => ⟨_, _, rfl, h⟩⟩
/-- lists of at most a million -/
def Ln {α : Type} (ns : List α) : Prop := ns.length ≤ 1000000
def p_spill : PSpec := fun as Q => ∃ (ns : List Int) (w : Int), as = [.fz (.list (ns.map .int)), .fz (.int w)] ∧ Wd w ∧ Ln ns ∧ Q (.fz (.int (spillF ns w))) as
theorem q_spill {ns : List Int} {w : Int} {Q : Slot → List Slot → Prop} : p_spill [.fz (.list (ns.map .int)), .fz (.int w)] Q = (Wd w ∧ Ln ns ∧ Q (.fz (.int (spillF ns w))) [.fz (.list (ns.map .int)), .fz (.int w)]) :=
  propext ⟨fun ⟨_, _, e, h⟩ => by simp only [List.cons.injEq, Slot.fz.injEq, PyData.list.injEq, intsInj, PyData.int.injEq, and_true] at e; obtain ⟨rfl, rfl⟩ := e; exact h, fun h => ⟨_, _, rfl, h⟩⟩
def p_longest : PSpec := fun as Q => ∃ (ns : List Int) (w : Int), as = [.fz (.list (ns.map .int)), .fz (.int w)] ∧ Wd w ∧ Ln ns ∧ ns ≠ [] ∧ ∀ m, m ∈ ns.map (rowsF · w) → (∀ n ∈ ns, rowsF n w ≤ m) → Q (.fz (.tuple [.int m, .int ((ns.map (rowsF · w)).idxOf m : Nat)])) as
theorem q_longest {ns : List Int} {w : Int} {Q : Slot → List Slot → Prop} : p_longest [.fz (.list (ns.map .int)), .fz (.int w)] Q = (Wd w ∧ Ln ns ∧ ns ≠ [] ∧ ∀ m, m ∈ ns.map (rowsF · w) → (∀ n ∈ ns, rowsF n w ≤ m) → Q (.fz (.tuple [.int m, .int ((ns.map (rowsF · w)).idxOf m : Nat)])) [.fz (.list (ns.map .int)), .fz (.int w)]) :=
  propext ⟨fun ⟨_, _, e, h⟩ => by simp only [List.cons.injEq, Slot.fz.injEq, PyData.list.injEq, intsInj, PyData.int.injEq, and_true] at e; obtain ⟨rfl, rfl⟩ := e; exact h, fun h => ⟨_, _, rfl, h⟩⟩
def p_needs_of : PSpec := fun as Q => ∃ (ns : List Int) (w : Int), as = [.fz (.list (ns.map .int)), .fz (.int w)] ∧ Wd w ∧ Ln ns ∧ Q (.lst ((needsF ns w).map pD)) as
theorem q_needs_of {ns : List Int} {w : Int} {Q : Slot → List Slot → Prop} : p_needs_of [.fz (.list (ns.map .int)), .fz (.int w)] Q = (Wd w ∧ Ln ns ∧ Q (.lst ((needsF ns w).map pD)) [.fz (.list (ns.map .int)), .fz (.int w)]) :=
  propext ⟨fun ⟨_, _, e, h⟩ => by simp only [List.cons.injEq, Slot.fz.injEq, PyData.list.injEq, intsInj, PyData.int.injEq, and_true] at e; obtain ⟨rfl, rfl⟩ := e; exact h, fun h => ⟨_, _, rfl, h⟩⟩
def p_spill_behind : PSpec := fun as Q => ∃ (ns : List Int) (w : Int) (ps : List Int), as = [.fz (.list (ns.map .int)), .fz (.int w), .fz (.list (ps.map .int))] ∧ Wd w ∧ Ln ns ∧ Q (.fz (.int (behindF ns w ps))) as
theorem q_spill_behind {ns ps : List Int} {w : Int} {Q : Slot → List Slot → Prop} : p_spill_behind [.fz (.list (ns.map .int)), .fz (.int w), .fz (.list (ps.map .int))] Q = (Wd w ∧ Ln ns ∧ Q (.fz (.int (behindF ns w ps))) [.fz (.list (ns.map .int)), .fz (.int w), .fz (.list (ps.map .int))]) :=
  propext ⟨fun ⟨_, _, _, e, h⟩ => by simp only [List.cons.injEq, Slot.fz.injEq, PyData.list.injEq, intsInj, PyData.int.injEq, and_true] at e; obtain ⟨rfl, rfl, rfl⟩ := e; exact h, fun h => ⟨_, _, _, rfl, h⟩⟩
def spPut (F : List Int → Int → Int → List Int) : PSpec := fun as Q => ∃ (ns : List Int) (w more : Int), as = [.fz (.list (ns.map .int)), .fz (.int w), .fz (.int more)] ∧ Wd w ∧ Ln ns ∧ ns ≠ [] ∧ Q (.fz (.tuple [.int (behindF ns w (F ns w more)), .list ((F ns w more).map .int)])) as
theorem q_put {F : List Int → Int → Int → List Int} {ns : List Int} {w more : Int} {Q : Slot → List Slot → Prop} : spPut F [.fz (.list (ns.map .int)), .fz (.int w), .fz (.int more)] Q = (Wd w ∧ Ln ns ∧ ns ≠ [] ∧ Q (.fz (.tuple [.int (behindF ns w (F ns w more)), .list ((F ns w more).map .int)])) [.fz (.list (ns.map .int)), .fz (.int w), .fz (.int more)]) :=
  propext ⟨fun ⟨_, _, _, e, h⟩ => by simp only [List.cons.injEq, Slot.fz.injEq, PyData.list.injEq, intsInj, PyData.int.injEq, and_true] at e; obtain ⟨rfl, rfl, rfl⟩ := e; exact h, fun h => ⟨_, _, _, rfl, h⟩⟩
abbrev p_greatest_spill : PSpec := spPut gPut
abbrev p_least_spill : PSpec := spPut lPut
/-- a thing that is asked after: a list of whole numbers, or no list -/
inductive PutArg : D → Prop
  | nums (ps : List Int) : Ln ps → PutArg (.list (ps.map .int))
  | tup (ds : List D) : PutArg (.tuple ds)
  | none : PutArg .none
def intsD : D → Option (List Int)
  | .list ds => intsOf ds
  | _ => Option.none
theorem intsD_l {ps : List Int} : intsD (.list (ps.map .int)) = some ps := intsOf_map ps
def isPutD (r : Nat) (more : Int) (d : D) : Bool := match intsD d with
  | some ps => isPutF r more ps
  | none => false
def p_is_put : PSpec := fun as Q => ∃ (ns : List Int) (more : Int) (d : D), as = [.fz (.list (ns.map .int)), .fz (.int more), .fz d] ∧ PutArg d ∧ Q (.fz (.bool (isPutD ns.length more d))) as
theorem q_is_put {ns : List Int} {more : Int} {d : D} {Q : Slot → List Slot → Prop} : p_is_put [.fz (.list (ns.map .int)), .fz (.int more), .fz d] Q = (PutArg d ∧ Q (.fz (.bool (isPutD ns.length more d))) [.fz (.list (ns.map .int)), .fz (.int more), .fz d]) :=
  propext ⟨fun ⟨_, _, _, e, h⟩ => by simp only [List.cons.injEq, Slot.fz.injEq, PyData.list.injEq, intsInj, PyData.int.injEq, and_true] at e; obtain ⟨rfl, rfl, rfl⟩ := e; exact h, fun h => ⟨_, _, _, rfl, h⟩⟩
def isBestD (F : List Int → Int → Int → List Int) (ns : List Int) (w more : Int) (d : D) : Bool := match intsD d with
  | some ps => isPutF ns.length more ps && decide (behindF ns w ps = behindF ns w (F ns w more))
  | none => false
def spBest (F : List Int → Int → Int → List Int) : PSpec := fun as Q => ∃ (ns : List Int) (w more : Int) (d : D), as = [.fz (.list (ns.map .int)), .fz (.int w), .fz (.int more), .fz d] ∧ Wd w ∧ Ln ns ∧ ns ≠ [] ∧ PutArg d ∧ Q (.fz (.bool (isBestD F ns w more d))) as
theorem q_best {F : List Int → Int → Int → List Int} {ns : List Int} {w more : Int} {d : D} {Q : Slot → List Slot → Prop} : spBest F [.fz (.list (ns.map .int)), .fz (.int w), .fz (.int more), .fz d] Q = (Wd w ∧ Ln ns ∧ ns ≠ [] ∧ PutArg d ∧ Q (.fz (.bool (isBestD F ns w more d))) [.fz (.list (ns.map .int)), .fz (.int w), .fz (.int more), .fz d]) :=
  propext ⟨fun ⟨_, _, _, _, e, h⟩ => by simp only [List.cons.injEq, Slot.fz.injEq, PyData.list.injEq, intsInj, PyData.int.injEq, and_true] at e; obtain ⟨rfl, rfl, rfl, rfl⟩ := e; exact h, fun h => ⟨_, _, _, _, rfl, h⟩⟩
abbrev p_is_greatest : PSpec := spBest gPut
abbrev p_is_least : PSpec := spBest lPut
def p_fewest_for : PSpec := fun as Q => ∃ (ns : List Int) (w l : Int), as = [.fz (.list (ns.map .int)), .fz (.int w), .fz (.int l)] ∧ Wd w ∧ Ln ns ∧ Q (.fz (.int (fewF ns w l))) as
theorem q_fewest_for {ns : List Int} {w l : Int} {Q : Slot → List Slot → Prop} : p_fewest_for [.fz (.list (ns.map .int)), .fz (.int w), .fz (.int l)] Q = (Wd w ∧ Ln ns ∧ Q (.fz (.int (fewF ns w l))) [.fz (.list (ns.map .int)), .fz (.int w), .fz (.int l)]) :=
  propext ⟨fun ⟨_, _, _, e, h⟩ => by simp only [List.cons.injEq, Slot.fz.injEq, PyData.list.injEq, intsInj, PyData.int.injEq, and_true] at e; obtain ⟨rfl, rfl, rfl⟩ := e; exact h, fun h => ⟨_, _, _, rfl, h⟩⟩
def p_most_for : PSpec := fun as Q => ∃ (ns : List Int) (w l : Int), as = [.fz (.list (ns.map .int)), .fz (.int w), .fz (.int l)] ∧ Wd w ∧ Ln ns ∧ Q (.fz (mostF ns w l)) as
theorem q_most_for {ns : List Int} {w l : Int} {Q : Slot → List Slot → Prop} : p_most_for [.fz (.list (ns.map .int)), .fz (.int w), .fz (.int l)] Q = (Wd w ∧ Ln ns ∧ Q (.fz (mostF ns w l)) [.fz (.list (ns.map .int)), .fz (.int w), .fz (.int l)]) :=
  propext ⟨fun ⟨_, _, _, e, h⟩ => by simp only [List.cons.injEq, Slot.fz.injEq, PyData.list.injEq, intsInj, PyData.int.injEq, and_true] at e; obtain ⟨rfl, rfl, rfl⟩ := e; exact h, fun h => ⟨_, _, _, rfl, h⟩⟩
theorem Wd.div {w : Int} (h : Wd w) : divOk w := ⟨h.1, by have := h.2; omega⟩
theorem Wd.mul {w x : Int} (h : Wd w) : mulOk w x := mulOk_l (by have := h.1; omega) (by have := h.2; omega)
theorem Wd.mul' {w x : Int} (h : Wd w) : mulOk x w := mulOk_r (by have := h.1; omega) (by have := h.2; omega)
theorem isPutD_l {r : Nat} {more : Int} {ps : List Int} : isPutD r more (.list (ps.map .int)) = isPutF r more ps := by unfold isPutD; rw [intsD_l]
theorem isBestD_l {F : List Int → Int → Int → List Int} {ns ps : List Int} {w more : Int} : isBestD F ns w more (.list (ps.map .int)) = (isPutF ns.length more ps && decide (behindF ns w ps = behindF ns w (F ns w more))) := by unfold isBestD; rw [intsD_l]
theorem repOk_nat {n : Nat} (h : n ≤ 1000000) : repOk (0 + 1) (n : Int) := ⟨by omega, by omega, by rw [sizeLine_eq]; simp; omega⟩
theorem Ln.sz {α : Type} {ns : List α} (h : Ln ns) : ns.length ≤ sizeLine := by unfold Ln at h; rw [sizeLine_eq]; omega
end DL
namespace DL
open PySem PySem.Spec L2
theorem cutD_take {α : Type} {xs : List α} {g : Int} (h : 0 ≤ g) : cutD xs none (some g) = xs.take g.toNat := by
  unfold cutD
  have e : HT.sIx xs.length 0 none = 0 := rfl
  have e2 : HT.sIx xs.length xs.length (some g) = min g.toNat xs.length := by
    show (if g < 0 then _ else _) = _
    rw [if_neg (by omega)]
  rw [e, e2, List.drop_zero, Nat.sub_zero]
  by_cases hl : g.toNat ≤ xs.length
  · rw [Nat.min_eq_left hl]
  · rw [Nat.min_eq_right (by omega), List.take_length, List.take_of_length_le (by omega)]
end DL
namespace DL
open PySem PySem.Spec L2
open PyProof.Rows hiding St
theorem q_is_put_t {ns : List Int} {more : Int} {ds : List D} {Q : Slot → List Slot → Prop} : p_is_put [.fz (.list (ns.map .int)), .fz (.int more), .fz (.tuple ds)] Q = Q (.fz (.bool false)) [.fz (.list (ns.map .int)), .fz (.int more), .fz (.tuple ds)] := by
  rw [q_is_put]; exact propext ⟨fun h => h.2, fun h => ⟨.tup ds, h⟩⟩
theorem q_is_put_n {ns : List Int} {more : Int} {Q : Slot → List Slot → Prop} : p_is_put [.fz (.list (ns.map .int)), .fz (.int more), .fz .none] Q = Q (.fz (.bool false)) [.fz (.list (ns.map .int)), .fz (.int more), .fz .none] := by
  rw [q_is_put]; exact propext ⟨fun h => h.2, fun h => ⟨.none, h⟩⟩
theorem PutArg.of {d : D} (h : PutArg d) : ∀ ps : List Int, d = .list (ps.map .int) → Ln ps := by
  cases h with
  | nums qs hq => intro ps e; rw [← intsInj.mp (PyData.list.inj e)]; exact hq
  | tup _ => intro ps e; cases e
  | none => intro ps e; cases e
theorem PutArg.len {ps : List Int} (h : PutArg (.list (ps.map .int))) : Ln ps := h.of ps rfl
theorem q_is_put_l {ns ps : List Int} {more : Int} {Q : Slot → List Slot → Prop} : p_is_put [.fz (.list (ns.map .int)), .fz (.int more), .fz (.list (ps.map .int))] Q = (Ln ps ∧ Q (.fz (.bool (isPutF ns.length more ps))) [.fz (.list (ns.map .int)), .fz (.int more), .fz (.list (ps.map .int))]) := by
  rw [q_is_put, isPutD_l]; exact propext ⟨fun h => ⟨h.1.len, h.2⟩, fun h => ⟨.nums ps h.1, h.2⟩⟩
theorem q_best_t {F : List Int → Int → Int → List Int} {ns : List Int} {w more : Int} {ds : List D} {Q : Slot → List Slot → Prop} : spBest F [.fz (.list (ns.map .int)), .fz (.int w), .fz (.int more), .fz (.tuple ds)] Q = (Wd w ∧ Ln ns ∧ ns ≠ [] ∧ Q (.fz (.bool false)) [.fz (.list (ns.map .int)), .fz (.int w), .fz (.int more), .fz (.tuple ds)]) := by
  rw [q_best]; exact propext ⟨fun h => ⟨h.1, h.2.1, h.2.2.1, h.2.2.2.2⟩, fun h => ⟨h.1, h.2.1, h.2.2.1, .tup ds, h.2.2.2⟩⟩
theorem q_best_n {F : List Int → Int → Int → List Int} {ns : List Int} {w more : Int} {Q : Slot → List Slot → Prop} : spBest F [.fz (.list (ns.map .int)), .fz (.int w), .fz (.int more), .fz .none] Q = (Wd w ∧ Ln ns ∧ ns ≠ [] ∧ Q (.fz (.bool false)) [.fz (.list (ns.map .int)), .fz (.int w), .fz (.int more), .fz .none]) := by
  rw [q_best]; exact propext ⟨fun h => ⟨h.1, h.2.1, h.2.2.1, h.2.2.2.2⟩, fun h => ⟨h.1, h.2.1, h.2.2.1, .none, h.2.2.2⟩⟩
theorem q_best_l {F : List Int → Int → Int → List Int} {ns ps : List Int} {w more : Int} {Q : Slot → List Slot → Prop} : spBest F [.fz (.list (ns.map .int)), .fz (.int w), .fz (.int more), .fz (.list (ps.map .int))] Q = (Wd w ∧ Ln ns ∧ ns ≠ [] ∧ Ln ps ∧ Q (.fz (.bool (isPutF ns.length more ps && decide (behindF ns w ps = behindF ns w (F ns w more))))) [.fz (.list (ns.map .int)), .fz (.int w), .fz (.int more), .fz (.list (ps.map .int))]) := by
  rw [q_best, isBestD_l]; exact propext ⟨fun h => ⟨h.1, h.2.1, h.2.2.1, h.2.2.2.1.len, h.2.2.2.2⟩, fun h => ⟨h.1, h.2.1, h.2.2.1, .nums ps h.2.2.2.1, h.2.2.2.2⟩⟩
end DL

set_option Elab.async false
set_option linter.all false
set_option maxRecDepth 100000
namespace D07
open PySem PySem.Spec L2 DL
open PyProof.Rows hiding St
def Rm (r : Int) : Prop := 0 < r ∧ r ≤ 120
def moreF (m w : Int) : Int := if 0 < m then (m - 1) / w else 0
def lspillF (ns : List Int) (w : Int) : Int := (ns.map fun n => moreF n w).sum
def slackF (m w : Int) : Int := if 0 < m then w - 1 - (m - 1) % w else w
def greatF (m r w e : Int) : Int := if m = 0 then (if 0 < e then (e - 1) / w else 0) else if e ≤ r * (slackF m w + 1) then e / (slackF m w + 1) else r + (e - r * (slackF m w + 1)) / w
def leastF (m r w e : Int) : Int := if r * slackF m w < e then (e - r * slackF m w + w - 1) / w else 0
def fewLF (m r w k : Int) : Int := if k ≤ 0 then 0 else if m = 0 then k * w + 1 else if k ≤ r then k * (slackF m w + 1) else r * (slackF m w + 1) + (k - r) * w
/-- room by room: v tells from what is left -/
def goF (v : Int → Int) : Nat → Int → List Int × Int
  | 0, e => ([], e)
  | n + 1, e => ((goF v n e).1 ++ [v (goF v n e).2], (goF v n e).2 - v (goF v n e).2)
def worstF (m r w e : Int) : List Int := if m = 0 then e :: List.replicate (r - 1).toNat 0 else
  addAt (goF (fun x => if slackF m w + 1 ≤ x then slackF m w + 1 else 0) r.toNat e).1 0 (goF (fun x => if slackF m w + 1 ≤ x then slackF m w + 1 else 0) r.toNat e).2
def bestF (m r w e : Int) : List Int := addAt (goF (fun x => if x < slackF m w then x else slackF m w) r.toNat e).1 (r - 1) (goF (fun x => if x < slackF m w then x else slackF m w) r.toNat e).2
theorem goF_len (v : Int → Int) : ∀ n e, (goF v n e).1.length = n
  | 0, _ => rfl
  | n + 1, e => by simp [goF, goF_len v n e]
def p_law_more_rows : PSpec := fun as Q => ∃ m w : Int, as = [.fz (.int m), .fz (.int w)] ∧ Wd w ∧ Q (.fz (.int (moreF m w))) as
theorem q_law_more_rows {m w : Int} {Q : Slot → List Slot → Prop} : p_law_more_rows [.fz (.int m), .fz (.int w)] Q = (Wd w ∧ Q (.fz (.int (moreF m w))) [.fz (.int m), .fz (.int w)]) :=
  propext ⟨fun ⟨_, _, e, h⟩ => by cases e; exact h, fun h => ⟨_, _, rfl, h⟩⟩
def p_law_slack : PSpec := fun as Q => ∃ m w : Int, as = [.fz (.int m), .fz (.int w)] ∧ Wd w ∧ Q (.fz (.int (slackF m w))) as
theorem q_law_slack {m w : Int} {Q : Slot → List Slot → Prop} : p_law_slack [.fz (.int m), .fz (.int w)] Q = (Wd w ∧ Q (.fz (.int (slackF m w))) [.fz (.int m), .fz (.int w)]) :=
  propext ⟨fun ⟨_, _, e, h⟩ => by cases e; exact h, fun h => ⟨_, _, rfl, h⟩⟩
def p_law_spill : PSpec := fun as Q => ∃ (ns : List Int) (w : Int), as = [.fz (.list (ns.map .int)), .fz (.int w)] ∧ Wd w ∧ Ln ns ∧ Q (.fz (.int (lspillF ns w))) as
theorem q_law_spill {ns : List Int} {w : Int} {Q : Slot → List Slot → Prop} : p_law_spill [.fz (.list (ns.map .int)), .fz (.int w)] Q = (Wd w ∧ Ln ns ∧ Q (.fz (.int (lspillF ns w))) [.fz (.list (ns.map .int)), .fz (.int w)]) :=
  propext ⟨fun ⟨_, _, e, h⟩ => by simp only [List.cons.injEq, Slot.fz.injEq, PyData.list.injEq, intsInj, PyData.int.injEq, and_true] at e; obtain ⟨rfl, rfl⟩ := e; exact h, fun h => ⟨_, _, rfl, h⟩⟩
def sp4 (f : Int → Int → Int → Int → D) : PSpec := fun as Q => ∃ m r w e : Int, as = [.fz (.int m), .fz (.int r), .fz (.int w), .fz (.int e)] ∧ Wd w ∧ Rm r ∧ Q (.fz (f m r w e)) as
theorem q_sp4 {f : Int → Int → Int → Int → D} {m r w e : Int} {Q : Slot → List Slot → Prop} : sp4 f [.fz (.int m), .fz (.int r), .fz (.int w), .fz (.int e)] Q = (Wd w ∧ Rm r ∧ Q (.fz (f m r w e)) [.fz (.int m), .fz (.int r), .fz (.int w), .fz (.int e)]) :=
  propext ⟨fun ⟨_, _, _, _, e, h⟩ => by cases e; exact h, fun h => ⟨_, _, _, _, rfl, h⟩⟩
abbrev p_law_greatest : PSpec := sp4 fun m r w e => .int (greatF m r w e)
abbrev p_law_least : PSpec := sp4 fun m r w e => .int (leastF m r w e)
abbrev p_law_fewest : PSpec := sp4 fun m r w e => .int (fewLF m r w e)
def sp4l (f : Int → Int → Int → Int → List Int) : PSpec := fun as Q => ∃ m r w e : Int, as = [.fz (.int m), .fz (.int r), .fz (.int w), .fz (.int e)] ∧ Wd w ∧ Rm r ∧ Q (.lst ((f m r w e).map .int)) as
theorem q_sp4l {f : Int → Int → Int → Int → List Int} {m r w e : Int} {Q : Slot → List Slot → Prop} : sp4l f [.fz (.int m), .fz (.int r), .fz (.int w), .fz (.int e)] Q = (Wd w ∧ Rm r ∧ Q (.lst ((f m r w e).map .int)) [.fz (.int m), .fz (.int r), .fz (.int w), .fz (.int e)]) :=
  propext ⟨fun ⟨_, _, _, _, e, h⟩ => by cases e; exact h, fun h => ⟨_, _, _, _, rfl, h⟩⟩
abbrev p_law_worst : PSpec := sp4l worstF
abbrev p_law_best : PSpec := sp4l bestF
def p_law_behind : PSpec := fun as Q => ∃ (m : Int) (ps : List Int), as = [.fz (.int m), .fz (.list (ps.map .int))] ∧ Ln ps ∧ Q (.lst ((ps.map fun p => m + p).map .int)) as
theorem q_law_behind {m : Int} {ps : List Int} {Q : Slot → List Slot → Prop} : p_law_behind [.fz (.int m), .fz (.list (ps.map .int))] Q = (Ln ps ∧ Q (.lst ((ps.map fun p => m + p).map .int)) [.fz (.int m), .fz (.list (ps.map .int))]) :=
  propext ⟨fun ⟨_, _, e, h⟩ => by simp only [List.cons.injEq, Slot.fz.injEq, PyData.list.injEq, intsInj, PyData.int.injEq, and_true] at e; obtain ⟨rfl, rfl⟩ := e; exact h, fun h => ⟨_, _, rfl, h⟩⟩
def p_law_is_put : PSpec := fun as Q => ∃ (d : D) (r e : Int), as = [.fz d, .fz (.int r), .fz (.int e)] ∧ Rm r ∧ PutArg d ∧ Q (.fz (.bool (isPutD r.toNat e d))) as
theorem q_law_is_put_t {ds : List D} {r e : Int} {Q : Slot → List Slot → Prop} : p_law_is_put [.fz (.tuple ds), .fz (.int r), .fz (.int e)] Q = (Rm r ∧ Q (.fz (.bool false)) [.fz (.tuple ds), .fz (.int r), .fz (.int e)]) :=
  propext ⟨fun ⟨_, _, _, e, h⟩ => by cases e; exact ⟨h.1, h.2.2⟩, fun h => ⟨_, _, _, rfl, h.1, .tup _, h.2⟩⟩
theorem q_law_is_put_n {r e : Int} {Q : Slot → List Slot → Prop} : p_law_is_put [.fz .none, .fz (.int r), .fz (.int e)] Q = (Rm r ∧ Q (.fz (.bool false)) [.fz .none, .fz (.int r), .fz (.int e)]) :=
  propext ⟨fun ⟨_, _, _, e, h⟩ => by cases e; exact ⟨h.1, h.2.2⟩, fun h => ⟨_, _, _, rfl, h.1, .none, h.2⟩⟩
theorem q_law_is_put_l {ps : List Int} {r e : Int} {Q : Slot → List Slot → Prop} : p_law_is_put [.fz (.list (ps.map .int)), .fz (.int r), .fz (.int e)] Q = (Rm r ∧ Ln ps ∧ Q (.fz (.bool (isPutF r.toNat e ps))) [.fz (.list (ps.map .int)), .fz (.int r), .fz (.int e)]) :=
  propext ⟨fun ⟨_, _, _, e, h⟩ => by cases e; rw [isPutD_l] at h; exact ⟨h.1, h.2.1.len, h.2.2⟩, fun h => ⟨_, _, _, rfl, h.1, .nums _ h.2.1, by rw [isPutD_l]; exact h.2.2⟩⟩
theorem Rm.rep {r : Int} (h : Rm r) : repOk (0 + 1) r := ⟨by have := h.1; omega, by have := h.2; omega, by rw [sizeLine_eq]; have := h.2; omega⟩
theorem Rm.rep' {r : Int} (h : Rm r) : repOk (0 + 1) (r - 1) := ⟨by have := h.1; omega, by have := h.2; omega, by rw [sizeLine_eq]; have := h.2; omega⟩
theorem Rm.rg {r : Int} (h : Rm r) : rgO r := ⟨by have := h.1; omega, by have := h.2; omega⟩
theorem Rm.mul {r x : Int} (h : Rm r) : mulOk r x := mulOk_l (by have := h.1; omega) (by have := h.2; omega)
end D07
namespace D07
open PySem PySem.Spec L2 DL
theorem slack_b {m w : Int} (h : Wd w) : 0 < slackF m w + 1 ∧ slackF m w + 1 ≤ 9 := by
  unfold slackF
  have h1 := h.1
  have h2 := h.2
  split
  · have := Int.emod_nonneg (m - 1) (b := w) (by omega)
    have := Int.emod_lt_of_pos (m - 1) h1
    omega
  · omega
end D07
namespace D07
open PySem PySem.Spec L2 DL
theorem go_set {l : List Int} {i n : Nat} (hl : l.length = i) (hi : i < n) (x : Int) : (l ++ List.replicate (n - i) 0).set i x = (l ++ [x]) ++ List.replicate (n - (i + 1)) 0 := by
  subst hl
  have e : n - l.length = (n - (l.length + 1)) + 1 := by omega
  rw [e, List.replicate_succ, List.set_append_right _ _ (Nat.le_refl _)]
  simp
theorem go_get {l r : List Int} {i : Nat} (hl : l.length = i) (x : Int) : ((l ++ [x]) ++ r).getD i 0 = x := by
  subst hl
  simp [List.getD_eq_getElem?_getD]
end D07
namespace D07
open PySem PySem.Spec L2 DL
theorem Rm.ln {r m : Int} (h : Rm r) : Ln (List.replicate r.toNat m) := by
  have := h.1; have := h.2
  unfold Ln; rw [List.length_replicate]; omega
theorem Rm.ne {r m : Int} (h : Rm r) : List.replicate r.toNat m ≠ [] := by
  have := h.1
  intro z
  have := congrArg List.length z
  rw [List.length_replicate] at this
  simp at this
  omega
theorem isPut_len {r : Nat} {e : Int} {ps : List Int} (h : isPutF r e ps = true) : ps.length = r := by
  unfold isPutF at h
  simp at h
  exact h.1.1
theorem isPut_pos {r : Nat} {e : Int} {ps : List Int} (h : isPutF r e ps = true) : ∀ p ∈ ps, 0 ≤ p := by
  unfold isPutF at h
  simp at h
  exact h.1.2
end D07
namespace D07
open PySem PySem.Spec L2 DL
theorem putArg_of {d : D} {ps : List Int} (h : d = .list (ps.map .int)) (hl : Ln ps) : PutArg d := by subst h; exact .nums ps hl
theorem addAt_len (l : List Int) (i v : Int) : (addAt l i v).length = l.length := by unfold addAt; simp
theorem worst_len {m r w e : Int} (hr : Rm r) : (worstF m r w e).length = r.toNat := by
  have := hr.1
  unfold worstF
  split
  · simp; omega
  · rw [addAt_len, goF_len]
theorem best_len {m r w e : Int} : (bestF m r w e).length = r.toNat := by
  unfold bestF
  rw [addAt_len, goF_len]
end D07

set_option Elab.async false
set_option linter.all false
set_option maxRecDepth 100000
namespace D07
open PySem PySem.Spec L2 DL
theorem rows_more {n w : Int} (hn : 0 ≤ n) (hw : Wd w) : rowsF n w - 1 = moreF n w := by
  unfold rowsF moreF
  have h1 := hw.1
  by_cases h : 0 < n
  · rw [if_pos h]
    have e : (n + w - 1) / w = (n - 1) / w + 1 := by
      rw [show n + w - 1 = (n - 1) + 1 * w by omega, Int.add_mul_ediv_right _ _ (by omega)]
    have := Int.ediv_nonneg (a := n - 1) (b := w) (by omega) (by omega)
    rw [e]
    split <;> omega
  · have h0 : n = 0 := by omega
    subst h0
    rw [if_neg h, if_neg (by
      rw [show (0 : Int) + w - 1 = w - 1 by omega, Int.ediv_eq_zero_of_lt (by omega) (by omega)]
      omega)]
    omega
theorem sum_rep (n : Nat) (x : Int) : (List.replicate n x).sum = n * x := by
  induction n with
  | zero => simp
  | succ n ih => rw [List.replicate_succ, List.sum_cons, ih]; rw [Int.natCast_succ, Int.add_mul]; omega
theorem spill_rep {r : Nat} {m w : Int} (hm : 0 ≤ m) (hw : Wd w) : spillF (List.replicate r m) w = r * moreF m w := by
  unfold spillF
  rw [List.map_replicate, sum_rep, rows_more hm hw]
theorem behind_rep {m w : Int} (hw : Wd w) : ∀ (ps : List Int), (∀ p ∈ ps, 0 ≤ m + p) → behindF (List.replicate ps.length m) w ps = lspillF (ps.map fun p => m + p) w
  | [], _ => rfl
  | p :: ps, h => by
    have ih := behind_rep hw ps fun q hq => h q (List.mem_cons_of_mem _ hq)
    unfold behindF lspillF spillF at *
    simp only [List.length_cons, List.replicate_succ, List.zip_cons_cons, List.map_cons, List.sum_cons]
    rw [ih, rows_more (h p List.mem_cons_self) hw]
theorem slack_free {m w : Int} (hm : 0 ≤ m) (hw : Wd w) : freeF m w = slackF m w := by
  unfold freeF slackF
  have h1 := hw.1
  have h2 := rows_more hm hw
  have h3 : rowsF m w = moreF m w + 1 := by omega
  rw [h3]
  unfold moreF
  split
  · have := Int.mul_ediv_add_emod (m - 1) w
    rw [Int.mul_add]; omega
  · have : m = 0 := by omega
    subst this; simp
theorem need_slack {m w : Int} (hm : 0 ≤ m) (hw : Wd w) : needF m w = slackF m w + 1 := by
  have := slack_free hm hw
  unfold needF freeF at *; omega
theorem wd_c {w : Int} (h : Wd w) : w = 1 ∨ w = 2 ∨ w = 3 ∨ w = 4 ∨ w = 5 ∨ w = 6 ∨ w = 7 ∨ w = 8 := by
  have := h.1; have := h.2; omega
theorem more_in {m w x : Int} (hm : 0 ≤ m) (hw : Wd w) (h0 : 0 ≤ x) (h1 : x ≤ slackF m w) : moreF (m + x) w = moreF m w := by
  unfold slackF at h1
  unfold moreF
  rcases wd_c hw with rfl | rfl | rfl | rfl | rfl | rfl | rfl | rfl <;> split at h1 <;> (repeat' split) <;> omega
theorem more_out {m w x : Int} (hm : 0 < m) (hw : Wd w) (h0 : 0 ≤ x) : moreF (m + (slackF m w + 1 + x)) w = moreF m w + 1 + x / w := by
  unfold slackF moreF
  rcases wd_c hw with rfl | rfl | rfl | rfl | rfl | rfl | rfl | rfl <;> (repeat' split) <;> omega
theorem more_over {m w x : Int} (hm : 0 ≤ m) (hw : Wd w) (h0 : 0 < x) : moreF (m + (slackF m w + x)) w = moreF m w + (x + w - 1) / w := by
  unfold slackF moreF
  rcases wd_c hw with rfl | rfl | rfl | rfl | rfl | rfl | rfl | rfl <;> (repeat' split) <;> omega
theorem more_next {m w : Int} (hm : 0 ≤ m) (hw : Wd w) : moreF (m + (slackF m w + 1)) w = moreF m w + 1 := by
  unfold slackF moreF
  rcases wd_c hw with rfl | rfl | rfl | rfl | rfl | rfl | rfl | rfl <;> (repeat' split) <;> omega
theorem raw_rep {m w : Int} (hm : 0 < m) : ∀ r : Nat, rawAt w 0 (List.replicate r m) = (List.range r).map fun i => (needF m w, ((i : Nat) : Int))
  | 0 => rfl
  | r + 1 => by
    rw [List.replicate_succ', rawAt_snoc, raw_rep hm r, if_pos hm, List.range_succ, List.map_append]
    simp
theorem raw_zero {w : Int} : ∀ r : Nat, rawAt w 0 (List.replicate r 0) = []
  | 0 => rfl
  | r + 1 => by
    rw [List.replicate_succ', rawAt_snoc, raw_zero r]
    simp
theorem needs_rep {m w : Int} (hm : 0 < m) (r : Nat) : needsF (List.replicate r m) w = (List.range r).map fun i => (needF m w, ((i : Nat) : Int)) := by
  unfold needsF
  rw [raw_rep hm]
  refine (srtP_of (List.Perm.refl _) ?_).symm
  rw [List.pairwise_map]
  refine List.Pairwise.imp (fun {a b} (h : a < b) => ?_) List.pairwise_lt_range
  unfold lexP
  simp
  omega
theorem needs_zero {w : Int} (r : Nat) : needsF (List.replicate r 0) w = [] := by
  unfold needsF
  rw [raw_zero]; unfold srtP; simp
/-- how far the greedy way has come behind k rooms -/
theorem greedy_rep {f e : Int} (hf : 0 < f) (he : 0 ≤ e) (r : Nat) : ∀ k : Nat, k ≤ r →
    ((List.range k).map fun i => (f, ((i : Nat) : Int))).foldl gStep (List.replicate r 0, e) =
      (List.replicate (min k (e / f).toNat) f ++ List.replicate (r - min k (e / f).toNat) 0, e - (min k (e / f).toNat : Nat) * f)
  | 0, _ => by simp
  | k + 1, hk => by
    have hq : 0 ≤ e / f := Int.ediv_nonneg he (Int.le_of_lt hf)
    have hs := Int.mul_ediv_add_emod e f
    have hm0 := Int.emod_nonneg e (b := f) (by omega)
    have hm1 := Int.emod_lt_of_pos e hf
    rw [List.range_succ, List.map_append, List.foldl_append, greedy_rep hf he r k (by omega)]
    simp only [List.map_cons, List.map_nil, List.foldl_cons, List.foldl_nil]
    generalize hqq : (e / f).toNat = q
    have hqe : e / f = q := by omega
    rw [hqe] at hs
    unfold gStep
    dsimp only
    by_cases h : k < q
    · have e1 : min k q = k := by omega
      have e2 : min (k + 1) q = k + 1 := by omega
      have hle : f ≤ e - (k : Nat) * f := by
        have : ((k : Int) + 1) * f ≤ q * f := Int.mul_le_mul_of_nonneg_right (by omega) (by omega)
        rw [Int.add_mul] at this
        rw [Int.mul_comm f q] at hs
        omega
      rw [e1, e2, if_pos hle, Int.toNat_natCast, go_set (by simp) (by omega)]
      rw [List.replicate_succ', Int.natCast_succ, Int.add_mul]
      congr 1
      omega
    · have e1 : min k q = q := by omega
      have e2 : min (k + 1) q = q := by omega
      have hle : ¬ f ≤ e - (q : Nat) * f := by
        rw [Int.mul_comm f q] at hs
        omega
      rw [e1, e2, if_neg hle]
theorem all_rep {n : Nat} {x : Int} {p : Int → Bool} (h : n = 0 ∨ p x = true) : (List.replicate n x).all p = true := by
  rw [List.all_eq_true]
  intro y hy
  have := List.mem_replicate.mp hy
  rcases h with h | h
  · omega
  · rw [this.2]; exact h
/-- the greatest put: is one, and what it makes -/
theorem gPut_ok {m w e : Int} {r : Nat} (hm : 0 ≤ m) (hw : Wd w) (hr : 0 < r) (he : 0 ≤ e) :
    isPutF r e (gPut (List.replicate r m) w e) = true ∧ behindF (List.replicate r m) w (gPut (List.replicate r m) w e) = r * moreF m w + greatF m r w e := by
  obtain ⟨n, rfl⟩ : ∃ n, r = n + 1 := ⟨r - 1, by omega⟩
  have hsb := slack_b (m := m) hw
  -- what it is
  have key : ∃ (c : Int) (j k : Nat), gPut (List.replicate (n + 1) m) w e = c :: (List.replicate j (slackF m w + 1) ++ List.replicate k 0) ∧ j + k = n ∧ 0 ≤ c ∧ c + j * (slackF m w + 1) = e ∧ moreF (m + c) w + j * (moreF m w + 1) + k * moreF m w = (n + 1 : Nat) * moreF m w + greatF m (n + 1 : Nat) w e := by
    unfold gPut
    rw [List.length_replicate]
    by_cases h0 : m = 0
    · subst h0
      rw [needs_zero]
      refine ⟨e, 0, n, ?_, by omega, he, by simp, ?_⟩
      · unfold greedyF restF addAt
        simp [List.replicate_succ]
      · unfold greatF
        rw [if_pos rfl]
        have : moreF 0 w = 0 := rfl
        rw [this, Int.zero_add]
        unfold moreF
        split <;> simp
    · have hm' : 0 < m := by omega
      have hn := need_slack hm hw
      rw [needs_rep hm']
      rw [hn]
      have hf : 0 < slackF m w + 1 := hsb.1
      have hrest : restF ((List.range (n + 1)).map fun i => (slackF m w + 1, ((i : Nat) : Int))) = 0 := by
        rw [List.range_succ_eq_map]; rfl
      rw [hrest]
      unfold greedyF
      rw [greedy_rep hf he (n + 1) (n + 1) (Nat.le_refl _)]
      have hq : 0 ≤ e / (slackF m w + 1) := Int.ediv_nonneg he (Int.le_of_lt hf)
      have hs := Int.mul_ediv_add_emod e (slackF m w + 1)
      have hm0 := Int.emod_nonneg e (b := slackF m w + 1) (by omega)
      have hm1 := Int.emod_lt_of_pos e hf
      have hout := fun x (hx : 0 ≤ x) => more_out (x := x) hm' hw hx
      have hin := fun x (h0 : 0 ≤ x) h1 => more_in (x := x) hm hw h0 h1
      have hdz : ∀ x : Int, 0 ≤ x → x ≤ slackF m w → x / w = 0 := fun x h0 h1 => by
        have : slackF m w < w := by
          unfold slackF; rw [if_pos hm']
          have := Int.emod_nonneg (m - 1) (b := w) (by have := hw.1; omega)
          omega
        exact Int.ediv_eq_zero_of_lt h0 (by omega)
      unfold greatF
      rw [if_neg h0]
      generalize slackF m w = s at *
      generalize moreF m w = a at *
      generalize hqq : (e / (s + 1)).toNat = q
      have hqe : e / (s + 1) = q := by omega
      rw [hqe] at hs ⊢
      by_cases hle : e ≤ ((n + 1 : Nat) : Int) * (s + 1)
      · rw [if_pos hle]
        have hqn : q ≤ n + 1 := by
          by_cases hc : q ≤ n + 1
          · exact hc
          · exfalso
            have : ((n + 1 : Nat) + 1 : Int) * (s + 1) ≤ q * (s + 1) := Int.mul_le_mul_of_nonneg_right (by omega) (by omega)
            rw [Int.add_mul] at this
            rw [Int.mul_comm] at hs
            omega
        have e1 : min (n + 1) q = q := by omega
        rw [e1]
        have hl : e - (q : Int) * (s + 1) = e % (s + 1) := by rw [Int.mul_comm]; omega
        rw [hl]
        cases q with
        | zero =>
          refine ⟨e % (s + 1), 0, n, ?_, by omega, hm0, by simpa using hs, ?_⟩
          · simp [addAt, List.replicate_succ]
          · rw [hin _ hm0 (by omega)]
            simp only [Int.natCast_succ, Int.add_mul]
            simp
            omega
        | succ q =>
          refine ⟨s + 1 + e % (s + 1), q, n - q, ?_, by omega, by omega, ?_, ?_⟩
          · simp [addAt, List.replicate_succ]
          · rw [Int.natCast_succ, Int.mul_add, Int.mul_one, Int.mul_comm] at hs
            omega
          · rw [hout _ hm0, hdz _ hm0 (by omega)]
            have : ((n - q : Nat) : Int) = n - q := by omega
            rw [this]
            simp only [Int.natCast_succ, Int.add_mul, Int.sub_mul, Int.mul_add]
            omega
      · rw [if_neg hle]
        have hqn : n + 1 ≤ q := by
          by_cases hc : n + 1 ≤ q
          · exact hc
          · exfalso
            have : (q + 1 : Int) * (s + 1) ≤ ((n + 1 : Nat) : Int) * (s + 1) := Int.mul_le_mul_of_nonneg_right (by omega) (by omega)
            rw [Int.add_mul] at this
            rw [Int.mul_comm] at hs
            omega
        have e1 : min (n + 1) q = n + 1 := by omega
        rw [e1, Nat.sub_self]
        refine ⟨s + 1 + (e - ((n + 1 : Nat) : Int) * (s + 1)), n, 0, ?_, by omega, by omega, ?_, ?_⟩
        · simp [addAt, List.replicate_succ]
        · rw [Int.natCast_succ, Int.add_mul]; omega
        · rw [hout _ (by omega)]
          simp only [Int.natCast_succ, Int.add_mul, Int.mul_add]
          simp
          omega
  obtain ⟨c, j, k, h1, h2, h3, h4, h5⟩ := key
  have hlen : (c :: (List.replicate j (slackF m w + 1) ++ List.replicate k 0)).length = n + 1 := by simp; omega
  rw [h1]
  constructor
  · unfold isPutF
    rw [hlen]
    have : (c :: (List.replicate j (slackF m w + 1) ++ List.replicate k 0)).all (fun p => decide (0 ≤ p)) = true := by
      rw [List.all_cons, List.all_append, all_rep (.inr (by simpa using (by omega : 0 ≤ slackF m w + 1))), all_rep (.inr rfl)]
      simpa using h3
    rw [this]
    simp [sum_rep]
    omega
  · have hb := behind_rep (m := m) hw (c :: (List.replicate j (slackF m w + 1) ++ List.replicate k 0)) (fun p hp => by
      rcases List.mem_cons.mp hp with h | h
      · omega
      · rcases List.mem_append.mp h with h | h
        · have := (List.mem_replicate.mp h).2; omega
        · have := (List.mem_replicate.mp h).2; omega)
    rw [hlen] at hb
    rw [hb]
    unfold lspillF
    have e1 : moreF (m + (slackF m w + 1)) w = moreF m w + 1 := more_next hm hw
    simp only [List.map_cons, List.map_append, List.map_replicate, List.sum_cons, List.sum_append, sum_rep, e1, Int.add_zero]
    omega
/-- the least put, room by room -/
theorem lGo {F w e : Int} {m : Int} (hF : freeF m w = F) (h0 : 0 ≤ F) (he : 0 ≤ e) : ∀ k : Nat, ∃ (l : List Int) (x : Int), (List.replicate k m).foldl (lStep w) ([], e) = (l, x) ∧ l.length = k ∧ (∀ y ∈ l, 0 ≤ y ∧ y ≤ F) ∧ l.sum + x = e ∧ 0 ≤ x ∧ ((l = List.replicate k F ∧ x = e - k * F) ∨ (x = 0 ∧ e ≤ k * F))
  | 0 => ⟨[], e, rfl, rfl, fun _ h => (nomatch h), by simp, he, .inl ⟨rfl, by simp⟩⟩
  | k + 1 => by
    obtain ⟨l, x, h1, h2, h3, h4, h5, h6⟩ := lGo hF h0 he k
    rw [List.replicate_succ', List.foldl_append, h1]
    simp only [List.foldl_cons, List.foldl_nil, lStep, hF]
    refine ⟨_, _, rfl, by simp [h2], ?_, ?_, ?_, ?_⟩
    · intro y hy
      rcases List.mem_append.mp hy with h | h
      · exact h3 y h
      · rw [List.mem_singleton.mp h]
        split <;> omega
    · simp only [List.sum_append, List.sum_cons, List.sum_nil]
      split <;> omega
    · split <;> omega
    · rcases h6 with ⟨h6, h7⟩ | ⟨h6, h7⟩
      · by_cases hx : F ≤ x
        · left
          have : (if F < x then F else x) = F := by split <;> omega
          rw [this]
          refine ⟨by rw [List.replicate_succ', h6], ?_⟩
          rw [Int.natCast_succ, Int.add_mul]; omega
        · right
          rw [if_neg (by omega)]
          refine ⟨by omega, ?_⟩
          rw [Int.natCast_succ, Int.add_mul]; omega
      · right
        rw [if_neg (by omega)]
        refine ⟨by omega, ?_⟩
        rw [Int.natCast_succ, Int.add_mul]; omega
theorem lspill_in {m w : Int} (hm : 0 ≤ m) (hw : Wd w) : ∀ l : List Int, (∀ y ∈ l, 0 ≤ y ∧ y ≤ slackF m w) → lspillF (l.map fun p => m + p) w = l.length * moreF m w
  | [], _ => by simp [lspillF]
  | y :: l, h => by
    have ih := lspill_in hm hw l fun z hz => h z (List.mem_cons_of_mem _ hz)
    have := h y List.mem_cons_self
    unfold lspillF at *
    simp only [List.map_cons, List.sum_cons, List.length_cons]
    rw [ih, more_in hm hw this.1 this.2, Int.natCast_succ, Int.add_mul]
    omega
theorem lPut_ok {m w e : Int} {r : Nat} (hm : 0 ≤ m) (hw : Wd w) (hr : 0 < r) (he : 0 ≤ e) :
    isPutF r e (lPut (List.replicate r m) w e) = true ∧ behindF (List.replicate r m) w (lPut (List.replicate r m) w e) = r * moreF m w + leastF m r w e := by
  obtain ⟨n, rfl⟩ : ∃ n, r = n + 1 := ⟨r - 1, by omega⟩
  have hF := slack_free hm hw
  have h0 : 0 ≤ slackF m w := by have := slack_b (m := m) hw; omega
  obtain ⟨l, x, h1, h2, h3, h4, h5, h6⟩ := lGo hF h0 he (n + 1)
  unfold lPut
  rw [h1]
  obtain ⟨y, l', rfl⟩ : ∃ y l', l = y :: l' := by
    cases l with
    | nil => simp at h2
    | cons y l' => exact ⟨y, l', rfl⟩
  have ha : addAt (y :: l') 0 x = (y + x) :: l' := by simp [addAt]
  dsimp only
  rw [ha]
  have hlen : ((y + x) :: l').length = n + 1 := by simpa using h2
  have hy := h3 y List.mem_cons_self
  have hl' : ∀ z ∈ l', 0 ≤ z ∧ z ≤ slackF m w := fun z hz => h3 z (List.mem_cons_of_mem _ hz)
  constructor
  · unfold isPutF
    rw [hlen]
    have : ((y + x) :: l').all (fun p => decide (0 ≤ p)) = true := by
      rw [List.all_eq_true]
      intro z hz
      rcases List.mem_cons.mp hz with h | h
      · simp; omega
      · simpa using (hl' z h).1
    have hs : ((y + x) :: l').sum = e := by simp only [List.sum_cons] at h4 ⊢; omega
    rw [this, hs]
    simp
  · have hb := behind_rep (m := m) hw ((y + x) :: l') (fun p hp => by
      rcases List.mem_cons.mp hp with h | h
      · omega
      · have := hl' p h; omega)
    rw [hlen] at hb
    rw [hb]
    have e2 := lspill_in hm hw l' hl'
    have e3 : lspillF (((y + x) :: l').map fun p => m + p) w = moreF (m + (y + x)) w + lspillF (l'.map fun p => m + p) w := by
      unfold lspillF; simp
    rw [e3, e2]
    have hn : l'.length = n := by simpa using h2
    rw [hn]
    unfold leastF
    rcases h6 with ⟨h6, h7⟩ | ⟨h6, h7⟩
    · have hyF : y = slackF m w := by rw [List.replicate_succ] at h6; exact (List.cons.inj h6).1
      by_cases hx : 0 < x
      · rw [if_pos (by omega), hyF, more_over hm hw hx, ← h7, Int.natCast_succ, Int.add_mul]
        omega
      · rw [if_neg (by omega), more_in hm hw (by omega) (by omega), Int.natCast_succ, Int.add_mul]
        omega
    · rw [if_neg (by omega), more_in hm hw (by omega) (by omega), Int.natCast_succ, Int.add_mul]
      omega
theorem few_ok {m w k : Int} {r : Nat} (hr : 0 < r) (hm : 0 ≤ m) (hw : Wd w) (hk : 0 ≤ k) : fewF (List.replicate r m) w (r * moreF m w + k) = fewLF m r w k := by
  unfold fewF fewLF
  dsimp only
  rw [spill_rep hm hw]
  have e1 : (if (r : Int) * moreF m w + k - r * moreF m w > 0 then (r : Int) * moreF m w + k - r * moreF m w else 0) = k := by split <;> omega
  rw [e1]
  by_cases h1 : k = 0
  · rw [if_pos h1, if_pos (show k ≤ 0 by omega)]
  · rw [if_neg h1, if_neg (show ¬ k ≤ 0 by omega)]
    by_cases h2 : m = 0
    · subst h2
      rw [needs_zero, if_pos (show ([] : List (Int × Int)).map (fun x => x.1) = [] from rfl), if_pos rfl]
    · rw [if_neg h2]
      have hn := need_slack hm hw
      rw [needs_rep (by omega), hn, List.map_map]
      have e2 : (List.range r).map ((fun p : Int × Int => p.1) ∘ fun i => (slackF m w + 1, ((i : Nat) : Int))) = List.replicate r (slackF m w + 1) := by
        rw [List.eq_replicate_iff]; simp
      rw [e2]
      have h3 : r ≠ 0 := by omega
      rw [if_neg (show ¬ List.replicate r (slackF m w + 1) = [] by simpa using h3), List.take_replicate, sum_rep, List.length_replicate]
      by_cases h4 : k ≤ r
      · rw [if_pos h4, if_neg (show ¬ k - (r : Int) > 0 by omega), Nat.min_eq_left (by omega)]
        have : ((k.toNat : Nat) : Int) = k := by omega
        rw [this]; omega
      · rw [if_neg h4, if_pos (show k - (r : Int) > 0 by omega), Nat.min_eq_right (by omega), Int.mul_comm w]
theorem most_ok {m w k : Int} {r : Nat} (hm : 0 ≤ m) (hw : Wd w) (hk : 0 ≤ k) : mostF (List.replicate r m) w (r * moreF m w + k) = .int (r * slackF m w + k * w) := by
  unfold mostF
  rw [spill_rep hm hw, if_neg (by omega), List.map_replicate, sum_rep, slack_free hm hw]
  rw [show (r : Int) * moreF m w + k - r * moreF m w = k by omega, Int.add_comm]
theorem most_low {m w k : Int} {r : Nat} (hm : 0 ≤ m) (hw : Wd w) (hk : k < r * moreF m w) : mostF (List.replicate r m) w k = .none := by
  unfold mostF
  rw [spill_rep hm hw, if_pos (by omega)]
theorem few_low {m w k : Int} {r : Nat} (hm : 0 ≤ m) (hw : Wd w) (hk : k < r * moreF m w) : fewF (List.replicate r m) w k = 0 := by
  unfold fewF
  dsimp only
  rw [spill_rep hm hw, if_neg (show ¬ k - (r : Int) * moreF m w > 0 by omega), if_pos rfl]
/-- the fewest make so many rows, one less does not -/
theorem great_few {m w k r : Int} (hw : Wd w) (hr : Rm r) (hk : 0 ≤ k) : k ≤ greatF m r w (fewLF m r w k) := by
  have hsb := slack_b (m := m) hw
  have h1 := hw.1
  unfold fewLF
  by_cases h0 : k ≤ 0
  · rw [if_pos h0]
    have : k = 0 := by omega
    subst this
    unfold greatF
    have hp : 0 ≤ r * (slackF m w + 1) := Int.mul_nonneg (Int.le_of_lt hr.1) (by omega)
    repeat' split
    all_goals first | omega | simp
  · rw [if_neg h0]
    unfold greatF
    by_cases hm : m = 0
    · rw [if_pos hm, if_pos hm]
      have := Int.mul_pos (show 0 < k by omega) h1
      rw [if_pos (by omega), Int.add_sub_cancel, Int.mul_ediv_cancel _ (by omega)]
      exact Int.le_refl _
    · rw [if_neg hm, if_neg hm]
      generalize slackF m w + 1 = f at *
      by_cases hkr : k ≤ r
      · rw [if_pos hkr, if_pos (Int.mul_le_mul_of_nonneg_right hkr (by omega)), Int.mul_ediv_cancel _ (by omega)]
        exact Int.le_refl _
      · have := Int.mul_pos (show 0 < k - r by omega) h1
        rw [if_neg hkr, if_neg (by omega)]
        rw [show r * f + (k - r) * w - r * f = (k - r) * w by omega, Int.mul_ediv_cancel _ (by omega)]
        omega
theorem great_few1 {m w k r : Int} (hw : Wd w) (hr : Rm r) (hk : 0 ≤ k) (hp : 0 < fewLF m r w k) : greatF m r w (fewLF m r w k - 1) < k := by
  have hsb := slack_b (m := m) hw
  have h1 := hw.1
  have dv : ∀ a b : Int, 0 < b → (a * b - 1) / b = a - 1 := fun a b hb => by
    rw [show a * b - 1 = (b - 1) + (a - 1) * b by rw [Int.sub_mul]; omega, Int.add_mul_ediv_right _ _ (by omega), Int.ediv_eq_zero_of_lt (by omega) (by omega)]
    omega
  unfold fewLF at hp ⊢
  by_cases h0 : k ≤ 0
  · rw [if_pos h0] at hp; omega
  · rw [if_neg h0] at hp ⊢
    unfold greatF
    by_cases hm : m = 0
    · rw [if_pos hm, if_pos hm]
      have := Int.mul_pos (show 0 < k by omega) h1
      rw [if_pos (by omega), show k * w + 1 - 1 - 1 = k * w - 1 by omega, dv _ _ h1]
      omega
    · rw [if_neg hm, if_neg hm]
      generalize slackF m w + 1 = f at *
      by_cases hkr : k ≤ r
      · have hle := Int.mul_le_mul_of_nonneg_right (c := f) hkr (by omega)
        rw [if_pos hkr, if_pos (by omega), dv _ _ (by omega)]
        omega
      · have := Int.mul_pos (show 0 < k - r by omega) h1
        rw [if_neg hkr]
        split
        · have : r * f + (k - r) * w - 1 = r * f := by omega
          rw [this, Int.mul_ediv_cancel _ (by omega)]
          omega
        · rw [show r * f + (k - r) * w - 1 - r * f = (k - r) * w - 1 by omega, dv _ _ h1]
          omega
end D07

set_option Elab.async false
set_option linter.all false
set_option maxRecDepth 100000
set_option maxHeartbeats 4000000
namespace K07
open PySem PySem.Spec L2 DL
open PyProof.Rows hiding St
def topS (i : Nat) : Stmt := PySem.Challenge.pw_tailrooms_k07_whole_rooms_with_as_many_k.main.body.getD i (.Pass ⟨0, 0, 0, 0⟩)
abbrev s_is_whole : Stmt := topS 1
abbrev N_is_whole : List Str := ["thing"]
theorem sc_is_whole : FnScope N_is_whole ["thing"] (defScope s_is_whole) := ⟨rfl, rfl, rfl, by decide +kernel, rfl, by decide +kernel, by decide +kernel⟩
abbrev s_rows_for : Stmt := topS 3
abbrev N_rows_for : List Str := ["many", "wide"]
theorem sc_rows_for : FnScope N_rows_for ["many", "wide"] (defScope s_rows_for) := ⟨rfl, rfl, rfl, by decide +kernel, rfl, by decide +kernel, by decide +kernel⟩
abbrev s_spill : Stmt := topS 5
abbrev N_spill : List Str := ["sizes", "wide", "many"]
theorem sc_spill : FnScope N_spill ["sizes", "wide"] (defScope s_spill) := ⟨rfl, rfl, rfl, by decide +kernel, rfl, by decide +kernel, by decide +kernel⟩
abbrev s_longest : Stmt := topS 6
abbrev N_longest : List Str := ["sizes", "wide", "rows", "most", "many"]
theorem sc_longest : FnScope N_longest ["sizes", "wide"] (defScope s_longest) := ⟨rfl, rfl, rfl, by decide +kernel, rfl, by decide +kernel, by decide +kernel⟩
abbrev s_needs_of : Stmt := topS 8
abbrev N_needs_of : List Str := ["sizes", "wide", "needs", "room"]
theorem sc_needs_of : FnScope N_needs_of ["sizes", "wide"] (defScope s_needs_of) := ⟨rfl, rfl, rfl, by decide +kernel, rfl, by decide +kernel, by decide +kernel⟩
abbrev s_free_of : Stmt := topS 9
abbrev N_free_of : List Str := ["many", "wide"]
theorem sc_free_of : FnScope N_free_of ["many", "wide"] (defScope s_free_of) := ⟨rfl, rfl, rfl, by decide +kernel, rfl, by decide +kernel, by decide +kernel⟩
abbrev s_spill_behind : Stmt := topS 10
abbrev N_spill_behind : List Str := ["sizes", "wide", "put", "many", "more"]
theorem sc_spill_behind : FnScope N_spill_behind ["sizes", "wide", "put"] (defScope s_spill_behind) := ⟨rfl, rfl, rfl, by decide +kernel, rfl, by decide +kernel, by decide +kernel⟩
abbrev s_greatest_spill : Stmt := topS 11
abbrev N_greatest_spill : List Str := ["sizes", "wide", "more", "put", "needs", "left", "need", "room", "rest"]
theorem sc_greatest_spill : FnScope N_greatest_spill ["sizes", "wide", "more"] (defScope s_greatest_spill) := ⟨rfl, rfl, rfl, by decide +kernel, rfl, by decide +kernel, by decide +kernel⟩
abbrev s_least_spill : Stmt := topS 12
abbrev N_least_spill : List Str := ["sizes", "wide", "more", "put", "left", "many"]
theorem sc_least_spill : FnScope N_least_spill ["sizes", "wide", "more"] (defScope s_least_spill) := ⟨rfl, rfl, rfl, by decide +kernel, rfl, by decide +kernel, by decide +kernel⟩
abbrev s_is_put : Stmt := topS 13
abbrev N_is_put : List Str := ["sizes", "more", "thing", "one"]
theorem sc_is_put : FnScope N_is_put ["sizes", "more", "thing"] (defScope s_is_put) := ⟨rfl, rfl, rfl, by decide +kernel, rfl, by decide +kernel, by decide +kernel⟩
abbrev s_is_greatest : Stmt := topS 14
abbrev N_is_greatest : List Str := ["sizes", "wide", "more", "thing"]
theorem sc_is_greatest : FnScope N_is_greatest ["sizes", "wide", "more", "thing"] (defScope s_is_greatest) := ⟨rfl, rfl, rfl, by decide +kernel, rfl, by decide +kernel, by decide +kernel⟩
abbrev s_is_least : Stmt := topS 15
abbrev N_is_least : List Str := ["sizes", "wide", "more", "thing"]
theorem sc_is_least : FnScope N_is_least ["sizes", "wide", "more", "thing"] (defScope s_is_least) := ⟨rfl, rfl, rfl, by decide +kernel, rfl, by decide +kernel, by decide +kernel⟩
abbrev s_fewest_for : Stmt := topS 16
abbrev N_fewest_for : List Str := ["sizes", "wide", "limit", "gap", "needs", "need", "room"]
theorem sc_fewest_for : FnScope N_fewest_for ["sizes", "wide", "limit"] (defScope s_fewest_for) := ⟨rfl, rfl, rfl, by decide +kernel, rfl, by decide +kernel, by decide +kernel⟩
abbrev s_most_for : Stmt := topS 17
abbrev N_most_for : List Str := ["sizes", "wide", "limit", "gap", "many"]
theorem sc_most_for : FnScope N_most_for ["sizes", "wide", "limit"] (defScope s_most_for) := ⟨rfl, rfl, rfl, by decide +kernel, rfl, by decide +kernel, by decide +kernel⟩
abbrev s_law_bag : Stmt := topS 19
abbrev N_law_bag : List Str := ["script", "cell"]
theorem sc_law_bag : FnScope N_law_bag ["script"] (defScope s_law_bag) := ⟨rfl, rfl, rfl, by decide +kernel, rfl, by decide +kernel, by decide +kernel⟩
abbrev s_law_take : Stmt := topS 20
abbrev N_law_take : List Str := ["bag", "many", "cell", "stirred", "value", "begin", "second"]
theorem sc_law_take : FnScope N_law_take ["bag", "many"] (defScope s_law_take) := ⟨rfl, rfl, rfl, by decide +kernel, rfl, by decide +kernel, by decide +kernel⟩
abbrev s_law_some : Stmt := topS 21
abbrev N_law_some : List Str := ["bag", "things"]
theorem sc_law_some : FnScope N_law_some ["bag", "things"] (defScope s_law_some) := ⟨rfl, rfl, rfl, by decide +kernel, rfl, by decide +kernel, by decide +kernel⟩
abbrev s_law_kind : Stmt := topS 22
abbrev N_law_kind : List Str := ["thing", "got"]
theorem sc_law_kind : FnScope N_law_kind ["thing"] (defScope s_law_kind) := ⟨rfl, rfl, rfl, by decide +kernel, rfl, by decide +kernel, by decide +kernel⟩
abbrev s_law_alike : Stmt := topS 23
abbrev N_law_alike : List Str := ["got", "due", "pairs", "at", "one", "other", "name"]
theorem sc_law_alike : FnScope N_law_alike ["got", "due"] (defScope s_law_alike) := ⟨rfl, rfl, rfl, by decide +kernel, rfl, by decide +kernel, by decide +kernel⟩
abbrev s_law_more_rows : Stmt := topS 24
abbrev N_law_more_rows : List Str := ["many", "wide"]
theorem sc_law_more_rows : FnScope N_law_more_rows ["many", "wide"] (defScope s_law_more_rows) := ⟨rfl, rfl, rfl, by decide +kernel, rfl, by decide +kernel, by decide +kernel⟩
abbrev s_law_spill : Stmt := topS 25
abbrev N_law_spill : List Str := ["lots", "wide", "many"]
theorem sc_law_spill : FnScope N_law_spill ["lots", "wide"] (defScope s_law_spill) := ⟨rfl, rfl, rfl, by decide +kernel, rfl, by decide +kernel, by decide +kernel⟩
abbrev s_law_slack : Stmt := topS 26
abbrev N_law_slack : List Str := ["many", "wide"]
theorem sc_law_slack : FnScope N_law_slack ["many", "wide"] (defScope s_law_slack) := ⟨rfl, rfl, rfl, by decide +kernel, rfl, by decide +kernel, by decide +kernel⟩
abbrev s_law_greatest : Stmt := topS 27
abbrev N_law_greatest : List Str := ["many", "rooms", "wide", "more", "first"]
theorem sc_law_greatest : FnScope N_law_greatest ["many", "rooms", "wide", "more"] (defScope s_law_greatest) := ⟨rfl, rfl, rfl, by decide +kernel, rfl, by decide +kernel, by decide +kernel⟩
abbrev s_law_least : Stmt := topS 28
abbrev N_law_least : List Str := ["many", "rooms", "wide", "more", "free"]
theorem sc_law_least : FnScope N_law_least ["many", "rooms", "wide", "more"] (defScope s_law_least) := ⟨rfl, rfl, rfl, by decide +kernel, rfl, by decide +kernel, by decide +kernel⟩
abbrev s_law_fewest : Stmt := topS 29
abbrev N_law_fewest : List Str := ["many", "rooms", "wide", "rows", "first"]
theorem sc_law_fewest : FnScope N_law_fewest ["many", "rooms", "wide", "rows"] (defScope s_law_fewest) := ⟨rfl, rfl, rfl, by decide +kernel, rfl, by decide +kernel, by decide +kernel⟩
abbrev s_law_worst : Stmt := topS 30
abbrev N_law_worst : List Str := ["many", "rooms", "wide", "more", "first", "got", "room"]
theorem sc_law_worst : FnScope N_law_worst ["many", "rooms", "wide", "more"] (defScope s_law_worst) := ⟨rfl, rfl, rfl, by decide +kernel, rfl, by decide +kernel, by decide +kernel⟩
abbrev s_law_best : Stmt := topS 31
abbrev N_law_best : List Str := ["many", "rooms", "wide", "more", "slack", "got", "room"]
theorem sc_law_best : FnScope N_law_best ["many", "rooms", "wide", "more"] (defScope s_law_best) := ⟨rfl, rfl, rfl, by decide +kernel, rfl, by decide +kernel, by decide +kernel⟩
abbrev s_law_behind : Stmt := topS 32
abbrev N_law_behind : List Str := ["many", "put", "more"]
theorem sc_law_behind : FnScope N_law_behind ["many", "put"] (defScope s_law_behind) := ⟨rfl, rfl, rfl, by decide +kernel, rfl, by decide +kernel, by decide +kernel⟩
abbrev s_law_is_put : Stmt := topS 33
abbrev N_law_is_put : List Str := ["put", "rooms", "more", "one"]
theorem sc_law_is_put : FnScope N_law_is_put ["put", "rooms", "more"] (defScope s_law_is_put) := ⟨rfl, rfl, rfl, by decide +kernel, rfl, by decide +kernel, by decide +kernel⟩
abbrev s_law_spills_right : Stmt := topS 34
abbrev N_law_spills_right : List Str := ["bag", "many", "rooms", "wide", "more", "line", "begun", "most", "least", "told", "spilt", "put", "worst", "best", "own"]
theorem sc_law_spills_right : FnScope N_law_spills_right ["bag", "many", "rooms", "wide", "more"] (defScope s_law_spills_right) := ⟨rfl, rfl, rfl, by decide +kernel, rfl, by decide +kernel, by decide +kernel⟩
abbrev s_law_bounds_right : Stmt := topS 35
abbrev N_law_bounds_right : List Str := ["bag", "many", "rooms", "wide", "line", "begun", "rows", "fewest", "most", "lower", "less"]
theorem sc_law_bounds_right : FnScope N_law_bounds_right ["bag", "many", "rooms", "wide"] (defScope s_law_bounds_right) := ⟨rfl, rfl, rfl, by decide +kernel, rfl, by decide +kernel, by decide +kernel⟩
abbrev s_law : Stmt := topS 36
abbrev N_law : List Str := ["script", "bag", "again", "many", "rooms", "wide", "more"]
theorem sc_law : FnScope N_law ["script"] (defScope s_law) := ⟨rfl, rfl, rfl, by decide +kernel, rfl, by decide +kernel, by decide +kernel⟩
structure Txt (K : PySem.W.Frag) (mg : Str → Option Value) : Prop where
  abs : mg "abs" = none
  all : mg "all" = none
  bool : mg "bool" = none
  dict : mg "dict" = none
  int : mg "int" = none
  isinstance : mg "isinstance" = none
  len : mg "len" = none
  list : mg "list" = none
  max : mg "max" = none
  min : mg "min" = none
  range : mg "range" = none
  sorted : mg "sorted" = none
  str : mg "str" = none
  sum : mg "sum" = none
  tuple : mg "tuple" = none
  zip : mg "zip" = none
  d_is_whole : DefAt K mg "is_whole" s_is_whole ["thing"]
  d_rows_for : DefAt K mg "rows_for" s_rows_for ["many", "wide"]
  d_spill : DefAt K mg "spill" s_spill ["sizes", "wide"]
  d_longest : DefAt K mg "longest" s_longest ["sizes", "wide"]
  d_needs_of : DefAt K mg "needs_of" s_needs_of ["sizes", "wide"]
  d_free_of : DefAt K mg "free_of" s_free_of ["many", "wide"]
  d_spill_behind : DefAt K mg "spill_behind" s_spill_behind ["sizes", "wide", "put"]
  d_greatest_spill : DefAt K mg "greatest_spill" s_greatest_spill ["sizes", "wide", "more"]
  d_least_spill : DefAt K mg "least_spill" s_least_spill ["sizes", "wide", "more"]
  d_is_put : DefAt K mg "is_put" s_is_put ["sizes", "more", "thing"]
  d_is_greatest : DefAt K mg "is_greatest" s_is_greatest ["sizes", "wide", "more", "thing"]
  d_is_least : DefAt K mg "is_least" s_is_least ["sizes", "wide", "more", "thing"]
  d_fewest_for : DefAt K mg "fewest_for" s_fewest_for ["sizes", "wide", "limit"]
  d_most_for : DefAt K mg "most_for" s_most_for ["sizes", "wide", "limit"]
  d_law_bag : DefAt K mg "_law_bag" s_law_bag ["script"]
  d_law_take : DefAt K mg "_law_take" s_law_take ["bag", "many"]
  d_law_some : DefAt K mg "_law_some" s_law_some ["bag", "things"]
  d_law_kind : DefAt K mg "_law_kind" s_law_kind ["thing"]
  d_law_alike : DefAt K mg "_law_alike" s_law_alike ["got", "due"]
  d_law_more_rows : DefAt K mg "_law_more_rows" s_law_more_rows ["many", "wide"]
  d_law_spill : DefAt K mg "_law_spill" s_law_spill ["lots", "wide"]
  d_law_slack : DefAt K mg "_law_slack" s_law_slack ["many", "wide"]
  d_law_greatest : DefAt K mg "_law_greatest" s_law_greatest ["many", "rooms", "wide", "more"]
  d_law_least : DefAt K mg "_law_least" s_law_least ["many", "rooms", "wide", "more"]
  d_law_fewest : DefAt K mg "_law_fewest" s_law_fewest ["many", "rooms", "wide", "rows"]
  d_law_worst : DefAt K mg "_law_worst" s_law_worst ["many", "rooms", "wide", "more"]
  d_law_best : DefAt K mg "_law_best" s_law_best ["many", "rooms", "wide", "more"]
  d_law_behind : DefAt K mg "_law_behind" s_law_behind ["many", "put"]
  d_law_is_put : DefAt K mg "_law_is_put" s_law_is_put ["put", "rooms", "more"]
  d_law_spills_right : DefAt K mg "_law_spills_right" s_law_spills_right ["bag", "many", "rooms", "wide", "more"]
  d_law_bounds_right : DefAt K mg "_law_bounds_right" s_law_bounds_right ["bag", "many", "rooms", "wide"]
  d_law : DefAt K mg "law" s_law ["script"]
end K07

set_option Elab.async false
set_option linter.all false
set_option maxRecDepth 100000
set_option maxHeartbeats 4000000
namespace K07
open PySem PySem.Spec L2 DL
open PyProof.Rows hiding St
local macro_rules | `(tactic| walk_at "dl") => `(tactic| ((try simp only [List.cons_append, List.nil_append, uns_0, uns_s]); simp -implicitDefEqProofs only [↓slotK_0, ↓slotK_s, ↓setK_0, ↓setK_s, ↓frzK_f, ↓frzK_l, ↓blK_b, ↓getK_d, ↓getK_v, ↓getsK_0, ↓getsK_s, ↓allK_0, ↓allK_s, ↓argK_0, ↓argK_s, ↓e_K, ↓e_name, ↓e_move, ↓e_nmB, ↓e_of, ↓e_bin, ↓e_bl, ↓e_chn, ↓e_and, ↓e_or, ↓e_not, ↓e_andV, ↓e_orV, ↓e_notV, ↓e_if, ↓e_nil, ↓e_cons, ↓e_tup, ↓e_lst, ↓e_cb, ↓e_isi, ↓negK_i, ↓e_neg, ↓e_fn0, ↓e_fn1, ↓callK_v, ↓e_noPart, ↓e_part, ↓e_sl, ↓e_rev, ↓slK_l, ↓slK_t, ↓revK_l, ↓e_add, ↓e_addL, ↓e_addT, ↓e_addS, ↓e_sub, ↓e_mul, ↓e_mulL, ↓e_div, ↓e_mod, ↓e_pow, ↓e_shl, ↓e_lt, ↓e_le, ↓e_gt, ↓e_ge, ↓e_eq, ↓e_ne, ↓e_eqS, ↓e_neS, ↓e_eqB, ↓e_neB, ↓e_eqL, ↓e_neL, ↓e_eqT, ↓e_neT, ↓e_eqN, ↓e_eqIN, ↓e_is, ↓e_isB, ↓e_isnot, ↓e_isnotB, ↓e_in, ↓e_inT, ↓e_notin, ↓e_ix, ↓e_ixT, ↓e_len, ↓e_lenT, ↓e_lenS, ↓intsK_m, ↓intsK_0, ↓intsK_s, ↓e_sum, ↓e_max, ↓e_min, ↓e_max2, ↓e_min2, ↓e_abs, ↓e_int, ↓e_intB, ↓e_list, ↓e_listT, ↓e_tuple, ↓boolsK_m, ↓e_all, ↓e_any, ↓e_sorted, ↓sortK_m, ↓sortK_p, ↓isN_i, ↓isN_n, ↓isN_l, ↓isN_t, ↓e_next, ↓e_seq, ↓e_break, ↓e_cont, ↓e_drop, ↓e_ret, ↓e_retN, ↓e_ifS, ↓e_set, ↓e_asg, ↓e_gnm, ↓e_gtp, ↓e_gs0, ↓e_gss, ↓lstK_l, ↓e_append, ↓extK_l, ↓e_extend, ↓e_popAt, ↓e_reverse, ↓e_setI2, ↓fzK_f, ↓e_aug, ↓e_augI2, ↓e_par, ↓e_par3, ↓e_index, ↓ite_dec, ↓ite_ndec, ↓ite_tr, ↓ite_fa, ↓ite_nt, ↓e_listZip, ↓lzK_l, ↓lzK_t, ↓at_0, ↓at_1, ↓at_2, ↓at_3, ↓tpK_2, ↓tpK_2', ↓tpK_3', ↓tpK_4', ↓tpK_3, ↓tpK_4, ↓e_lc, ↓wipeK_n, ↓wipeK_c, ↓e_yes, ↓rep_int, ↓eqK_nilI, ↓eqK_nilP, ↓eqK_ints, ↓atK_last, ↓eqK_Ni, ↓List.length_map, ↓Int.toNat_natCast, ↓e_for, ↓e_iLst, ↓e_iTpl, ↓e_iRg1, ↓e_iRg2, ↓e_iEnm, ↓e_iZp, ↓lsK_l, ↓tsK_t, ↓rg1K_i, ↓rg2K_i, ↓en1K_l, ↓zpK_l, ↓e_neNN, ↓ite_T, ↓ite_F, ↓og_0, ↓og_1, ↓og_2, ↓og_3, ↓is_0, ↓is_1, ↓is_2, ↓is_3, ↓aug_0, ↓aug_1, ↓aug_2, ↓aug_3, ↓uns_0, ↓uns_s, ↓getD_0, List.cons_append, List.nil_append, List.length_cons, List.length_nil, true_and, and_true]))
section
variable {P : Program} {w : World} {K : PySem.W.Frag} {mg : Str → Option Value} {base : Heap}
theorem okd_law_kind (T : Txt K mg) : Okd P w K mg base 1 "_law_kind" 1 [] p_law_kind := by
  refine T.d_law_kind.okP sc_law_kind 1 rfl rfl fun f cdv A outer s H E hr => ⟨_, _,
    (dss_cons (ds_set 1 sc_law_kind.nd (de_lst (da_cons (db_of (de_isi .bool (by rfl) T.isinstance (db_var 0) (pe_bltn (by rfl) T.bool (by decide +kernel) rfl))) (da_cons (db_of (de_isi .int (by rfl) T.isinstance (db_var 0) (pe_bltn (by rfl) T.int (by decide +kernel) rfl))) (da_cons (db_of (de_isi .str (by rfl) T.isinstance (db_var 0) (pe_bltn (by rfl) T.str (by decide +kernel) rfl))) da_nil)))))
      (dss_cons (ds_set 1 sc_law_kind.nd (de_op op_addU sr_add (db_var 1) (db_of (de_lst (da_cons (db_of (de_isi .tuple (by rfl) T.isinstance (db_var 0) (pe_bltn (by rfl) T.tuple (by decide +kernel) rfl))) (da_cons (db_of (de_isi .list (by rfl) T.isinstance (db_var 0) (pe_bltn (by rfl) T.list (by decide +kernel) rfl))) (da_cons (db_of (de_isi .dict (by rfl) T.isinstance (db_var 0) (pe_bltn (by rfl) T.dict (by decide +kernel) rfl))) da_nil)))))))
      (dss_one (ds_ret (de_if (dt_cmp (op_in_seq) sr_in (db_of de_bl) (db_var 1) rfl) (de_index (db_var 1) (db_of de_bl)) (de_neg (db_of de_int))))))), fun as Qd h => ?_⟩
  obtain ⟨d, rfl, q⟩ := h
  walk_at "dl"
  refine ⟨by decide, by decide, by decide, ?_⟩
  cases d <;> first | exact ⟨⟨rfl, rfl⟩, ⟨rfl, rfl⟩, q⟩ | exact ⟨⟨rfl, rfl⟩, q⟩
theorem okd_law_take (T : Txt K mg) : Okd P w K mg base 1 "_law_take" 2 [0] p_law_take := by
  refine T.d_law_take.okL sc_law_take 5 rfl (by decide) rfl fun f cdv A outer s H E hr => ⟨_, _,
    (dss_cons (ds_if (dt_cmp (op_eqU hr.units) sr_eq (db_of (de_ix (db_var 0) (db_of de_int))) (db_of de_int) (nomark _))
      (dss_cons (ds_set 2 sc_law_take.nd (de_ix (db_of (de_op op_addU sr_add (db_of (de_slice (db_of (de_ix (db_var 0) (db_of de_int))) (do_some (db_of (de_ix (db_var 0) (db_of de_int)))) do_none)) (db_of (de_lst (da_cons (db_of de_int) da_nil))))) (db_of de_int)))
      (dss_cons (ds_augI 0 ip_add (db_of de_int) (db_of de_int))
      (dss_cons (ds_setI 0 (de_if (dt_cmp (op_ge) sr_ge (db_var 2) (db_of (de_op op_pow sr_pow (db_of de_int) (db_of de_int))) (nomark _)) (de_var 2) de_int) (db_of de_int))
      (dss_cons (ds_set 3 sc_law_take.nd (de_op op_addU sr_add (db_of (de_op op_addU sr_add (db_of (de_op op_mulU sr_mul (db_of (de_ix (db_var 0) (db_of de_int))) (db_of de_int))) (db_of (de_op op_mod sr_mod (db_of (de_callTy call_int1 sc_int (by rfl) T.int (by decide +kernel) (da_cons (db_var 2) da_nil))) (db_of de_int))))) (db_of (de_op op_mulU sr_mul (db_of de_int) (db_of (de_ix (db_var 0) (db_of de_int)))))))
      (dss_one (ds_setI 0 (de_op op_mod sr_mod (db_of (de_callTy call_int1 sc_int (by rfl) T.int (by decide +kernel) (da_cons (db_var 3) da_nil))) (db_of de_int)) (db_of de_int)))))))
      dss_nil)
      (dss_cons (ds_if (dt_cmp (op_gt) sr_gt (db_of (de_ix (db_var 0) (db_of de_int))) (db_of de_int) (nomark _))
      (dss_cons (ds_set 4 sc_law_take.nd (de_op op_mod sr_mod (db_of (de_callTy call_int1 sc_int (by rfl) T.int (by decide +kernel) (da_cons (db_of (de_ix (db_var 0) (db_of de_int))) da_nil))) (db_var 1)))
      (dss_cons (ds_setI 0 (de_op op_fdivW sr_div (db_of (de_callTy call_int1 sc_int (by rfl) T.int (by decide +kernel) (da_cons (db_of (de_ix (db_var 0) (db_of de_int))) da_nil))) (db_var 1)) (db_of de_int))
      (dss_one (ds_ret (de_move 4)))))
      dss_nil)
      (dss_cons (ds_set 5 sc_law_take.nd (de_op op_mod sr_mod (db_of (de_callTy call_int1 sc_int (by rfl) T.int (by decide +kernel) (da_cons (db_of (de_op op_mulU sr_mul (db_of (de_op op_addU sr_add (db_of (de_ix (db_var 0) (db_of de_int))) (db_of de_int))) (db_of de_int))) da_nil))) (db_of de_int)))
      (dss_cons (ds_set 6 sc_law_take.nd (de_op op_mod sr_mod (db_of (de_callTy call_int1 sc_int (by rfl) T.int (by decide +kernel) (da_cons (db_of (de_op op_mulU sr_mul (db_of (de_op op_mod sr_mod (db_of (de_callTy call_int1 sc_int (by rfl) T.int (by decide +kernel) (da_cons (db_of (de_op op_mulU sr_mul (db_var 5) (db_var 5))) da_nil))) (db_of de_int))) (db_of de_int))) da_nil))) (db_of de_int)))
      (dss_one (ds_ret (de_op op_mod sr_mod (db_of (de_callTy call_int1 sc_int (by rfl) T.int (by decide +kernel) (da_cons (db_of (de_op op_fdivW sr_div (db_var 6) (db_of de_int))) da_nil))) (db_var 1)))))))), fun a as Qd h => ?_⟩
  obtain ⟨L, m, e, ⟨b0, b1, b2, cs, rfl, h0, h1, h2, h3, hl, hc⟩, hm, q⟩ := h
  cases e
  walk_at "dl"
  by_cases z : b0 = 0
  · rw [if_pos z]
    obtain ⟨n, r, hn, e⟩ := take_head hc (some b2) none
    have hlen := cutD_len (cs.map PyData.int) (some b2) none
    rw [List.length_map] at hlen
    rw [e]
    refine ⟨by decide, by rw [sizeLine_eq]; omega, ?_⟩
    walk_at "dl"
    have em : ∀ a : Int, -(2 ^ 64) < a % 1000000007 ∧ a % 1000000007 < 2 ^ 64 := fun a => by omega
    have ew : ∀ a : Int, 0 ≤ a % 2147483647 ∧ a % 2147483647 < 2147483647 := fun a => by omega
    refine ⟨⟨by decide, by decide, by decide⟩, ?_⟩
    split
    all_goals
      refine ⟨mulOk_r (by decide) (by decide), by decide, mulOk_l (by decide) (by decide), by decide, ?_⟩
      split
      · refine ⟨hm.1, hm, q _ _ ⟨_, _, _, _, rfl, Int.ediv_nonneg (by omega) (by omega), (ew _).1, (ew _).2, by omega, hl, hc⟩ (Int.emod_nonneg _ (by omega)) (Int.emod_lt_of_pos _ hm.1)⟩
      · exact ⟨mulOk_r (by decide) (by decide), by decide, mulOk_l (em _).1 (em _).2, by decide, mulOk_r (by decide) (by decide), by decide, ⟨by decide, by decide⟩, hm.1, q _ _ ⟨_, _, _, _, rfl, by omega, (ew _).1, (ew _).2, by omega, hl, hc⟩ (Int.emod_nonneg _ (by omega)) (Int.emod_lt_of_pos _ hm.1)⟩
  · rw [if_neg z, if_pos (by omega)]
    exact ⟨hm.1, hm, q _ _ ⟨_, _, _, _, rfl, Int.ediv_nonneg h0 (by omega), h1, h2, h3, hl, hc⟩ (Int.emod_nonneg _ (by omega)) (Int.emod_lt_of_pos _ hm.1)⟩
theorem okd_law_some (T : Txt K mg) : Okd P w K mg base 2 "_law_some" 2 [0] p_law_some := by
  refine T.d_law_some.okL sc_law_some 0 rfl (by decide) rfl fun f cdv A outer s H E hr => ⟨_, _,
    (dss_one (ds_ret (de_ix (db_var 1) (db_of (de_fn [(0, 0)] (okd_law_take T) (hr.mono (by decide)) (da_cons (db_var 0) (da_cons (db_of (de_callB call_len sc_len (by rfl) T.len PySem.boot_len (da_cons (db_var 1) da_nil))) da_nil))))))), fun a as Qd h => ?_⟩
  obtain ⟨L, xs, e, hb, hx, q⟩ := h
  cases e
  walk_at "dl"
  simp only [q_law_take]
  walk_at "dl"
  exact ⟨hb, ⟨by omega, by omega⟩, fun v L' hL h0 h1 => atK_int h0 h1 fun x hx' => q x hx' L' hL⟩
theorem okd_law_alike (T : Txt K mg) : Okd P w K mg base 2 "_law_alike" 2 [] p_law_alike := by
  refine T.d_law_alike.okP sc_law_alike 5 rfl rfl fun f cdv A outer s H E hr => ⟨_, _,
    (dss_cons (ds_par 2 3 rfl sc_law_alike.nd
      (de_lst (da_cons (db_of (de_tup (da_cons (db_of (de_var 0)) (da_cons (db_of (de_var 1)) da_nil)))) da_nil))
      de_int)
      (dss_cons (ds_while PassesOwn.never (dt_cmp (op_lt) sr_lt (db_var 3) (db_of (de_callB call_len sc_len (by rfl) T.len PySem.boot_len (da_cons (db_var 2) da_nil))) (nomark _))
      (dss_cons (ds_asg (de_ix (db_var 2) (db_var 3)) (dg_tup rfl (dgs_cons (dg_name 4 sc_law_alike.nd) (dgs_cons (dg_name 5 sc_law_alike.nd) dgs_nil))))
      (dss_cons (ds_aug 3 sc_law_alike.nd ip_add (db_of de_int))
      (dss_cons (ds_if (dt_cmp (op_neU hr.units) sr_ne (db_of (de_fn [] (okd_law_kind T) (hr.mono (by decide)) (da_cons (db_of (de_var 4)) da_nil))) (db_of (de_fn [] (okd_law_kind T) (hr.mono (by decide)) (da_cons (db_of (de_var 5)) da_nil))) (nomark _))
      (dss_one (ds_ret de_bl))
      dss_nil)
      (dss_one (ds_if (dt_val (de_isi2 .tuple .list (by rfl) T.isinstance (db_var 4) (pe_bltn (by rfl) T.tuple (by decide +kernel) rfl) (pe_bltn (by rfl) T.list (by decide +kernel) rfl)))
      (dss_cons (ds_if (dt_cmp (op_neU hr.units) sr_ne (db_of (de_callB call_len sc_len (by rfl) T.len PySem.boot_len (da_cons (db_var 4) da_nil))) (db_of (de_callB call_len sc_len (by rfl) T.len PySem.boot_len (da_cons (db_var 5) da_nil))) (nomark _))
      (dss_one (ds_ret de_bl))
      dss_nil)
      (dss_one (ds_expr (de_extend 2 (db_of (de_listZip rfl (by rfl) T.list (by rfl) T.zip (da_cons (db_of (de_var 4)) (da_cons (db_of (de_var 5)) da_nil))))))))
      (dss_one (ds_if (dt_val (de_isi .dict (by rfl) T.isinstance (db_var 4) (pe_bltn (by rfl) T.dict (by decide +kernel) rfl)))
      dss_never
      (dss_one (ds_if (dt_cmp (op_neU hr.units) sr_ne (db_var 4) (db_var 5) (nomark _))
      (dss_one (ds_ret de_bl))
      dss_nil))))))))))
      (dss_one (ds_ret de_bl)))), fun as Qd h => ?_⟩
  obtain ⟨d, n, rfl, hd, hn, q⟩ := h
  walk_at "dl"
  refine ⟨by decide, by decide, ?_⟩
  refine ⟨fun m ρ => ∃ (pre rest : List D) (s4 s5 : Slot), ρ = [.fz d, .fz d, .lst (pre ++ rest.map twin), .fz (.int pre.length), s4, s5, .un] ∧ ALs m rest ∧ pre.length + m ≤ 1000000, n, ⟨[], [d], _, _, rfl, by simpa using ALs.cons hd .nil, by simpa using hn⟩, ?_⟩
  rintro m _ ⟨pre, rest, s4, s5, rfl, hr', hm⟩
  walk_at "dl"
  cases hr' with
  | nil =>
    simpa using q
  | cons h1 h2 =>
    rename_i n1 m1 x r
    rw [if_pos (by simp; omega)]
    simp only [List.map_cons, atK_twin]
    walk_at "dl"
    simp only [q_law_kind]
    walk_at "dl"
    have hl := h2.len
    cases h1
    all_goals simp only [isTy, Bool.or_false, Bool.false_or, Bool.false_eq_true, if_false, if_true, Bool.or_self]
    all_goals (try walk_at "dl")
    case list k ds hds =>
      rw [zipD_self]
      refine ⟨by simp; rw [sizeLine_eq]; have := hds.len; omega, Wk.mk ⟨m1 + k, by omega, pre ++ [twin (.list ds)], r ++ ds, _, _, env_s2, h2.app hds, by simp; omega⟩⟩
    case tuple k ds hds =>
      rw [zipD_self]
      refine ⟨by simp; rw [sizeLine_eq]; have := hds.len; omega, Wk.mk ⟨m1 + k, by omega, pre ++ [twin (.tuple ds)], r ++ ds, _, _, env_s2, h2.app hds, by simp; omega⟩⟩
    all_goals exact Wk.mk ⟨m1, by omega, pre ++ [twin _], r, _, _, env_s1, h2, by simp; omega⟩

end
end K07

set_option Elab.async false
set_option linter.all false
set_option maxRecDepth 100000
set_option maxHeartbeats 4000000
namespace K07
open PySem PySem.Spec L2 DL
open PyProof.Rows hiding St
local macro_rules | `(tactic| walk_at "dl") => `(tactic| ((try simp only [List.cons_append, List.nil_append, uns_0, uns_s]); simp -implicitDefEqProofs only [↓slotK_0, ↓slotK_s, ↓setK_0, ↓setK_s, ↓frzK_f, ↓frzK_l, ↓blK_b, ↓getK_d, ↓getK_v, ↓getsK_0, ↓getsK_s, ↓allK_0, ↓allK_s, ↓argK_0, ↓argK_s, ↓e_K, ↓e_name, ↓e_move, ↓e_nmB, ↓e_of, ↓e_bin, ↓e_bl, ↓e_chn, ↓e_and, ↓e_or, ↓e_not, ↓e_andV, ↓e_orV, ↓e_notV, ↓e_if, ↓e_nil, ↓e_cons, ↓e_tup, ↓e_lst, ↓e_cb, ↓e_isi, ↓negK_i, ↓e_neg, ↓e_fn0, ↓e_fn1, ↓callK_v, ↓e_noPart, ↓e_part, ↓e_sl, ↓e_rev, ↓slK_l, ↓slK_t, ↓revK_l, ↓e_add, ↓e_addL, ↓e_addT, ↓e_addS, ↓e_sub, ↓e_mul, ↓e_mulL, ↓e_div, ↓e_mod, ↓e_pow, ↓e_shl, ↓e_lt, ↓e_le, ↓e_gt, ↓e_ge, ↓e_eq, ↓e_ne, ↓e_eqS, ↓e_neS, ↓e_eqB, ↓e_neB, ↓e_eqL, ↓e_neL, ↓e_eqT, ↓e_neT, ↓e_eqN, ↓e_eqIN, ↓e_is, ↓e_isB, ↓e_isnot, ↓e_isnotB, ↓e_in, ↓e_inT, ↓e_notin, ↓e_ix, ↓e_ixT, ↓e_len, ↓e_lenT, ↓e_lenS, ↓intsK_m, ↓intsK_0, ↓intsK_s, ↓e_sum, ↓e_max, ↓e_min, ↓e_max2, ↓e_min2, ↓e_abs, ↓e_int, ↓e_intB, ↓e_list, ↓e_listT, ↓e_tuple, ↓boolsK_m, ↓e_all, ↓e_any, ↓e_sorted, ↓sortK_m, ↓sortK_p, ↓isN_i, ↓isN_n, ↓isN_l, ↓isN_t, ↓e_next, ↓e_seq, ↓e_break, ↓e_cont, ↓e_drop, ↓e_ret, ↓e_retN, ↓e_ifS, ↓e_set, ↓e_asg, ↓e_gnm, ↓e_gtp, ↓e_gs0, ↓e_gss, ↓lstK_l, ↓e_append, ↓extK_l, ↓e_extend, ↓e_popAt, ↓e_reverse, ↓e_setI2, ↓fzK_f, ↓e_aug, ↓e_augI2, ↓e_par, ↓e_par3, ↓e_index, ↓ite_dec, ↓ite_ndec, ↓ite_tr, ↓ite_fa, ↓ite_nt, ↓e_listZip, ↓lzK_l, ↓lzK_t, ↓at_0, ↓at_1, ↓at_2, ↓at_3, ↓tpK_2, ↓tpK_2', ↓tpK_3', ↓tpK_4', ↓tpK_3, ↓tpK_4, ↓e_lc, ↓wipeK_n, ↓wipeK_c, ↓e_yes, ↓rep_int, ↓eqK_nilI, ↓eqK_nilP, ↓eqK_ints, ↓atK_last, ↓eqK_Ni, ↓List.length_map, ↓Int.toNat_natCast, ↓e_for, ↓e_iLst, ↓e_iTpl, ↓e_iRg1, ↓e_iRg2, ↓e_iEnm, ↓e_iZp, ↓lsK_l, ↓tsK_t, ↓rg1K_i, ↓rg2K_i, ↓en1K_l, ↓zpK_l, ↓e_neNN, ↓ite_T, ↓ite_F, ↓og_0, ↓og_1, ↓og_2, ↓og_3, ↓is_0, ↓is_1, ↓is_2, ↓is_3, ↓aug_0, ↓aug_1, ↓aug_2, ↓aug_3, ↓uns_0, ↓uns_s, ↓getD_0, List.cons_append, List.nil_append, List.length_cons, List.length_nil, true_and, and_true]))
section
variable {P : Program} {w : World} {K : PySem.W.Frag} {mg : Str → Option Value} {base : Heap}
theorem okd_is_whole (T : Txt K mg) : Okd P w K mg base 1 "is_whole" 1 [] p_is_whole := by
  refine T.d_is_whole.okP sc_is_whole 0 rfl rfl fun f cdv A outer s H E hr => ⟨_, _,
    (dss_one (ds_ret (de_and (de_isi .int (by rfl) T.isinstance (db_var 0) (pe_bltn (by rfl) T.int (by decide +kernel) rfl)) (de_one (de_not (de_isi .bool (by rfl) T.isinstance (db_var 0) (pe_bltn (by rfl) T.bool (by decide +kernel) rfl))))))), fun as Qd h => ?_⟩
  obtain ⟨i, rfl, q⟩ := h
  walk_at "dl"
  exact q
theorem okd_rows_for (T : Txt K mg) : Okd P w K mg base 1 "rows_for" 2 [] p_rows_for := by
  refine T.d_rows_for.okP sc_rows_for 0 rfl rfl fun f cdv A outer s H E hr => ⟨_, _,
    (dss_one (ds_ret (de_callB (cr_maxU rfl) sc_max (by rfl) T.max (by decide +kernel) (da_cons (db_of de_int) (da_cons (db_of (de_op op_fdivW sr_div (db_of (de_op op_sub sr_sub (db_of (de_op op_addU sr_add (db_var 0) (db_var 1))) (db_of de_int))) (db_var 1))) da_nil))))), fun as Qd h => ?_⟩
  obtain ⟨m, w, rfl, hw, q⟩ := h
  walk_at "dl"
  exact ⟨hw.div, q⟩
theorem okd_spill (T : Txt K mg) : Okd P w K mg base 2 "spill" 2 [] p_spill := by
  refine T.d_spill.okP sc_spill 1 rfl rfl fun f cdv A outer s H E hr => ⟨_, _,
    (dss_one (ds_ret (de_callB (cr_sum rfl) sc_sum (by rfl) T.sum (by decide +kernel) (da_cons (db_of (de_lc rfl sc_spill.nd (di_list (de_var 0)) (blkOk_by (own := [("many", 2)]) (N := N_spill) (sc := defScope s_spill) (by decide +kernel))
        (fun _ _ _ _ _ => (dg_name 2 sc_spill.nd)) (fun _ _ _ _ _ => dts_nil)
        (fun _ _ _ _ _ => (de_op op_sub sr_sub (db_of (de_fn [] (okd_rows_for T) (hr.mono (by decide)) (da_cons (db_of (de_var 2)) (da_cons (db_of (de_var 1)) da_nil)))) (db_of de_int))))) da_nil)))), fun as Qd h => ?_⟩
  obtain ⟨ns, w, rfl, hw, hn, q⟩ := h
  walk_at "dl"
  refine LC.ints (fun n => rowsF n w - 1) hn.sz (fun n _ Kt Kf hk => ?_) ?_
  · walk_at "dl"
    simp only [q_rows_for]
    walk_at "dl"
    exact ⟨hw, hk _ rfl⟩
  · walk_at "dl"
    exact q
theorem okd_longest (T : Txt K mg) : Okd P w K mg base 2 "longest" 2 [] p_longest := by
  refine T.d_longest.okP sc_longest 3 rfl rfl fun f cdv A outer s H E hr => ⟨_, _,
    (dss_cons (ds_setLc 2 rfl sc_longest.nd (sw_true rfl rfl rfl (by decide +kernel)) (di_list (de_var 0)) (blkOk_by (own := [("many", 4)]) (N := N_longest) (sc := defScope s_longest) (by decide +kernel))
        (fun _ _ _ _ _ => (dg_name 4 sc_longest.nd)) (fun _ _ _ _ _ => dts_nil)
        (fun _ _ _ _ _ => (de_fn [] (okd_rows_for T) (hr.mono (by decide)) (da_cons (db_of (de_var 4)) (da_cons (db_of (de_var 1)) da_nil)))))
      (dss_cons (ds_set 3 sc_longest.nd (de_callB (cr_maxU rfl) sc_max (by rfl) T.max (by decide +kernel) (da_cons (db_var 2) da_nil)))
      (dss_one (ds_ret (de_tup (da_cons (db_of (de_var 3)) (da_cons (db_of (de_index (db_var 2) (db_var 3))) da_nil))))))), fun as Qd h => ?_⟩
  obtain ⟨ns, w, rfl, hw, hn, h0, q⟩ := h
  walk_at "dl"
  refine LC.ints (fun n => rowsF n w) hn.sz (fun n _ Kt Kf hk => ?_) ?_
  · walk_at "dl"
    simp only [q_rows_for]
    walk_at "dl"
    exact ⟨hw, hk _ rfl⟩
  · walk_at "dl"
    refine ⟨by simpa [List.length_pos_iff] using h0, fun m hm hy => ?_⟩
    rw [idxK_ints hm]
    exact ⟨by decide, q m hm (fun n hn' => hy _ (List.mem_map.mpr ⟨n, hn', rfl⟩))⟩
theorem okd_free_of (T : Txt K mg) : Okd P w K mg base 2 "free_of" 2 [] p_free_of := by
  refine T.d_free_of.okP sc_free_of 0 rfl rfl fun f cdv A outer s H E hr => ⟨_, _,
    (dss_one (ds_ret (de_op op_sub sr_sub (db_of (de_op op_mulU sr_mul (db_var 1) (db_of (de_fn [] (okd_rows_for T) (hr.mono (by decide)) (da_cons (db_of (de_var 0)) (da_cons (db_of (de_var 1)) da_nil)))))) (db_var 0)))), fun as Qd h => ?_⟩
  obtain ⟨m, w, rfl, hw, q⟩ := h
  walk_at "dl"
  simp only [q_rows_for]
  walk_at "dl"
  exact ⟨hw, hw.mul, q⟩
theorem okd_needs_of (T : Txt K mg) : Okd P w K mg base 2 "needs_of" 2 [] p_needs_of := by
  refine T.d_needs_of.okP sc_needs_of 2 rfl rfl fun f cdv A outer s H E hr => ⟨_, _,
    (dss_cons (ds_set 2 sc_needs_of.nd (de_lst da_nil))
      (dss_cons (ds_for PassesOwn.never rfl (di_range1 (by rfl) T.range (da_cons (db_of (de_callB call_len sc_len (by rfl) T.len PySem.boot_len (da_cons (db_var 0) da_nil))) da_nil)) (dg_name 3 sc_needs_of.nd)
      (dss_one (ds_if (dt_cmp (op_gt) sr_gt (db_of (de_ix (db_var 0) (db_var 3))) (db_of de_int) (nomark _))
      (dss_one (ds_expr (de_append 2 (de_tup (da_cons (db_of (de_op op_sub sr_sub (db_of (de_op op_addU sr_add (db_of (de_op op_mulU sr_mul (db_var 1) (db_of (de_fn [] (okd_rows_for T) (hr.mono (by decide)) (da_cons (db_of (de_ix (db_var 0) (db_var 3))) (da_cons (db_of (de_var 1)) da_nil)))))) (db_of de_int))) (db_of (de_ix (db_var 0) (db_var 3))))) (da_cons (db_of (de_var 3)) da_nil))))))
      dss_nil)))
      (dss_one (ds_ret (de_callB cr_sortU sc_sortU (by rfl) T.sorted (by decide +kernel) (da_cons (db_var 2) da_nil)))))), fun as Qd h => ?_⟩
  obtain ⟨ns, w, rfl, hw, hn, q⟩ := h
  walk_at "dl"
  have hn' : ns.length ≤ 1000000 := hn
  refine ⟨by decide, ⟨by omega, by omega⟩, ?_⟩
  refine FR.range0 (fun i ρ => ∃ s3, ρ = [.fz (.list (ns.map .int)), .fz (.int w), .lst ((rawAt w 0 (ns.take i)).map pD), s3]) ⟨_, rfl⟩ ?_ ?_
  · rintro i _ hi ⟨s3, rfl⟩
    walk_at "dl"
    have e1 : ns.take (i + 1) = ns.take i ++ [ns.getD i 0] := by
      rw [List.take_succ, List.getD_eq_getElem?_getD]; simp [List.getElem?_eq_getElem hi]
    have e2 : (i : Int).toNat = i := Int.toNat_natCast i
    have e3 := rawAt_snoc w 0 (ns.take i) (ns.getD i 0)
    rw [← e1, List.length_take, Nat.min_eq_left (Nat.le_of_lt hi), Nat.zero_add] at e3
    rw [atK_ints (by omega) (by omega), e2]
    walk_at "dl"
    split
    · rename_i hp
      rw [if_pos hp] at e3
      rw [atK_ints (by omega) (by omega), e2]
      simp only [q_rows_for]
      walk_at "dl"
      rw [atK_ints (by omega) (by omega), e2]
      walk_at "dl"
      refine ⟨hw, hw.mul, by decide, ?_, ?_⟩
      · have := rawAt_len (w := w) (k := 0) (ns := ns.take i)
        rw [sizeLine_eq]
        rw [List.length_take] at this
        omega
      · rw [e3, List.map_append]
        exact Wk.mk ⟨_, rfl⟩
    · rename_i hp
      rw [if_neg hp, List.append_nil] at e3
      rw [e3]
      exact Wk.mk ⟨_, rfl⟩
  · rintro _ ⟨s3, rfl⟩
    walk_at "dl"
    rw [List.take_length]
    exact q
theorem okd_spill_behind (T : Txt K mg) : Okd P w K mg base 3 "spill_behind" 3 [] p_spill_behind := by
  refine T.d_spill_behind.okP sc_spill_behind 2 rfl rfl fun f cdv A outer s H E hr => ⟨_, _,
    (dss_one (ds_ret (de_fn [] (okd_spill T) (hr.mono (by decide)) (da_cons (db_of (de_lc (g := (gTup K _ (gCons _ (gCons _ gNil)))) rfl sc_spill_behind.nd (di_zip (by rfl) T.zip (da_cons (db_of (de_var 0)) (da_cons (db_of (de_var 2)) da_nil))) (blkOk_by (own := [("many", 3), ("more", 4)]) (N := N_spill_behind) (sc := defScope s_spill_behind) (by decide +kernel))
        (fun _ _ _ _ _ => (dg_tup rfl (dgs_cons (dg_name 3 sc_spill_behind.nd) (dgs_cons (dg_name 4 sc_spill_behind.nd) dgs_nil)))) (fun _ _ _ _ _ => dts_nil)
        (fun _ _ _ _ _ => (de_op op_addU sr_add (db_var 3) (db_var 4))))) (da_cons (db_of (de_var 1)) da_nil))))), fun as Qd h => ?_⟩
  obtain ⟨ns, w, ps, rfl, hw, hn, q⟩ := h
  walk_at "dl"
  rw [zipD_ints]
  refine LC.all pD (fun p => .int (p.1 + p.2)) (by have := hn.sz; simp; omega) (fun p _ Kt Kf hk => ?_) ?_
  · unfold pD
    walk_at "dl"
    exact hk _ rfl
  · walk_at "dl"
    have e : (ns.zip ps).map (fun p => PyData.int (p.1 + p.2)) = ((ns.zip ps).map fun p => p.1 + p.2).map .int := by rw [List.map_map]; rfl
    rw [e]
    simp only [q_spill]
    exact ⟨hw, by unfold Ln at *; simp; omega, q⟩
end
end K07

set_option Elab.async false
set_option linter.all false
set_option maxRecDepth 100000
set_option maxHeartbeats 4000000
namespace K07
open PySem PySem.Spec L2 DL
open PyProof.Rows hiding St
local macro_rules | `(tactic| walk_at "dl") => `(tactic| ((try simp only [List.cons_append, List.nil_append, uns_0, uns_s]); simp -implicitDefEqProofs only [↓slotK_0, ↓slotK_s, ↓setK_0, ↓setK_s, ↓frzK_f, ↓frzK_l, ↓blK_b, ↓getK_d, ↓getK_v, ↓getsK_0, ↓getsK_s, ↓allK_0, ↓allK_s, ↓argK_0, ↓argK_s, ↓e_K, ↓e_name, ↓e_move, ↓e_nmB, ↓e_of, ↓e_bin, ↓e_bl, ↓e_chn, ↓e_and, ↓e_or, ↓e_not, ↓e_andV, ↓e_orV, ↓e_notV, ↓e_if, ↓e_nil, ↓e_cons, ↓e_tup, ↓e_lst, ↓e_cb, ↓e_isi, ↓negK_i, ↓e_neg, ↓e_fn0, ↓e_fn1, ↓callK_v, ↓e_noPart, ↓e_part, ↓e_sl, ↓e_rev, ↓slK_l, ↓slK_t, ↓revK_l, ↓e_add, ↓e_addL, ↓e_addT, ↓e_addS, ↓e_sub, ↓e_mul, ↓e_mulL, ↓e_div, ↓e_mod, ↓e_pow, ↓e_shl, ↓e_lt, ↓e_le, ↓e_gt, ↓e_ge, ↓e_eq, ↓e_ne, ↓e_eqS, ↓e_neS, ↓e_eqB, ↓e_neB, ↓e_eqL, ↓e_neL, ↓e_eqT, ↓e_neT, ↓e_eqN, ↓e_eqIN, ↓e_is, ↓e_isB, ↓e_isnot, ↓e_isnotB, ↓e_in, ↓e_inT, ↓e_notin, ↓e_ix, ↓e_ixT, ↓e_len, ↓e_lenT, ↓e_lenS, ↓intsK_m, ↓intsK_0, ↓intsK_s, ↓e_sum, ↓e_max, ↓e_min, ↓e_max2, ↓e_min2, ↓e_abs, ↓e_int, ↓e_intB, ↓e_list, ↓e_listT, ↓e_tuple, ↓boolsK_m, ↓e_all, ↓e_any, ↓e_sorted, ↓sortK_m, ↓sortK_p, ↓isN_i, ↓isN_n, ↓isN_l, ↓isN_t, ↓e_next, ↓e_seq, ↓e_break, ↓e_cont, ↓e_drop, ↓e_ret, ↓e_retN, ↓e_ifS, ↓e_set, ↓e_asg, ↓e_gnm, ↓e_gtp, ↓e_gs0, ↓e_gss, ↓lstK_l, ↓e_append, ↓extK_l, ↓e_extend, ↓e_popAt, ↓e_reverse, ↓e_setI2, ↓fzK_f, ↓e_aug, ↓e_augI2, ↓e_par, ↓e_par3, ↓e_index, ↓ite_dec, ↓ite_ndec, ↓ite_tr, ↓ite_fa, ↓ite_nt, ↓e_listZip, ↓lzK_l, ↓lzK_t, ↓at_0, ↓at_1, ↓at_2, ↓at_3, ↓tpK_2, ↓tpK_2', ↓tpK_3', ↓tpK_4', ↓tpK_3, ↓tpK_4, ↓e_lc, ↓wipeK_n, ↓wipeK_c, ↓e_yes, ↓rep_int, ↓eqK_nilI, ↓eqK_nilP, ↓eqK_ints, ↓atK_last, ↓eqK_Ni, ↓List.length_map, ↓Int.toNat_natCast, ↓e_for, ↓e_iLst, ↓e_iTpl, ↓e_iRg1, ↓e_iRg2, ↓e_iEnm, ↓e_iZp, ↓lsK_l, ↓tsK_t, ↓rg1K_i, ↓rg2K_i, ↓en1K_l, ↓zpK_l, ↓e_neNN, ↓ite_T, ↓ite_F, ↓og_0, ↓og_1, ↓og_2, ↓og_3, ↓is_0, ↓is_1, ↓is_2, ↓is_3, ↓aug_0, ↓aug_1, ↓aug_2, ↓aug_3, ↓q_is_whole, ↓q_rows_for, ↓q_free_of, ↓q_spill, ↓q_needs_of, ↓q_spill_behind, ↓q_law_kind, ↓uns_0, ↓uns_s, ↓getD_0, List.cons_append, List.nil_append, List.length_cons, List.length_nil, true_and, and_true]))
section
variable {P : Program} {w : World} {K : PySem.W.Frag} {mg : Str → Option Value} {base : Heap}
theorem okd_greatest_spill (T : Txt K mg) : Okd P w K mg base 4 "greatest_spill" 3 [] p_greatest_spill := by
  refine T.d_greatest_spill.okP sc_greatest_spill 6 rfl rfl fun f cdv A outer s H E hr => ⟨_, _,
    (dss_cons (ds_set 3 sc_greatest_spill.nd (de_op op_mulU sr_mul (db_of (de_lst (da_cons (db_of de_int) da_nil))) (db_of (de_callB call_len sc_len (by rfl) T.len PySem.boot_len (da_cons (db_var 0) da_nil)))))
      (dss_cons (ds_set 4 sc_greatest_spill.nd (de_fn [] (okd_needs_of T) (hr.mono (by decide)) (da_cons (db_of (de_var 0)) (da_cons (db_of (de_var 1)) da_nil))))
      (dss_cons (ds_set 5 sc_greatest_spill.nd (de_var 2))
      (dss_cons (ds_for PassesOwn.never rfl (di_list (de_var 4)) (dg_tup rfl (dgs_cons (dg_name 6 sc_greatest_spill.nd) (dgs_cons (dg_name 7 sc_greatest_spill.nd) dgs_nil)))
      (dss_one (ds_if (dt_cmp (op_le) sr_le (db_var 6) (db_var 5) (nomark _))
      (dss_cons (ds_setI 3 (de_var 6) (db_var 7))
      (dss_one (ds_set 5 sc_greatest_spill.nd (de_op op_sub sr_sub (db_var 5) (db_var 6)))))
      dss_nil)))
      (dss_cons (ds_set 8 sc_greatest_spill.nd de_int)
      (dss_cons (ds_if (dt_cmp (op_neU hr.units) sr_ne (db_var 4) (db_of (de_lst da_nil)) (nomark _))
      (dss_one (ds_set 8 sc_greatest_spill.nd (de_ix (db_of (de_ix (db_var 4) (db_of de_int))) (db_of de_int))))
      dss_nil)
      (dss_cons (ds_setI 3 (de_op op_addU sr_add (db_of (de_ix (db_var 3) (db_var 8))) (db_var 5)) (db_var 8))
      (dss_one (ds_ret (de_tup (da_cons (db_of (de_fn [] (okd_spill_behind T) (hr.mono (by decide)) (da_cons (db_of (de_var 0)) (da_cons (db_of (de_var 1)) (da_cons (db_of (de_var 3)) da_nil))))) (da_cons (db_of (de_var 3)) da_nil)))))))))))), fun as Qd h => ?_⟩
  obtain ⟨ns, w, more, rfl, hw, hn, h0, q⟩ := h
  have hn' : ns.length ≤ 1000000 := hn
  walk_at "dl"
  refine ⟨by decide, repOk_nat hn', hw, hn, ?_⟩
  refine FR.all pD (fun pre post ρ => ∃ s6 s7, ρ = [.fz (.list (ns.map .int)), .fz (.int w), .fz (.int more), .lst ((greedyF pre (List.replicate ns.length 0) more).1.map .int), .fz (.list ((needsF ns w).map pD)), .fz (.int (greedyF pre (List.replicate ns.length 0) more).2), s6, s7, .un]) ⟨_, _, rfl⟩ ?_ ?_
  · rintro pre p post _ e ⟨s6, s7, rfl⟩
    have hp := needs_room (w := w) (ns := ns) (p := p) (by rw [e]; simp)
    have hl := greedy_len pre (List.replicate ns.length 0, more)
    rw [List.length_replicate] at hl
    have e1 : greedyF (pre ++ [p]) (List.replicate ns.length 0) more = gStep (greedyF pre (List.replicate ns.length 0) more) p := by unfold greedyF; rw [List.foldl_append]; rfl
    rw [e1]
    obtain ⟨need, room⟩ := p
    unfold pD
    walk_at "dl"
    unfold gStep
    dsimp only at hp ⊢
    split
    · rw [isK_ints hp.1 (by unfold greedyF; omega)]
      (try walk_at "dl")
      exact Wk.mk ⟨_, _, rfl⟩
    · exact Wk.mk ⟨_, _, rfl⟩
  · rintro _ ⟨s6, s7, rfl⟩
    have hl := greedy_len (needsF ns w) (List.replicate ns.length 0, more)
    rw [List.length_replicate] at hl
    have hpos : 0 < ns.length := List.length_pos_iff.mpr h0
    walk_at "dl"
    refine ⟨by decide, ?_⟩
    have fin : ∀ r : Int, restF (needsF ns w) = r → (0 ≤ r ∧ r < ns.length) → atK (List.map PyData.int (greedyF (needsF ns w) (List.replicate ns.length 0) more).fst) r fun d =>
        dAdd d (PyData.int (greedyF (needsF ns w) (List.replicate ns.length 0) more).snd) fun s =>
          frzK s fun d =>
            isK (List.map PyData.int (greedyF (needsF ns w) (List.replicate ns.length 0) more).fst) r d fun ds' =>
              p_spill_behind [.fz (.list (ns.map .int)), .fz (.int w), .fz (.list ds')] fun s x => frzK s fun d =>
                  0 + 1 + 1 ≤ sizeLine ∧ Qd (.fz (.tuple [d, .list ds'])) [.fz (.list (ns.map .int)), .fz (.int w), .fz (.int more)] := by
      intro r hr hb
      have hl' : (greedyF (needsF ns w) (List.replicate ns.length 0) more).fst.length = ns.length := hl
      rw [atK_ints hb.1 (by omega)]
      walk_at "dl"
      rw [isK_ints hb.1 (by omega)]
      walk_at "dl"
      unfold gPut addAt at q
      rw [hr] at q
      exact ⟨hw, hn, by decide, q⟩
    by_cases hN : needsF ns w = []
    · rw [if_pos hN]
      exact fin 0 (by rw [hN]; rfl) ⟨by omega, by omega⟩
    · rw [if_neg hN]
      obtain ⟨p, ps, hm⟩ := List.exists_cons_of_ne_nil hN
      have hmap : (needsF ns w).map pD = .tuple [.int p.1, .int p.2] :: ps.map pD := by rw [hm]; rfl
      have hp := needs_room (w := w) (ns := ns) (p := p) (by rw [hm]; simp)
      rw [hmap]
      walk_at "dl"
      exact fin p.2 (by rw [hm]; rfl) hp
theorem okd_least_spill (T : Txt K mg) : Okd P w K mg base 4 "least_spill" 3 [] p_least_spill := by
  refine T.d_least_spill.okP sc_least_spill 3 rfl rfl fun f cdv A outer s H E hr => ⟨_, _,
    (dss_cons (ds_set 3 sc_least_spill.nd (de_lst da_nil))
      (dss_cons (ds_set 4 sc_least_spill.nd (de_var 2))
      (dss_cons (ds_for PassesOwn.never rfl (di_list (de_var 0)) (dg_name 5 sc_least_spill.nd)
      (dss_cons (ds_expr (de_append 3 (de_callB (cr_minU rfl) sc_min (by rfl) T.min (by decide +kernel) (da_cons (db_var 4) (da_cons (db_of (de_fn [] (okd_free_of T) (hr.mono (by decide)) (da_cons (db_of (de_var 5)) (da_cons (db_of (de_var 1)) da_nil)))) da_nil)))))
      (dss_one (ds_set 4 sc_least_spill.nd (de_op op_sub sr_sub (db_var 4) (db_of (de_ix (db_var 3) (db_of (de_neg (db_of de_int))))))))))
      (dss_cons (ds_setI 3 (de_op op_addU sr_add (db_of (de_ix (db_var 3) (db_of de_int))) (db_var 4)) (db_of de_int))
      (dss_one (ds_ret (de_tup (da_cons (db_of (de_fn [] (okd_spill_behind T) (hr.mono (by decide)) (da_cons (db_of (de_var 0)) (da_cons (db_of (de_var 1)) (da_cons (db_of (de_var 3)) da_nil))))) (da_cons (db_of (de_var 3)) da_nil))))))))), fun as Qd h => ?_⟩
  obtain ⟨ns, w, more, rfl, hw, hn, h0, q⟩ := h
  have hn' : ns.length ≤ 1000000 := hn
  walk_at "dl"
  refine ⟨by decide, ?_⟩
  refine FR.all PyData.int (fun pre post ρ => ∃ s5, ρ = [.fz (.list (ns.map .int)), .fz (.int w), .fz (.int more), .lst ((pre.foldl (lStep w) ([], more)).1.map .int), .fz (.int (pre.foldl (lStep w) ([], more)).2), s5]) ⟨_, rfl⟩ ?_ ?_
  · rintro pre n post _ e ⟨s5, rfl⟩
    rw [List.foldl_append]
    have hl := lStep_len w pre ([], more)
    simp at hl
    generalize pre.foldl (lStep w) ([], more) = st at *
    walk_at "dl"
    refine ⟨hw, by rw [sizeLine_eq]; have := congrArg List.length e; simp at this; omega, Wk.mk ⟨.fz (.int n), ?_⟩⟩
    simp [lStep]
  · rintro _ ⟨s6, rfl⟩
    have hl := lStep_len w ns ([], more)
    simp at hl
    have hpos : 0 < ns.length := List.length_pos_iff.mpr h0
    walk_at "dl"
    rw [atK_ints (by omega) (by omega)]
    walk_at "dl"
    rw [isK_ints (by omega) (by omega)]
    walk_at "dl"
    exact ⟨hw, hn, by decide, q⟩
theorem okd_is_put (T : Txt K mg) : Okd P w K mg base 2 "is_put" 3 [] p_is_put := by
  refine T.d_is_put.okP sc_is_put 1 rfl rfl fun f cdv A outer s H E hr => ⟨_, _,
    (dss_cons (ds_if (dw_pt (dw_or (dt_not (dt_val (de_isi .list (by rfl) T.isinstance (db_var 2) (pe_bltn (by rfl) T.list (by decide +kernel) rfl)))) (dw_or1 (dt_cmp (op_neU hr.units) sr_ne (db_of (de_callB call_len sc_len (by rfl) T.len PySem.boot_len (da_cons (db_var 2) da_nil))) (db_of (de_callB call_len sc_len (by rfl) T.len PySem.boot_len (da_cons (db_var 0) da_nil))) (nomark _)))))
      (dss_one (ds_ret de_bl))
      dss_nil)
      (dss_cons (ds_if (dt_not (dt_val (de_callB (cr_all rfl) sc_all (by rfl) T.all (by decide +kernel) (da_cons (db_of (de_lc rfl sc_is_put.nd (di_list (de_var 2)) (blkOk_by (own := [("one", 3)]) (N := N_is_put) (sc := defScope s_is_put) (by decide +kernel))
        (fun _ _ _ _ _ => (dg_name 3 sc_is_put.nd)) (fun _ _ _ _ _ => dts_nil)
        (fun _ _ _ _ _ => (de_and (de_fn [] (okd_is_whole T) (hr.mono (by decide)) (da_cons (db_of (de_var 3)) da_nil)) (de_one (de_cmp (op_ge) sr_ge (db_var 3) (db_of de_int) (nomark _))))))) da_nil))))
      (dss_one (ds_ret de_bl))
      dss_nil)
      (dss_one (ds_ret (de_cmp (op_eqU hr.units) sr_eq (db_of (de_callB (cr_sum rfl) sc_sum (by rfl) T.sum (by decide +kernel) (da_cons (db_var 2) da_nil))) (db_var 1) (nomark _)))))), fun as Qd h => ?_⟩
  obtain ⟨ns, more, d, rfl, hd, q⟩ := h
  cases hd with
  | tup ds =>
    walk_at "dl"
    rw [if_neg (by simp [isTy])]
    exact q
  | none =>
    walk_at "dl"
    rw [if_neg (by simp [isTy])]
    exact q
  | nums ps hps =>
    walk_at "dl"
    rw [if_pos (by simp [isTy])]
    rw [isPutD_l] at q
    by_cases hl : (ps.length : Int) = ns.length
    · rw [if_pos hl]
      have hl' : ps.length = ns.length := by omega
      refine LC.all PyData.int (fun n => .bool (decide (0 ≤ n))) hps.sz (fun n _ Kt Kf hk => ?_) ?_
      · walk_at "dl"
        exact hk _ rfl
      · have e : ps.map (fun n => PyData.bool (decide (0 ≤ n))) = (ps.map fun n => decide (0 ≤ n)).map .bool := by rw [List.map_map]; rfl
        rw [e]
        walk_at "dl"
        by_cases ha : (ps.map fun n => decide (0 ≤ n)).all id = true
        · rw [if_pos ha]
          have : isPutF ns.length more ps = decide (ps.sum = more) := by
            unfold isPutF
            rw [List.all_map] at ha
            have ha' : (ps.all fun p => decide (0 ≤ p)) = true := ha
            rw [ha', hl']; simp
          rw [this] at q
          exact q
        · rw [if_neg ha]
          have : isPutF ns.length more ps = false := by
            unfold isPutF
            rw [List.all_map] at ha
            have ha' : (ps.all fun p => decide (0 ≤ p)) = false := by simpa using ha
            rw [ha']; simp
          rw [this] at q
          exact q
    · rw [if_neg hl]
      have : isPutF ns.length more ps = false := by
        unfold isPutF
        have : ps.length ≠ ns.length := by omega
        simp [this]
      rw [this] at q
      exact q

end
end K07

set_option Elab.async false
set_option linter.all false
set_option maxRecDepth 100000
set_option maxHeartbeats 4000000
namespace K07
open PySem PySem.Spec L2 DL
open PyProof.Rows hiding St
local macro_rules | `(tactic| walk_at "dl") => `(tactic| ((try simp only [List.cons_append, List.nil_append, uns_0, uns_s]); simp -implicitDefEqProofs only [↓slotK_0, ↓slotK_s, ↓setK_0, ↓setK_s, ↓frzK_f, ↓frzK_l, ↓blK_b, ↓getK_d, ↓getK_v, ↓getsK_0, ↓getsK_s, ↓allK_0, ↓allK_s, ↓argK_0, ↓argK_s, ↓e_K, ↓e_name, ↓e_move, ↓e_nmB, ↓e_of, ↓e_bin, ↓e_bl, ↓e_chn, ↓e_and, ↓e_or, ↓e_not, ↓e_andV, ↓e_orV, ↓e_notV, ↓e_if, ↓e_nil, ↓e_cons, ↓e_tup, ↓e_lst, ↓e_cb, ↓e_isi, ↓negK_i, ↓e_neg, ↓e_fn0, ↓e_fn1, ↓callK_v, ↓e_noPart, ↓e_part, ↓e_sl, ↓e_rev, ↓slK_l, ↓slK_t, ↓revK_l, ↓e_add, ↓e_addL, ↓e_addT, ↓e_addS, ↓e_sub, ↓e_mul, ↓e_mulL, ↓e_div, ↓e_mod, ↓e_pow, ↓e_shl, ↓e_lt, ↓e_le, ↓e_gt, ↓e_ge, ↓e_eq, ↓e_ne, ↓e_eqS, ↓e_neS, ↓e_eqB, ↓e_neB, ↓e_eqL, ↓e_neL, ↓e_eqT, ↓e_neT, ↓e_eqN, ↓e_eqIN, ↓e_is, ↓e_isB, ↓e_isnot, ↓e_isnotB, ↓e_in, ↓e_inT, ↓e_notin, ↓e_ix, ↓e_ixT, ↓e_len, ↓e_lenT, ↓e_lenS, ↓intsK_m, ↓intsK_0, ↓intsK_s, ↓e_sum, ↓e_max, ↓e_min, ↓e_max2, ↓e_min2, ↓e_abs, ↓e_int, ↓e_intB, ↓e_list, ↓e_listT, ↓e_tuple, ↓boolsK_m, ↓e_all, ↓e_any, ↓e_sorted, ↓sortK_m, ↓sortK_p, ↓isN_i, ↓isN_n, ↓isN_l, ↓isN_t, ↓e_next, ↓e_seq, ↓e_break, ↓e_cont, ↓e_drop, ↓e_ret, ↓e_retN, ↓e_ifS, ↓e_set, ↓e_asg, ↓e_gnm, ↓e_gtp, ↓e_gs0, ↓e_gss, ↓lstK_l, ↓e_append, ↓extK_l, ↓e_extend, ↓e_popAt, ↓e_reverse, ↓e_setI2, ↓fzK_f, ↓e_aug, ↓e_augI2, ↓e_par, ↓e_par3, ↓e_index, ↓ite_dec, ↓ite_ndec, ↓ite_tr, ↓ite_fa, ↓ite_nt, ↓e_listZip, ↓lzK_l, ↓lzK_t, ↓at_0, ↓at_1, ↓at_2, ↓at_3, ↓tpK_2, ↓tpK_2', ↓tpK_3', ↓tpK_4', ↓tpK_3, ↓tpK_4, ↓e_lc, ↓wipeK_n, ↓wipeK_c, ↓e_yes, ↓rep_int, ↓eqK_nilI, ↓eqK_nilP, ↓eqK_ints, ↓atK_last, ↓eqK_Ni, ↓List.length_map, ↓Int.toNat_natCast, ↓e_for, ↓e_iLst, ↓e_iTpl, ↓e_iRg1, ↓e_iRg2, ↓e_iEnm, ↓e_iZp, ↓lsK_l, ↓tsK_t, ↓rg1K_i, ↓rg2K_i, ↓en1K_l, ↓zpK_l, ↓e_neNN, ↓ite_T, ↓ite_F, ↓og_0, ↓og_1, ↓og_2, ↓og_3, ↓is_0, ↓is_1, ↓is_2, ↓is_3, ↓aug_0, ↓aug_1, ↓aug_2, ↓aug_3, ↓q_is_whole, ↓q_rows_for, ↓q_free_of, ↓q_spill, ↓q_needs_of, ↓q_spill_behind, ↓q_law_kind, ↓q_is_put_t, ↓q_is_put_n, ↓q_is_put_l, ↓q_put, ↓uns_0, ↓uns_s, ↓getD_0, List.cons_append, List.nil_append, List.length_cons, List.length_nil, true_and, and_true]))
section
variable {P : Program} {w : World} {K : PySem.W.Frag} {mg : Str → Option Value} {base : Heap}
theorem okd_is_greatest (T : Txt K mg) : Okd P w K mg base 5 "is_greatest" 4 [] p_is_greatest := by
  refine T.d_is_greatest.okP sc_is_greatest 0 rfl rfl fun f cdv A outer s H E hr => ⟨_, _,
    (dss_cons (ds_if (dt_not (dt_val (de_fn [] (okd_is_put T) (hr.mono (by decide)) (da_cons (db_of (de_var 0)) (da_cons (db_of (de_var 2)) (da_cons (db_of (de_var 3)) da_nil))))))
      (dss_one (ds_ret de_bl))
      dss_nil)
      (dss_one (ds_ret (de_cmp (op_eqU hr.units) sr_eq (db_of (de_fn [] (okd_spill_behind T) (hr.mono (by decide)) (da_cons (db_of (de_var 0)) (da_cons (db_of (de_var 1)) (da_cons (db_of (de_var 3)) da_nil))))) (db_of (de_ix (db_of (de_fn [] (okd_greatest_spill T) (hr.mono (by decide)) (da_cons (db_of (de_var 0)) (da_cons (db_of (de_var 1)) (da_cons (db_of (de_var 2)) da_nil))))) (db_of de_int))) (nomark _))))), fun as Qd h => ?_⟩
  obtain ⟨ns, w, more, d, rfl, hw, hn, h0, hd, q⟩ := h
  cases hd with
  | tup ds =>
    walk_at "dl"
    exact q
  | none =>
    walk_at "dl"
    exact q
  | nums ps hps =>
    rw [isBestD_l] at q
    walk_at "dl"
    refine ⟨hps, ?_⟩
    by_cases hp : isPutF ns.length more ps = true
    · rw [if_pos hp]
      rw [hp] at q
      exact ⟨hw, hn, hw, hn, h0, q⟩
    · rw [if_neg hp]
      have : isPutF ns.length more ps = false := by simpa using hp
      rw [this] at q
      exact q
theorem okd_is_least (T : Txt K mg) : Okd P w K mg base 5 "is_least" 4 [] p_is_least := by
  refine T.d_is_least.okP sc_is_least 0 rfl rfl fun f cdv A outer s H E hr => ⟨_, _,
    (dss_cons (ds_if (dt_not (dt_val (de_fn [] (okd_is_put T) (hr.mono (by decide)) (da_cons (db_of (de_var 0)) (da_cons (db_of (de_var 2)) (da_cons (db_of (de_var 3)) da_nil))))))
      (dss_one (ds_ret de_bl))
      dss_nil)
      (dss_one (ds_ret (de_cmp (op_eqU hr.units) sr_eq (db_of (de_fn [] (okd_spill_behind T) (hr.mono (by decide)) (da_cons (db_of (de_var 0)) (da_cons (db_of (de_var 1)) (da_cons (db_of (de_var 3)) da_nil))))) (db_of (de_ix (db_of (de_fn [] (okd_least_spill T) (hr.mono (by decide)) (da_cons (db_of (de_var 0)) (da_cons (db_of (de_var 1)) (da_cons (db_of (de_var 2)) da_nil))))) (db_of de_int))) (nomark _))))), fun as Qd h => ?_⟩
  obtain ⟨ns, w, more, d, rfl, hw, hn, h0, hd, q⟩ := h
  cases hd with
  | tup ds =>
    walk_at "dl"
    exact q
  | none =>
    walk_at "dl"
    exact q
  | nums ps hps =>
    rw [isBestD_l] at q
    walk_at "dl"
    refine ⟨hps, ?_⟩
    by_cases hp : isPutF ns.length more ps = true
    · rw [if_pos hp]
      rw [hp] at q
      exact ⟨hw, hn, hw, hn, h0, q⟩
    · rw [if_neg hp]
      have : isPutF ns.length more ps = false := by simpa using hp
      rw [this] at q
      exact q
theorem okd_fewest_for (T : Txt K mg) : Okd P w K mg base 3 "fewest_for" 3 [] p_fewest_for := by
  refine T.d_fewest_for.okP sc_fewest_for 4 rfl rfl fun f cdv A outer s H E hr => ⟨_, _,
    (dss_cons (ds_set 3 sc_fewest_for.nd (de_callB (cr_maxU rfl) sc_max (by rfl) T.max (by decide +kernel) (da_cons (db_of de_int) (da_cons (db_of (de_op op_sub sr_sub (db_var 2) (db_of (de_fn [] (okd_spill T) (hr.mono (by decide)) (da_cons (db_of (de_var 0)) (da_cons (db_of (de_var 1)) da_nil)))))) da_nil))))
      (dss_cons (ds_setLc 4 (g := (gTup K _ (gCons _ (gCons _ gNil)))) rfl sc_fewest_for.nd (sw_true rfl rfl rfl (by decide +kernel)) (di_list (de_fn [] (okd_needs_of T) (hr.mono (by decide)) (da_cons (db_of (de_var 0)) (da_cons (db_of (de_var 1)) da_nil)))) (blkOk_by (own := [("need", 5), ("room", 6)]) (N := N_fewest_for) (sc := defScope s_fewest_for) (by decide +kernel))
        (fun _ _ _ _ _ => (dg_tup rfl (dgs_cons (dg_name 5 sc_fewest_for.nd) (dgs_cons (dg_name 6 sc_fewest_for.nd) dgs_nil)))) (fun _ _ _ _ _ => dts_nil)
        (fun _ _ _ _ _ => (de_var 5)))
      (dss_cons (ds_if (dt_cmp (op_eqU hr.units) sr_eq (db_var 3) (db_of de_int) (nomark _))
      (dss_one (ds_ret de_int))
      dss_nil)
      (dss_cons (ds_if (dt_cmp (op_eqU hr.units) sr_eq (db_var 4) (db_of (de_lst da_nil)) (nomark _))
      (dss_one (ds_ret (de_op op_addU sr_add (db_of (de_op op_mulU sr_mul (db_var 3) (db_var 1))) (db_of de_int))))
      dss_nil)
      (dss_one (ds_ret (de_op op_addU sr_add (db_of (de_callB (cr_sum rfl) sc_sum (by rfl) T.sum (by decide +kernel) (da_cons (db_of (de_slice (db_var 4) do_none (do_some (db_var 3)))) da_nil))) (db_of (de_op op_mulU sr_mul (db_var 1) (db_of (de_callB (cr_maxU rfl) sc_max (by rfl) T.max (by decide +kernel) (da_cons (db_of de_int) (da_cons (db_of (de_op op_sub sr_sub (db_var 3) (db_of (de_callB call_len sc_len (by rfl) T.len PySem.boot_len (da_cons (db_var 4) da_nil))))) da_nil))))))))))))), fun as Qd h => ?_⟩
  obtain ⟨ns, w, l, rfl, hw, hn, q⟩ := h
  walk_at "dl"
  refine ⟨hw, hn, hw, hn, ?_⟩
  have hnl := needs_len (w := w) (ns := ns)
  have hn' : ns.length ≤ 1000000 := hn
  refine LC.all pD (fun p => .int p.1) (by rw [sizeLine_eq]; omega) (fun p _ Kt Kf hk => ?_) ?_
  · unfold pD
    walk_at "dl"
    exact hk _ rfl
  · have e : (needsF ns w).map (fun p => PyData.int p.1) = ((needsF ns w).map fun p => p.1).map .int := by rw [List.map_map]; rfl
    rw [e]
    walk_at "dl"
    have hg : 0 ≤ (if l - spillF ns w > 0 then l - spillF ns w else 0) := by split <;> omega
    unfold fewF at q
    dsimp only at q
    rw [List.length_map] at q
    rw [cutD_take hg]
    generalize (if l - spillF ns w > 0 then l - spillF ns w else 0) = g at *
    by_cases h0 : g = 0
    · rw [if_pos h0] at q ⊢
      exact q
    · rw [if_neg h0] at q ⊢
      refine ⟨by decide, ?_⟩
      by_cases h1 : (needsF ns w).map (fun p => p.1) = []
      · rw [if_pos h1] at q ⊢
        exact ⟨hw.mul', q⟩
      · rw [if_neg h1] at q ⊢
        rw [← List.map_take]
        walk_at "dl"
        exact ⟨hw.mul, q⟩
theorem okd_most_for (T : Txt K mg) : Okd P w K mg base 3 "most_for" 3 [] p_most_for := by
  refine T.d_most_for.okP sc_most_for 2 rfl rfl fun f cdv A outer s H E hr => ⟨_, _,
    (dss_cons (ds_set 3 sc_most_for.nd (de_op op_sub sr_sub (db_var 2) (db_of (de_fn [] (okd_spill T) (hr.mono (by decide)) (da_cons (db_of (de_var 0)) (da_cons (db_of (de_var 1)) da_nil))))))
      (dss_cons (ds_if (dt_cmp (op_lt) sr_lt (db_var 3) (db_of de_int) (nomark _))
      (dss_one (ds_ret de_non))
      dss_nil)
      (dss_one (ds_ret (de_op op_addU sr_add (db_of (de_op op_mulU sr_mul (db_var 3) (db_var 1))) (db_of (de_callB (cr_sum rfl) sc_sum (by rfl) T.sum (by decide +kernel) (da_cons (db_of (de_lc rfl sc_most_for.nd (di_list (de_var 0)) (blkOk_by (own := [("many", 4)]) (N := N_most_for) (sc := defScope s_most_for) (by decide +kernel))
        (fun _ _ _ _ _ => (dg_name 4 sc_most_for.nd)) (fun _ _ _ _ _ => dts_nil)
        (fun _ _ _ _ _ => (de_fn [] (okd_free_of T) (hr.mono (by decide)) (da_cons (db_of (de_var 4)) (da_cons (db_of (de_var 1)) da_nil)))))) da_nil)))))))), fun as Qd h => ?_⟩
  obtain ⟨ns, w, l, rfl, hw, hn, q⟩ := h
  walk_at "dl"
  refine ⟨hw, hn, ?_⟩
  unfold mostF at q
  split
  · rename_i hlt
    rw [if_pos hlt] at q
    exact q
  · rename_i hlt
    rw [if_neg hlt] at q
    refine ⟨hw.mul', LC.ints (fun n => freeF n w) hn.sz (fun n _ Kt Kf hk => ?_) ?_⟩
    · walk_at "dl"
      exact ⟨hw, hk _ rfl⟩
    · walk_at "dl"
      exact q

end
end K07

set_option Elab.async false
set_option linter.all false
set_option maxRecDepth 100000
set_option maxHeartbeats 4000000
namespace K07
open PySem PySem.Spec L2 DL D07
open PyProof.Rows hiding St
local macro_rules | `(tactic| walk_at "dl") => `(tactic| ((try simp only [List.cons_append, List.nil_append, uns_0, uns_s]); simp -implicitDefEqProofs only [↓slotK_0, ↓slotK_s, ↓setK_0, ↓setK_s, ↓frzK_f, ↓frzK_l, ↓blK_b, ↓getK_d, ↓getK_v, ↓getsK_0, ↓getsK_s, ↓allK_0, ↓allK_s, ↓argK_0, ↓argK_s, ↓e_K, ↓e_name, ↓e_move, ↓e_nmB, ↓e_of, ↓e_bin, ↓e_bl, ↓e_chn, ↓e_and, ↓e_or, ↓e_not, ↓e_andV, ↓e_orV, ↓e_notV, ↓e_if, ↓e_nil, ↓e_cons, ↓e_tup, ↓e_lst, ↓e_cb, ↓e_isi, ↓negK_i, ↓e_neg, ↓e_fn0, ↓e_fn1, ↓callK_v, ↓e_noPart, ↓e_part, ↓e_sl, ↓e_rev, ↓slK_l, ↓slK_t, ↓revK_l, ↓e_add, ↓e_addL, ↓e_addT, ↓e_addS, ↓e_sub, ↓e_mul, ↓e_mulL, ↓e_div, ↓e_mod, ↓e_pow, ↓e_shl, ↓e_lt, ↓e_le, ↓e_gt, ↓e_ge, ↓e_eq, ↓e_ne, ↓e_eqS, ↓e_neS, ↓e_eqB, ↓e_neB, ↓e_eqL, ↓e_neL, ↓e_eqT, ↓e_neT, ↓e_eqN, ↓e_eqIN, ↓e_is, ↓e_isB, ↓e_isnot, ↓e_isnotB, ↓e_in, ↓e_inT, ↓e_notin, ↓e_ix, ↓e_ixT, ↓e_len, ↓e_lenT, ↓e_lenS, ↓intsK_m, ↓intsK_0, ↓intsK_s, ↓e_sum, ↓e_max, ↓e_min, ↓e_max2, ↓e_min2, ↓e_abs, ↓e_int, ↓e_intB, ↓e_list, ↓e_listT, ↓e_tuple, ↓boolsK_m, ↓e_all, ↓e_any, ↓e_sorted, ↓sortK_m, ↓sortK_p, ↓isN_i, ↓isN_n, ↓isN_l, ↓isN_t, ↓e_next, ↓e_seq, ↓e_break, ↓e_cont, ↓e_drop, ↓e_ret, ↓e_retN, ↓e_ifS, ↓e_set, ↓e_asg, ↓e_gnm, ↓e_gtp, ↓e_gs0, ↓e_gss, ↓lstK_l, ↓e_append, ↓extK_l, ↓e_extend, ↓e_popAt, ↓e_reverse, ↓e_setI2, ↓fzK_f, ↓e_aug, ↓e_augI2, ↓e_par, ↓e_par3, ↓e_index, ↓ite_dec, ↓ite_ndec, ↓ite_tr, ↓ite_fa, ↓ite_nt, ↓e_listZip, ↓lzK_l, ↓lzK_t, ↓at_0, ↓at_1, ↓at_2, ↓at_3, ↓tpK_2, ↓tpK_2', ↓tpK_3', ↓tpK_4', ↓tpK_3, ↓tpK_4, ↓e_lc, ↓wipeK_n, ↓wipeK_c, ↓e_yes, ↓rep_int, ↓eqK_nilI, ↓eqK_nilP, ↓eqK_ints, ↓atK_last, ↓eqK_Ni, ↓List.length_map, ↓Int.toNat_natCast, ↓e_for, ↓e_iLst, ↓e_iTpl, ↓e_iRg1, ↓e_iRg2, ↓e_iEnm, ↓e_iZp, ↓lsK_l, ↓tsK_t, ↓rg1K_i, ↓rg2K_i, ↓en1K_l, ↓zpK_l, ↓e_neNN, ↓ite_T, ↓ite_F, ↓og_0, ↓og_1, ↓og_2, ↓og_3, ↓is_0, ↓is_1, ↓is_2, ↓is_3, ↓aug_0, ↓aug_1, ↓aug_2, ↓aug_3, ↓q_law_kind, ↓q_law_more_rows, ↓q_law_slack, ↓uns_0, ↓uns_s, ↓getD_0, List.cons_append, List.nil_append, List.length_cons, List.length_nil, true_and, and_true]))
section
variable {P : Program} {w : World} {K : PySem.W.Frag} {mg : Str → Option Value} {base : Heap}
theorem okd_law_more_rows (T : Txt K mg) : Okd P w K mg base 1 "_law_more_rows" 2 [] p_law_more_rows := by
  refine T.d_law_more_rows.okP sc_law_more_rows 0 rfl rfl fun f cdv A outer s H E hr => ⟨_, _,
    (dss_one (ds_ret (de_if (dt_cmp (op_gt) sr_gt (db_var 0) (db_of de_int) (nomark _)) (de_callTy call_int1 sc_int (by rfl) T.int (by decide +kernel) (da_cons (db_of (de_op op_fdivW sr_div (db_of (de_op op_sub sr_sub (db_var 0) (db_of de_int))) (db_var 1))) da_nil)) de_int))), fun as Qd h => ?_⟩
  obtain ⟨m, w, rfl, hw, q⟩ := h
  unfold moreF at q
  walk_at "dl"
  split
  · rename_i hm
    rw [if_pos hm] at q
    exact ⟨hw.div, q⟩
  · rename_i hm
    rw [if_neg hm] at q
    exact q
theorem okd_law_spill (T : Txt K mg) : Okd P w K mg base 2 "_law_spill" 2 [] p_law_spill := by
  refine T.d_law_spill.okP sc_law_spill 1 rfl rfl fun f cdv A outer s H E hr => ⟨_, _,
    (dss_one (ds_ret (de_callB (cr_sum rfl) sc_sum (by rfl) T.sum (by decide +kernel) (da_cons (db_of (de_lc rfl sc_law_spill.nd (di_list (de_var 0)) (blkOk_by (own := [("many", 2)]) (N := N_law_spill) (sc := defScope s_law_spill) (by decide +kernel))
        (fun _ _ _ _ _ => (dg_name 2 sc_law_spill.nd)) (fun _ _ _ _ _ => dts_nil)
        (fun _ _ _ _ _ => (de_fn [] (okd_law_more_rows T) (hr.mono (by decide)) (da_cons (db_of (de_var 2)) (da_cons (db_of (de_var 1)) da_nil)))))) da_nil)))), fun as Qd h => ?_⟩
  obtain ⟨ns, w, rfl, hw, hn, q⟩ := h
  walk_at "dl"
  refine LC.ints (fun n => moreF n w) hn.sz (fun n _ Kt Kf hk => ?_) ?_
  · walk_at "dl"
    exact ⟨hw, hk _ rfl⟩
  · walk_at "dl"
    exact q
theorem okd_law_slack (T : Txt K mg) : Okd P w K mg base 1 "_law_slack" 2 [] p_law_slack := by
  refine T.d_law_slack.okP sc_law_slack 0 rfl rfl fun f cdv A outer s H E hr => ⟨_, _,
    (dss_one (ds_ret (de_if (dt_cmp (op_gt) sr_gt (db_var 0) (db_of de_int) (nomark _)) (de_op op_sub sr_sub (db_of (de_op op_sub sr_sub (db_var 1) (db_of de_int))) (db_of (de_callTy call_int1 sc_int (by rfl) T.int (by decide +kernel) (da_cons (db_of (de_op op_mod sr_mod (db_of (de_op op_sub sr_sub (db_var 0) (db_of de_int))) (db_var 1))) da_nil)))) (de_var 1)))), fun as Qd h => ?_⟩
  obtain ⟨m, w, rfl, hw, q⟩ := h
  unfold slackF at q
  walk_at "dl"
  split
  · rename_i hm
    rw [if_pos hm] at q
    exact ⟨hw.1, q⟩
  · rename_i hm
    rw [if_neg hm] at q
    exact q
theorem okd_law_greatest (T : Txt K mg) : Okd P w K mg base 2 "_law_greatest" 4 [] p_law_greatest := by
  refine T.d_law_greatest.okP sc_law_greatest 1 rfl rfl fun f cdv A outer s H E hr => ⟨_, _,
    (dss_cons (ds_set 4 sc_law_greatest.nd (de_op op_addU sr_add (db_of (de_fn [] (okd_law_slack T) (hr.mono (by decide)) (da_cons (db_of (de_var 0)) (da_cons (db_of (de_var 2)) da_nil)))) (db_of de_int)))
      (dss_cons (ds_if (dt_cmp (op_eqU hr.units) sr_eq (db_var 0) (db_of de_int) (nomark _))
      (dss_one (ds_ret (de_if (dt_cmp (op_gt) sr_gt (db_var 3) (db_of de_int) (nomark _)) (de_callTy call_int1 sc_int (by rfl) T.int (by decide +kernel) (da_cons (db_of (de_op op_fdivW sr_div (db_of (de_op op_sub sr_sub (db_var 3) (db_of de_int))) (db_var 2))) da_nil)) de_int)))
      dss_nil)
      (dss_cons (ds_if (dt_cmp (op_le) sr_le (db_var 3) (db_of (de_op op_mulU sr_mul (db_var 1) (db_var 4))) (nomark _))
      (dss_one (ds_ret (de_callTy call_int1 sc_int (by rfl) T.int (by decide +kernel) (da_cons (db_of (de_op op_fdivW sr_div (db_var 3) (db_var 4))) da_nil))))
      dss_nil)
      (dss_one (ds_ret (de_op op_addU sr_add (db_var 1) (db_of (de_callTy call_int1 sc_int (by rfl) T.int (by decide +kernel) (da_cons (db_of (de_op op_fdivW sr_div (db_of (de_op op_sub sr_sub (db_var 3) (db_of (de_op op_mulU sr_mul (db_var 1) (db_var 4))))) (db_var 2))) da_nil))))))))), fun as Qd h => ?_⟩
  obtain ⟨m, r, w, e, rfl, hw, hr', q⟩ := h
  unfold greatF at q
  dsimp only at q
  walk_at "dl"
  refine ⟨hw, ?_⟩
  have hs : 0 < slackF m w + 1 ∧ slackF m w + 1 ≤ 9 := slack_b hw
  split
  · rename_i h1
    rw [if_pos h1] at q
    split
    · rename_i h2
      rw [if_pos h2] at q
      exact ⟨hw.div, q⟩
    · rename_i h2
      rw [if_neg h2] at q
      exact q
  · rename_i h1
    rw [if_neg h1] at q
    refine ⟨hr'.mul, ?_⟩
    split
    · rename_i h2
      rw [if_pos h2] at q
      exact ⟨⟨hs.1, by omega⟩, q⟩
    · rename_i h2
      rw [if_neg h2] at q
      exact ⟨hr'.mul, hw.div, q⟩
theorem okd_law_least (T : Txt K mg) : Okd P w K mg base 2 "_law_least" 4 [] p_law_least := by
  refine T.d_law_least.okP sc_law_least 1 rfl rfl fun f cdv A outer s H E hr => ⟨_, _,
    (dss_cons (ds_set 4 sc_law_least.nd (de_op op_mulU sr_mul (db_var 1) (db_of (de_fn [] (okd_law_slack T) (hr.mono (by decide)) (da_cons (db_of (de_var 0)) (da_cons (db_of (de_var 2)) da_nil))))))
      (dss_one (ds_ret (de_if (dt_cmp (op_gt) sr_gt (db_var 3) (db_var 4) (nomark _)) (de_callTy call_int1 sc_int (by rfl) T.int (by decide +kernel) (da_cons (db_of (de_op op_fdivW sr_div (db_of (de_op op_sub sr_sub (db_of (de_op op_addU sr_add (db_of (de_op op_sub sr_sub (db_var 3) (db_var 4))) (db_var 2))) (db_of de_int))) (db_var 2))) da_nil)) de_int)))), fun as Qd h => ?_⟩
  obtain ⟨m, r, w, e, rfl, hw, hr', q⟩ := h
  unfold leastF at q
  dsimp only at q
  walk_at "dl"
  refine ⟨hw, hr'.mul, ?_⟩
  split
  · rename_i h2
    rw [if_pos h2] at q
    exact ⟨hw.div, q⟩
  · rename_i h2
    rw [if_neg h2] at q
    exact q
theorem okd_law_fewest (T : Txt K mg) : Okd P w K mg base 2 "_law_fewest" 4 [] p_law_fewest := by
  refine T.d_law_fewest.okP sc_law_fewest 1 rfl rfl fun f cdv A outer s H E hr => ⟨_, _,
    (dss_cons (ds_set 4 sc_law_fewest.nd (de_op op_addU sr_add (db_of (de_fn [] (okd_law_slack T) (hr.mono (by decide)) (da_cons (db_of (de_var 0)) (da_cons (db_of (de_var 2)) da_nil)))) (db_of de_int)))
      (dss_cons (ds_if (dt_cmp (op_le) sr_le (db_var 3) (db_of de_int) (nomark _))
      (dss_one (ds_ret de_int))
      dss_nil)
      (dss_cons (ds_if (dt_cmp (op_eqU hr.units) sr_eq (db_var 0) (db_of de_int) (nomark _))
      (dss_one (ds_ret (de_op op_addU sr_add (db_of (de_op op_mulU sr_mul (db_var 3) (db_var 2))) (db_of de_int))))
      dss_nil)
      (dss_one (ds_ret (de_if (dt_cmp (op_le) sr_le (db_var 3) (db_var 1) (nomark _)) (de_op op_mulU sr_mul (db_var 3) (db_var 4)) (de_op op_addU sr_add (db_of (de_op op_mulU sr_mul (db_var 1) (db_var 4))) (db_of (de_op op_mulU sr_mul (db_of (de_op op_sub sr_sub (db_var 3) (db_var 1))) (db_var 2)))))))))), fun as Qd h => ?_⟩
  obtain ⟨m, r, w, k, rfl, hw, hr', q⟩ := h
  unfold fewLF at q
  dsimp only at q
  walk_at "dl"
  refine ⟨hw, ?_⟩
  split
  · rename_i h1
    rw [if_pos h1] at q
    exact q
  · rename_i h1
    rw [if_neg h1] at q
    split
    · rename_i h2
      rw [if_pos h2] at q
      exact ⟨hw.mul', q⟩
    · rename_i h2
      rw [if_neg h2] at q
      have hs : 0 < slackF m w + 1 ∧ slackF m w + 1 ≤ 9 := slack_b hw
      split
      · rename_i h3
        rw [if_pos h3] at q
        exact ⟨mulOk_r (by omega) (by omega), q⟩
      · rename_i h3
        rw [if_neg h3] at q
        exact ⟨hr'.mul, hw.mul', q⟩
theorem okd_law_behind (T : Txt K mg) : Okd P w K mg base 1 "_law_behind" 2 [] p_law_behind := by
  refine T.d_law_behind.okP sc_law_behind 1 rfl rfl fun f cdv A outer s H E hr => ⟨_, _,
    (dss_one (ds_ret (de_lc rfl sc_law_behind.nd (di_list (de_var 1)) (blkOk_by (own := [("more", 2)]) (N := N_law_behind) (sc := defScope s_law_behind) (by decide +kernel))
        (fun _ _ _ _ _ => (dg_name 2 sc_law_behind.nd)) (fun _ _ _ _ _ => dts_nil)
        (fun _ _ _ _ _ => (de_op op_addU sr_add (db_var 0) (db_var 2)))))), fun as Qd h => ?_⟩
  obtain ⟨m, ps, rfl, hn, q⟩ := h
  walk_at "dl"
  refine LC.ints (fun n => m + n) hn.sz (fun n _ Kt Kf hk => ?_) ?_
  · walk_at "dl"
    exact hk _ rfl
  · exact q
theorem okd_law_worst (T : Txt K mg) : Okd P w K mg base 2 "_law_worst" 4 [] p_law_worst := by
  refine T.d_law_worst.okP sc_law_worst 3 rfl rfl fun f cdv A outer s H E hr => ⟨_, _,
    (dss_cons (ds_par 4 5 rfl sc_law_worst.nd
      (de_op op_addU sr_add (db_of (de_fn [] (okd_law_slack T) (hr.mono (by decide)) (da_cons (db_of (de_var 0)) (da_cons (db_of (de_var 2)) da_nil)))) (db_of de_int))
      (de_op op_mulU sr_mul (db_of (de_lst (da_cons (db_of de_int) da_nil))) (db_var 1)))
      (dss_cons (ds_if (dt_cmp (op_eqU hr.units) sr_eq (db_var 0) (db_of de_int) (nomark _))
      (dss_one (ds_ret (de_op op_addU sr_add (db_of (de_lst (da_cons (db_of (de_var 3)) da_nil))) (db_of (de_op op_mulU sr_mul (db_of (de_lst (da_cons (db_of de_int) da_nil))) (db_of (de_op op_sub sr_sub (db_var 1) (db_of de_int))))))))
      dss_nil)
      (dss_cons (ds_for PassesOwn.never rfl (di_range1 (by rfl) T.range (da_cons (db_var 1) da_nil)) (dg_name 6 sc_law_worst.nd)
      (dss_cons (ds_setI 5 (de_if (dt_cmp (op_ge) sr_ge (db_var 3) (db_var 4) (nomark _)) (de_var 4) de_int) (db_var 6))
      (dss_one (ds_set 3 sc_law_worst.nd (de_op op_sub sr_sub (db_var 3) (db_of (de_ix (db_var 5) (db_var 6))))))))
      (dss_cons (ds_setI 5 (de_op op_addU sr_add (db_of (de_ix (db_var 5) (db_of de_int))) (db_var 3)) (db_of de_int))
      (dss_one (ds_ret (de_move 5))))))), fun as Qd h => ?_⟩
  obtain ⟨m, r, w, e, rfl, hw, hr', q⟩ := h
  walk_at "dl"
  refine ⟨hw, by decide, hr'.rep, ?_⟩
  have hr1 := hr'.1
  have hr2 := hr'.2
  unfold worstF at q
  split
  · rename_i h1
    rw [if_pos h1] at q
    exact ⟨by decide, by decide, hr'.rep', by rw [sizeLine_eq, List.length_replicate]; omega, q⟩
  · rename_i h1
    rw [if_neg h1] at q
    refine ⟨hr'.rg, ?_⟩
    generalize hv : (fun x => if slackF m w + 1 ≤ x then slackF m w + 1 else 0) = v at q
    have hv' : ∀ x, v x = if slackF m w + 1 ≤ x then slackF m w + 1 else 0 := fun x => by rw [← hv]
    refine FR.range0 (fun i ρ => ∃ s6, ρ = [.fz (.int m), .fz (.int r), .fz (.int w), .fz (.int (goF v i e).2), .fz (.int (slackF m w + 1)), .lst (((goF v i e).1 ++ List.replicate (r.toNat - i) 0).map .int), s6]) ⟨_, by simp [goF]; rfl⟩ ?_ ?_
    · rintro i _ hi ⟨s6, rfl⟩
      have hl := goF_len v i e
      have hl2 : ((goF v i e).1 ++ List.replicate (r.toNat - i) 0).length = r.toNat := by simp; omega
      have e2 : (i : Int).toNat = i := Int.toNat_natCast i
      walk_at "dl"
      have fin : isK (((goF v i e).1 ++ List.replicate (r.toNat - i) 0).map .int) (i : Int) (.int (v (goF v i e).2)) fun ds' => atK ds' (i : Int) fun d => dSub (.int (goF v i e).2) d fun s =>
          Wk (fun ρ => ∃ s6, ρ = [.fz (.int m), .fz (.int r), .fz (.int w), .fz (.int (goF v (i + 1) e).2), .fz (.int (slackF m w + 1)), .lst (((goF v (i + 1) e).1 ++ List.replicate (r.toNat - (i + 1)) 0).map .int), s6])
            [.fz (.int m), .fz (.int r), .fz (.int w), s, .fz (.int (slackF m w + 1)), .lst ds', .fz (.int i)] := by
        rw [isK_ints (by omega) (by omega), e2, go_set hl hi, atK_ints (by omega) (by simp; omega), e2, go_get hl]
        exact Wk.mk ⟨_, rfl⟩
      rw [hv'] at fin
      split
      · rename_i h2
        rw [if_pos h2] at fin
        exact fin
      · rename_i h2
        rw [if_neg h2] at fin
        exact fin
    · rintro _ ⟨s6, rfl⟩
      have hl := goF_len v r.toNat e
      rw [Nat.sub_self, List.replicate_zero, List.append_nil]
      walk_at "dl"
      rw [atK_ints (by omega) (by omega)]
      walk_at "dl"
      rw [isK_ints (by omega) (by omega)]
      (try walk_at "dl")
      exact q
theorem okd_law_best (T : Txt K mg) : Okd P w K mg base 2 "_law_best" 4 [] p_law_best := by
  refine T.d_law_best.okP sc_law_best 3 rfl rfl fun f cdv A outer s H E hr => ⟨_, _,
    (dss_cons (ds_par 4 5 rfl sc_law_best.nd
      (de_fn [] (okd_law_slack T) (hr.mono (by decide)) (da_cons (db_of (de_var 0)) (da_cons (db_of (de_var 2)) da_nil)))
      (de_op op_mulU sr_mul (db_of (de_lst (da_cons (db_of de_int) da_nil))) (db_var 1)))
      (dss_cons (ds_for PassesOwn.never rfl (di_range1 (by rfl) T.range (da_cons (db_var 1) da_nil)) (dg_name 6 sc_law_best.nd)
      (dss_cons (ds_setI 5 (de_callB (cr_minU rfl) sc_min (by rfl) T.min (by decide +kernel) (da_cons (db_var 4) (da_cons (db_var 3) da_nil))) (db_var 6))
      (dss_one (ds_set 3 sc_law_best.nd (de_op op_sub sr_sub (db_var 3) (db_of (de_ix (db_var 5) (db_var 6))))))))
      (dss_cons (ds_setI 5 (de_op op_addU sr_add (db_of (de_ix (db_var 5) (db_of (de_op op_sub sr_sub (db_var 1) (db_of de_int))))) (db_var 3)) (db_of (de_op op_sub sr_sub (db_var 1) (db_of de_int))))
      (dss_one (ds_ret (de_move 5)))))), fun as Qd h => ?_⟩
  obtain ⟨m, r, w, e, rfl, hw, hr', q⟩ := h
  walk_at "dl"
  refine ⟨hw, by decide, hr'.rep, hr'.rg, ?_⟩
  have hr1 := hr'.1
  have hr2 := hr'.2
  unfold bestF at q
  generalize hv : (fun x => if x < slackF m w then x else slackF m w) = v at q
  have hv' : ∀ x, v x = if x < slackF m w then x else slackF m w := fun x => by rw [← hv]
  refine FR.range0 (fun i ρ => ∃ s6, ρ = [.fz (.int m), .fz (.int r), .fz (.int w), .fz (.int (goF v i e).2), .fz (.int (slackF m w)), .lst (((goF v i e).1 ++ List.replicate (r.toNat - i) 0).map .int), s6]) ⟨_, by simp [goF]; rfl⟩ ?_ ?_
  · rintro i _ hi ⟨s6, rfl⟩
    have hl := goF_len v i e
    have hl2 : ((goF v i e).1 ++ List.replicate (r.toNat - i) 0).length = r.toNat := by simp; omega
    have e2 : (i : Int).toNat = i := Int.toNat_natCast i
    walk_at "dl"
    have fin : isK (((goF v i e).1 ++ List.replicate (r.toNat - i) 0).map .int) (i : Int) (.int (v (goF v i e).2)) fun ds' => atK ds' (i : Int) fun d => dSub (.int (goF v i e).2) d fun s =>
        Wk (fun ρ => ∃ s6, ρ = [.fz (.int m), .fz (.int r), .fz (.int w), .fz (.int (goF v (i + 1) e).2), .fz (.int (slackF m w)), .lst (((goF v (i + 1) e).1 ++ List.replicate (r.toNat - (i + 1)) 0).map .int), s6])
          [.fz (.int m), .fz (.int r), .fz (.int w), s, .fz (.int (slackF m w)), .lst ds', .fz (.int i)] := by
      rw [isK_ints (by omega) (by omega), e2, go_set hl hi, atK_ints (by omega) (by simp; omega), e2, go_get hl]
      exact Wk.mk ⟨_, rfl⟩
    rw [hv'] at fin
    exact fin
  · rintro _ ⟨s6, rfl⟩
    have hl := goF_len v r.toNat e
    rw [Nat.sub_self, List.replicate_zero, List.append_nil]
    walk_at "dl"
    rw [atK_ints (by omega) (by omega)]
    walk_at "dl"
    rw [isK_ints (by omega) (by omega)]
    (try walk_at "dl")
    exact q
theorem okd_law_is_put (T : Txt K mg) : Okd P w K mg base 2 "_law_is_put" 3 [] p_law_is_put := by
  refine T.d_law_is_put.okP sc_law_is_put 1 rfl rfl fun f cdv A outer s H E hr => ⟨_, _,
    (dss_cons (ds_if (dw_pt (dw_or (dt_not (dt_val (de_isi .list (by rfl) T.isinstance (db_var 0) (pe_bltn (by rfl) T.list (by decide +kernel) rfl)))) (dw_or1 (dt_cmp (op_neU hr.units) sr_ne (db_of (de_callB call_len sc_len (by rfl) T.len PySem.boot_len (da_cons (db_var 0) da_nil))) (db_var 1) (nomark _)))))
      (dss_one (ds_ret de_bl))
      dss_nil)
      (dss_cons (ds_if (dt_cmp (op_neU hr.units) sr_ne (db_of (de_lc rfl sc_law_is_put.nd (di_list (de_var 0)) (blkOk_by (own := [("one", 3)]) (N := N_law_is_put) (sc := defScope s_law_is_put) (by decide +kernel))
        (fun _ _ _ _ _ => (dg_name 3 sc_law_is_put.nd)) (fun _ _ _ _ _ => dts_one (dw_pt (dw_or (dt_cmp (op_neU hr.units) sr_ne (db_of (de_fn [] (okd_law_kind T) (hr.mono (by decide)) (da_cons (db_of (de_var 3)) da_nil))) (db_of de_int) (nomark _)) (dw_or1 (dt_cmp (op_lt) sr_lt (db_var 3) (db_of de_int) (nomark _))))))
        (fun _ _ _ _ _ => de_int))) (db_of (de_lst da_nil)) (nomark _))
      (dss_one (ds_ret de_bl))
      dss_nil)
      (dss_one (ds_ret (de_cmp (op_eqU hr.units) sr_eq (db_of (de_callB (cr_sum rfl) sc_sum (by rfl) T.sum (by decide +kernel) (da_cons (db_var 0) da_nil))) (db_var 2) (nomark _)))))), fun as Qd h => ?_⟩
  obtain ⟨d, r, e, rfl, hr', hd, q⟩ := h
  cases hd with
  | tup ds =>
    walk_at "dl"
    rw [if_neg (by simp [isTy])]
    exact q
  | none =>
    walk_at "dl"
    rw [if_neg (by simp [isTy])]
    exact q
  | nums ps hps =>
    walk_at "dl"
    rw [if_pos (by simp [isTy])]
    rw [isPutD_l] at q
    by_cases hl : (ps.length : Int) = r
    · rw [if_pos hl]
      have hl' : ps.length = r.toNat := by omega
      refine LC.filt (fun n => decide (n < 0)) (fun _ => 1) hps.sz (fun n _ Kt Kf ht hf => ?_) ?_
      · walk_at "dl"
        rw [if_pos (show kindF (PyData.int n) = 1 from rfl)]
        split
        · rename_i h0
          exact ht (by simpa using h0) _ rfl
        · rename_i h0
          exact hf (by simpa using h0) _ rfl
      · walk_at "dl"
        refine ⟨by decide, ?_⟩
        by_cases ha : (ps.all fun p => decide (0 ≤ p)) = true
        · have h1 : ps.filter (fun n => decide (n < 0)) = [] := by
            rw [List.filter_eq_nil_iff]
            intro x hx
            have := List.all_eq_true.mp ha x hx
            simp at this ⊢
            omega
          have h2 : isPutF r.toNat e ps = decide (ps.sum = e) := by unfold isPutF; rw [ha, hl']; simp
          rw [if_pos (by rw [h1]; rfl)]
          rw [h2] at q
          exact q
        · have h1 : ps.filter (fun n => decide (n < 0)) ≠ [] := fun z => by
            rw [List.filter_eq_nil_iff] at z
            exact ha (List.all_eq_true.mpr fun x hx => by have := z x hx; simp at this ⊢; omega)
          have h2 : isPutF r.toNat e ps = false := by
            have : (ps.all fun p => decide (0 ≤ p)) = false := by simpa using ha
            unfold isPutF; rw [this]; simp
          rw [if_neg (by simpa using h1)]
          rw [h2] at q
          exact q
    · rw [if_neg hl]
      have : isPutF r.toNat e ps = false := by
        unfold isPutF
        have : ps.length ≠ r.toNat := by have := hr'.1; omega
        simp [this]
      rw [this] at q
      exact q

end
end K07

set_option Elab.async false
set_option linter.all false
set_option maxRecDepth 100000
set_option maxHeartbeats 8000000
namespace K07
open PySem PySem.Spec L2 DL D07
open PyProof.Rows hiding St
def p_law_spills_right : PSpec := fun as Q => ∃ (L : List D) (m r w e : Int), as = [.lst L, .fz (.int m), .fz (.int r), .fz (.int w), .fz (.int e)] ∧ Wd w ∧ Rm r ∧ 0 ≤ m ∧ 0 ≤ e ∧ Q (.fz (.bool true)) as
local macro_rules | `(tactic| walk_at "dl") => `(tactic| ((try simp only [List.cons_append, List.nil_append, uns_0, uns_s]); simp -implicitDefEqProofs only [↓slotK_0, ↓slotK_s, ↓setK_0, ↓setK_s, ↓frzK_f, ↓frzK_l, ↓blK_b, ↓getK_d, ↓getK_v, ↓getsK_0, ↓getsK_s, ↓allK_0, ↓allK_s, ↓argK_0, ↓argK_s, ↓e_K, ↓e_name, ↓e_move, ↓e_nmB, ↓e_of, ↓e_bin, ↓e_bl, ↓e_chn, ↓e_and, ↓e_or, ↓e_not, ↓e_andV, ↓e_orV, ↓e_notV, ↓e_if, ↓e_nil, ↓e_cons, ↓e_tup, ↓e_lst, ↓e_cb, ↓e_isi, ↓negK_i, ↓e_neg, ↓e_fn0, ↓e_fn1, ↓callK_v, ↓e_noPart, ↓e_part, ↓e_sl, ↓e_rev, ↓slK_l, ↓slK_t, ↓revK_l, ↓e_add, ↓e_addL, ↓e_addT, ↓e_addS, ↓e_sub, ↓e_mul, ↓e_mulL, ↓e_div, ↓e_mod, ↓e_pow, ↓e_shl, ↓e_lt, ↓e_le, ↓e_gt, ↓e_ge, ↓e_eq, ↓e_ne, ↓e_eqS, ↓e_neS, ↓e_eqB, ↓e_neB, ↓e_eqL, ↓e_neL, ↓e_eqT, ↓e_neT, ↓e_eqN, ↓e_eqIN, ↓e_is, ↓e_isB, ↓e_isnot, ↓e_isnotB, ↓e_in, ↓e_inT, ↓e_notin, ↓e_ix, ↓e_ixT, ↓e_len, ↓e_lenT, ↓e_lenS, ↓intsK_m, ↓intsK_0, ↓intsK_s, ↓e_sum, ↓e_max, ↓e_min, ↓e_max2, ↓e_min2, ↓e_abs, ↓e_int, ↓e_intB, ↓e_list, ↓e_listT, ↓e_tuple, ↓boolsK_m, ↓e_all, ↓e_any, ↓e_sorted, ↓sortK_m, ↓sortK_p, ↓isN_i, ↓isN_n, ↓isN_l, ↓isN_t, ↓e_next, ↓e_seq, ↓e_break, ↓e_cont, ↓e_drop, ↓e_ret, ↓e_retN, ↓e_ifS, ↓e_set, ↓e_asg, ↓e_gnm, ↓e_gtp, ↓e_gs0, ↓e_gss, ↓lstK_l, ↓e_append, ↓extK_l, ↓e_extend, ↓e_popAt, ↓e_reverse, ↓e_setI2, ↓fzK_f, ↓e_aug, ↓e_augI2, ↓e_par, ↓e_par3, ↓e_index, ↓ite_dec, ↓ite_ndec, ↓ite_tr, ↓ite_fa, ↓ite_nt, ↓e_listZip, ↓lzK_l, ↓lzK_t, ↓at_0, ↓at_1, ↓at_2, ↓at_3, ↓tpK_2, ↓tpK_2', ↓tpK_3', ↓tpK_4', ↓tpK_3, ↓tpK_4, ↓e_lc, ↓wipeK_n, ↓wipeK_c, ↓e_yes, ↓rep_int, ↓eqK_nilI, ↓eqK_nilP, ↓eqK_ints, ↓atK_last, ↓eqK_Ni, ↓List.length_map, ↓Int.toNat_natCast, ↓e_for, ↓e_iLst, ↓e_iTpl, ↓e_iRg1, ↓e_iRg2, ↓e_iEnm, ↓e_iZp, ↓lsK_l, ↓tsK_t, ↓rg1K_i, ↓rg2K_i, ↓en1K_l, ↓zpK_l, ↓e_neNN, ↓ite_T, ↓ite_F, ↓og_0, ↓og_1, ↓og_2, ↓og_3, ↓is_0, ↓is_1, ↓is_2, ↓is_3, ↓aug_0, ↓aug_1, ↓aug_2, ↓aug_3, ↓q_law_kind, ↓q_law_more_rows, ↓q_law_slack, ↓q_sp4, ↓q_sp4l, ↓q_law_spill, ↓q_law_behind, ↓q_law_is_put_t, ↓q_law_is_put_n, ↓q_law_is_put_l, ↓q_put, ↓q_best_t, ↓q_best_n, ↓q_best_l, ↓q_spill, ↓q_longest, ↓q_rows_for, ↓uns_0, ↓uns_s, ↓getD_0, List.cons_append, List.nil_append, List.length_cons, List.length_nil, true_and, and_true]))
section
variable {P : Program} {w : World} {K : PySem.W.Frag} {mg : Str → Option Value} {base : Heap}
theorem okd_law_spills_right (T : Txt K mg) : Okd P w K mg base 6 "_law_spills_right" 5 [0] p_law_spills_right := by
  refine T.d_law_spills_right.okL sc_law_spills_right 10 rfl (by decide) rfl fun f cdv A outer s H E hr => ⟨_, _,
    (dss_cons (ds_par 5 6 rfl sc_law_spills_right.nd
      (de_op op_mulU sr_mul (db_of (de_lst (da_cons (db_of (de_var 1)) da_nil))) (db_var 2))
      (de_op op_mulU sr_mul (db_var 2) (db_of (de_fn [] (okd_law_more_rows T) (hr.mono (by decide)) (da_cons (db_of (de_var 1)) (da_cons (db_of (de_var 3)) da_nil))))))
      (dss_cons (ds_set 7 sc_law_spills_right.nd (de_op op_addU sr_add (db_var 6) (db_of (de_fn [] (okd_law_greatest T) (hr.mono (by decide)) (da_cons (db_of (de_var 1)) (da_cons (db_of (de_var 2)) (da_cons (db_of (de_var 3)) (da_cons (db_of (de_var 4)) da_nil))))))))
      (dss_cons (ds_set 8 sc_law_spills_right.nd (de_op op_addU sr_add (db_var 6) (db_of (de_fn [] (okd_law_least T) (hr.mono (by decide)) (da_cons (db_of (de_var 1)) (da_cons (db_of (de_var 2)) (da_cons (db_of (de_var 3)) (da_cons (db_of (de_var 4)) da_nil))))))))
      (dss_cons (ds_set 9 sc_law_spills_right.nd (de_lst (da_cons (db_of (de_fn [] (okd_greatest_spill T) (hr.mono (by decide)) (da_cons (db_of (de_var 5)) (da_cons (db_of (de_var 3)) (da_cons (db_of (de_var 4)) da_nil))))) (da_cons (db_of (de_fn [] (okd_least_spill T) (hr.mono (by decide)) (da_cons (db_of (de_var 5)) (da_cons (db_of (de_var 3)) (da_cons (db_of (de_var 4)) da_nil))))) da_nil))))
      (dss_cons (ds_if (dt_not (dt_val (de_fn [] (okd_law_alike T) (hr.mono (by decide)) (da_cons (db_of (de_lst (da_cons (db_of (de_ix (db_of (de_ix (db_var 9) (db_of de_int))) (db_of de_int))) (da_cons (db_of (de_ix (db_of (de_ix (db_var 9) (db_of de_int))) (db_of de_int))) da_nil)))) (da_cons (db_of (de_lst (da_cons (db_of (de_var 7)) (da_cons (db_of (de_var 8)) da_nil)))) da_nil)))))
      (dss_one (ds_ret de_bl))
      dss_nil)
      (dss_cons (ds_for PassesOwn.never rfl (di_list (de_var 9)) (dg_tup rfl (dgs_cons (dg_name 10 sc_law_spills_right.nd) (dgs_cons (dg_name 11 sc_law_spills_right.nd) dgs_nil)))
      (dss_one (ds_if (dw_pt (dw_or (dt_not (dt_val (de_fn [] (okd_law_is_put T) (hr.mono (by decide)) (da_cons (db_of (de_var 11)) (da_cons (db_of (de_var 2)) (da_cons (db_of (de_var 4)) da_nil)))))) (dw_or1 (dt_cmp (op_neU hr.units) sr_ne (db_of (de_fn [] (okd_law_spill T) (hr.mono (by decide)) (da_cons (db_of (de_fn [] (okd_law_behind T) (hr.mono (by decide)) (da_cons (db_of (de_var 1)) (da_cons (db_of (de_var 11)) da_nil)))) (da_cons (db_of (de_var 3)) da_nil)))) (db_var 10) (nomark _)))))
      (dss_one (ds_ret de_bl))
      dss_nil)))
      (dss_cons (ds_par 12 13 rfl sc_law_spills_right.nd
      (de_fn [] (okd_law_worst T) (hr.mono (by decide)) (da_cons (db_of (de_var 1)) (da_cons (db_of (de_var 2)) (da_cons (db_of (de_var 3)) (da_cons (db_of (de_var 4)) da_nil)))))
      (de_fn [] (okd_law_best T) (hr.mono (by decide)) (da_cons (db_of (de_var 1)) (da_cons (db_of (de_var 2)) (da_cons (db_of (de_var 3)) (da_cons (db_of (de_var 4)) da_nil))))))
      (dss_cons (ds_for PassesOwn.never rfl (di_list (de_op op_addU sr_add (db_of (de_lst (da_cons (db_of (de_var 12)) (da_cons (db_of (de_var 13)) (da_cons (db_of (de_rev (db_var 12))) (da_cons (db_of (de_rev (db_var 13))) (da_cons (db_of (de_op op_addU sr_add (db_of (de_lst (da_cons (db_of (de_var 4)) da_nil))) (db_of (de_op op_mulU sr_mul (db_of (de_lst (da_cons (db_of de_int) da_nil))) (db_of (de_op op_sub sr_sub (db_var 2) (db_of de_int))))))) da_nil))))))) (db_of (de_lst (da_cons (db_of (de_slice (db_var 12) do_none (do_some (db_of (de_neg (db_of de_int)))))) (da_cons (db_of (de_callTy call_tuple_of sc_tuple (by rfl) T.tuple (by decide +kernel) (da_cons (db_var 13) da_nil))) (da_cons (db_of (de_op op_addU sr_add (db_var 12) (db_of (de_lst (da_cons (db_of de_int) da_nil))))) (da_cons (db_of de_non) da_nil)))))))) (dg_name 11 sc_law_spills_right.nd)
      (dss_cons (ds_set 14 sc_law_spills_right.nd (de_if (dt_val (de_fn [] (okd_law_is_put T) (hr.mono (by decide)) (da_cons (db_of (de_var 11)) (da_cons (db_of (de_var 2)) (da_cons (db_of (de_var 4)) da_nil))))) (de_fn [] (okd_law_spill T) (hr.mono (by decide)) (da_cons (db_of (de_fn [] (okd_law_behind T) (hr.mono (by decide)) (da_cons (db_of (de_var 1)) (da_cons (db_of (de_var 11)) da_nil)))) (da_cons (db_of (de_var 3)) da_nil))) de_non))
      (dss_cons (ds_set 9 sc_law_spills_right.nd (de_lst (da_cons (db_of (de_fn [] (okd_is_greatest T) (hr.mono (by decide)) (da_cons (db_of (de_var 5)) (da_cons (db_of (de_var 3)) (da_cons (db_of (de_var 4)) (da_cons (db_of (de_var 11)) da_nil)))))) (da_cons (db_of (de_fn [] (okd_is_least T) (hr.mono (by decide)) (da_cons (db_of (de_var 5)) (da_cons (db_of (de_var 3)) (da_cons (db_of (de_var 4)) (da_cons (db_of (de_var 11)) da_nil)))))) da_nil))))
      (dss_one (ds_if (dt_not (dt_val (de_fn [] (okd_law_alike T) (hr.mono (by decide)) (da_cons (db_of (de_var 9)) (da_cons (db_of (de_lst (da_cons (db_of (de_cmp (op_eqU hr.units) sr_eq (db_var 14) (db_var 7) (nomark _))) (da_cons (db_of (de_cmp (op_eqU hr.units) sr_eq (db_var 14) (db_var 8) (nomark _))) da_nil)))) da_nil)))))
      (dss_one (ds_ret de_bl))
      dss_nil)))))
      (dss_one (ds_ret (de_fn [] (okd_law_alike T) (hr.mono (by decide)) (da_cons (db_of (de_lst (da_cons (db_of (de_fn [] (okd_spill T) (hr.mono (by decide)) (da_cons (db_of (de_var 5)) (da_cons (db_of (de_var 3)) da_nil)))) (da_cons (db_of (de_fn [] (okd_longest T) (hr.mono (by decide)) (da_cons (db_of (de_var 5)) (da_cons (db_of (de_var 3)) da_nil)))) (da_cons (db_of (de_fn [] (okd_rows_for T) (hr.mono (by decide)) (da_cons (db_of (de_var 1)) (da_cons (db_of (de_var 3)) da_nil)))) da_nil))))) (da_cons (db_of (de_lst (da_cons (db_of (de_var 6)) (da_cons (db_of (de_tup (da_cons (db_of (de_op op_addU sr_add (db_of de_int) (db_of (de_fn [] (okd_law_more_rows T) (hr.mono (by decide)) (da_cons (db_of (de_var 1)) (da_cons (db_of (de_var 3)) da_nil)))))) (da_cons (db_of de_int) da_nil)))) (da_cons (db_of (de_op op_addU sr_add (db_of de_int) (db_of (de_fn [] (okd_law_more_rows T) (hr.mono (by decide)) (da_cons (db_of (de_var 1)) (da_cons (db_of (de_var 3)) da_nil)))))) da_nil))))) da_nil))))))))))))), fun a as Qd h => ?_⟩
  obtain ⟨L, m, r, w, e, eq, hw, hr', hm, he, q⟩ := h
  cases eq
  have hrn : 0 < r.toNat := by have := hr'.1; omega
  have hrr : ((r.toNat : Nat) : Int) = r := by have := hr'.1; omega
  obtain ⟨g1, g2⟩ := gPut_ok hm hw hrn he
  obtain ⟨l1, l2⟩ := lPut_ok hm hw hrn he
  rw [hrr] at g2 l2
  walk_at "dl"
  refine ⟨by decide, hr'.rep, hw, hr'.mul, hw, hr', hw, hr', hw, hr'.ln, hr'.ne, hw, hr'.ln, hr'.ne, by decide, by decide, by decide, ?_⟩
  refine q_law_alike (by rw [g2, l2]) (.list (.cons (.int _) (.cons (.int _) .nil))) (by decide) ?_
  walk_at "dl"
  have hbl : ∀ put, isPutF r.toNat e put = true → lspillF (put.map fun p => m + p) w = behindF (List.replicate r.toNat m) w put := fun put hp => by
    rw [← behind_rep hw put (fun p hq => by have := isPut_pos hp p hq; omega), isPut_len hp]
  refine FR.mem (fun ρ => ∃ s10 s11, ρ = [.lst L, .fz (.int m), .fz (.int r), .fz (.int w), .fz (.int e), .fz (.list ((List.replicate r.toNat m).map .int)), .fz (.int (r * moreF m w)), .fz (.int (r * moreF m w + greatF m r w e)), .fz (.int (r * moreF m w + leastF m r w e)),
    .fz (.list [.tuple [.int (behindF (List.replicate r.toNat m) w (gPut (List.replicate r.toNat m) w e)), .list ((gPut (List.replicate r.toNat m) w e).map .int)], .tuple [.int (behindF (List.replicate r.toNat m) w (lPut (List.replicate r.toNat m) w e)), .list ((lPut (List.replicate r.toNat m) w e).map .int)]]), s10, s11, .un, .un, .un]) ⟨_, _, rfl⟩ ?_ ?_
  · rintro d hd _ ⟨s10, s11, rfl⟩
    obtain ⟨put, rfl, hput⟩ : ∃ put, d = .tuple [.int (behindF (List.replicate r.toNat m) w put), .list (put.map .int)] ∧ isPutF r.toNat e put = true := by
      simp only [List.mem_cons, List.not_mem_nil, or_false] at hd
      rcases hd with rfl | rfl
      · exact ⟨_, rfl, g1⟩
      · exact ⟨_, rfl, l1⟩
    have hln : Ln put := by unfold Ln; rw [isPut_len hput]; have := hr'.2; omega
    walk_at "dl"
    rw [if_pos hput, if_pos (hbl put hput)]
    exact ⟨hr', hln, hln, hw, by unfold Ln at *; simpa using hln, Wk.mk ⟨_, _, rfl⟩⟩
  · rintro _ ⟨s10, s11, rfl⟩
    walk_at "dl"
    have hr1 := hr'.1
    have hr2 := hr'.2
    have wl := worst_len (m := m) (w := w) (e := e) hr'
    have bl := best_len (m := m) (r := r) (w := w) (e := e)
    refine ⟨hw, hr', hw, hr', by decide, by decide, hr'.rep', by rw [sizeLine_eq, List.length_replicate]; omega, by decide, by decide, by rw [sizeLine_eq, wl]; omega, by decide, by decide, ?_⟩
    refine FR.mem (fun ρ => ∃ s9 s10 s11 s12 s13 s14, ρ = [.lst L, .fz (.int m), .fz (.int r), .fz (.int w), .fz (.int e), .fz (.list ((List.replicate r.toNat m).map .int)), .fz (.int (r * moreF m w)), .fz (.int (r * moreF m w + greatF m r w e)), .fz (.int (r * moreF m w + leastF m r w e)), s9, s10, s11, s12, s13, s14]) ⟨_, _, _, _, _, _, rfl⟩ ?_ ?_
    · rintro d hd _ ⟨s9, s10, s11, s12, s13, s14, rfl⟩
      have hp : PutArg d := by
        simp only [List.mem_cons, List.not_mem_nil, or_false] at hd
        rcases hd with rfl | rfl | rfl | rfl | rfl | rfl | rfl | rfl | rfl
        · exact .nums _ (by unfold Ln; omega)
        · exact .nums _ (by unfold Ln; omega)
        · exact putArg_of (ps := (worstF m r w e).reverse) (by rw [List.map_reverse]) (by unfold Ln; rw [List.length_reverse]; omega)
        · exact putArg_of (ps := (bestF m r w e).reverse) (by rw [List.map_reverse]) (by unfold Ln; rw [List.length_reverse]; omega)
        · exact putArg_of (ps := e :: List.replicate (r - 1).toNat 0) rfl (by unfold Ln; simp; omega)
        · exact putArg_of (ps := cutD (worstF m r w e) none (some (-1))) (by rw [cutD_map]) (by unfold Ln; have := cutD_len (worstF m r w e) none (some (-1)); omega)
        · exact .tup _
        · exact putArg_of (ps := worstF m r w e ++ [0]) (by simp) (by unfold Ln; simp; omega)
        · exact .none
      have hsz : (List.replicate r.toNat m).length = r.toNat := List.length_replicate
      cases hp with
      | tup ds =>
        walk_at "dl"
        repeat' with_reducible apply And.intro
        all_goals first | exact hr' | exact hw | exact hr'.ln | exact hr'.ne | decide | skip
        refine q_law_alike rfl (.list (.cons (.bool _) (.cons (.bool _) .nil))) (by decide) ?_
        walk_at "dl"
        exact Wk.mk ⟨_, _, _, _, _, _, rfl⟩
      | none =>
        walk_at "dl"
        repeat' with_reducible apply And.intro
        all_goals first | exact hr' | exact hw | exact hr'.ln | exact hr'.ne | decide | skip
        refine q_law_alike rfl (.list (.cons (.bool _) (.cons (.bool _) .nil))) (by decide) ?_
        walk_at "dl"
        exact Wk.mk ⟨_, _, _, _, _, _, rfl⟩
      | nums ps hps =>
        walk_at "dl"
        refine ⟨hr', hps, ?_⟩
        by_cases hput : isPutF r.toNat e ps = true
        · rw [if_pos hput]
          repeat' with_reducible apply And.intro
          all_goals first | exact hr' | exact hw | exact hr'.ln | exact hr'.ne | exact hps | decide | skip
          · unfold Ln at *; simpa using hps
          · refine q_law_alike (by rw [hsz, hput, hbl ps hput, g2, l2]; simp) (.list (.cons (.bool _) (.cons (.bool _) .nil))) (by decide) ?_
            walk_at "dl"
            exact Wk.mk ⟨_, _, _, _, _, _, rfl⟩
        · rw [if_neg hput]
          have hpf : isPutF r.toNat e ps = false := by simpa using hput
          repeat' with_reducible apply And.intro
          all_goals first | exact hr' | exact hw | exact hr'.ln | exact hr'.ne | exact hps | decide | skip
          refine q_law_alike (by rw [hsz, hpf]; simp) (.list (.cons (.bool _) (.cons (.bool _) .nil))) (by decide) ?_
          walk_at "dl"
          exact Wk.mk ⟨_, _, _, _, _, _, rfl⟩
    · rintro _ ⟨s9, s10, s11, s12, s13, s14, rfl⟩
      walk_at "dl"
      refine ⟨hw, hr'.ln, hw, hr'.ln, hr'.ne, fun m1 hm1 _ => ⟨hw, by decide, hw, by decide, hw, by decide, ?_⟩⟩
      have e1 : m1 = 1 + moreF m w := by
        rw [List.map_replicate] at hm1
        have := (List.mem_replicate.mp hm1).2
        have := rows_more hm hw
        omega
      have e2 : (List.replicate r.toNat m).map (fun x => rowsF x w) = (1 + moreF m w) :: List.replicate (r.toNat - 1) (1 + moreF m w) := by
        obtain ⟨n, hn⟩ : ∃ n, r.toNat = n + 1 := ⟨r.toNat - 1, by omega⟩
        have := rows_more hm hw
        rw [hn, List.map_replicate, List.replicate_succ, show rowsF m w = 1 + moreF m w by omega]
        rfl
      have e3 : spillF (List.replicate r.toNat m) w = r * moreF m w := by rw [spill_rep hm hw, hrr]
      have e4 : rowsF m w = 1 + moreF m w := by have := rows_more hm hw; omega
      refine q_law_alike (by rw [e1, e2, e3, e4]; simp) (.list (.cons (.int _) (.cons (.tuple (.cons (.int _) (.cons (.int _) .nil))) (.cons (.int _) .nil)))) (by decide) ?_
      exact q

end
end K07

set_option Elab.async false
set_option linter.all false
set_option maxRecDepth 100000
set_option maxHeartbeats 8000000
namespace K07
open PySem PySem.Spec L2 DL D07
open PyProof.Rows hiding St
def p_law_bounds_right : PSpec := fun as Q => ∃ (L : List D) (m r w : Int), as = [.lst L, .fz (.int m), .fz (.int r), .fz (.int w)] ∧ BagL L ∧ Wd w ∧ Rm r ∧ 0 ≤ m ∧ m < 10000000 ∧ ∀ L', BagL L' → Q (.fz (.bool true)) [.lst L', .fz (.int m), .fz (.int r), .fz (.int w)]
local macro_rules | `(tactic| walk_at "dl") => `(tactic| ((try simp only [List.cons_append, List.nil_append, uns_0, uns_s]); simp -implicitDefEqProofs only [↓slotK_0, ↓slotK_s, ↓setK_0, ↓setK_s, ↓frzK_f, ↓frzK_l, ↓blK_b, ↓getK_d, ↓getK_v, ↓getsK_0, ↓getsK_s, ↓allK_0, ↓allK_s, ↓argK_0, ↓argK_s, ↓e_K, ↓e_name, ↓e_move, ↓e_nmB, ↓e_of, ↓e_bin, ↓e_bl, ↓e_chn, ↓e_and, ↓e_or, ↓e_not, ↓e_andV, ↓e_orV, ↓e_notV, ↓e_if, ↓e_nil, ↓e_cons, ↓e_tup, ↓e_lst, ↓e_cb, ↓e_isi, ↓negK_i, ↓e_neg, ↓e_fn0, ↓e_fn1, ↓callK_v, ↓e_noPart, ↓e_part, ↓e_sl, ↓e_rev, ↓slK_l, ↓slK_t, ↓revK_l, ↓e_add, ↓e_addL, ↓e_addT, ↓e_addS, ↓e_sub, ↓e_mul, ↓e_mulL, ↓e_div, ↓e_mod, ↓e_pow, ↓e_shl, ↓e_lt, ↓e_le, ↓e_gt, ↓e_ge, ↓e_eq, ↓e_ne, ↓e_eqS, ↓e_neS, ↓e_eqB, ↓e_neB, ↓e_eqL, ↓e_neL, ↓e_eqT, ↓e_neT, ↓e_eqN, ↓e_eqIN, ↓e_is, ↓e_isB, ↓e_isnot, ↓e_isnotB, ↓e_in, ↓e_inT, ↓e_notin, ↓e_ix, ↓e_ixT, ↓e_len, ↓e_lenT, ↓e_lenS, ↓intsK_m, ↓intsK_0, ↓intsK_s, ↓e_sum, ↓e_max, ↓e_min, ↓e_max2, ↓e_min2, ↓e_abs, ↓e_int, ↓e_intB, ↓e_list, ↓e_listT, ↓e_tuple, ↓boolsK_m, ↓e_all, ↓e_any, ↓e_sorted, ↓sortK_m, ↓sortK_p, ↓isN_i, ↓isN_n, ↓isN_l, ↓isN_t, ↓e_next, ↓e_seq, ↓e_break, ↓e_cont, ↓e_drop, ↓e_ret, ↓e_retN, ↓e_ifS, ↓e_set, ↓e_asg, ↓e_gnm, ↓e_gtp, ↓e_gs0, ↓e_gss, ↓lstK_l, ↓e_append, ↓extK_l, ↓e_extend, ↓e_popAt, ↓e_reverse, ↓e_setI2, ↓fzK_f, ↓e_aug, ↓e_augI2, ↓e_par, ↓e_par3, ↓e_index, ↓ite_dec, ↓ite_ndec, ↓ite_tr, ↓ite_fa, ↓ite_nt, ↓e_listZip, ↓lzK_l, ↓lzK_t, ↓at_0, ↓at_1, ↓at_2, ↓at_3, ↓tpK_2, ↓tpK_2', ↓tpK_3', ↓tpK_4', ↓tpK_3, ↓tpK_4, ↓e_lc, ↓wipeK_n, ↓wipeK_c, ↓e_yes, ↓rep_int, ↓eqK_nilI, ↓eqK_nilP, ↓eqK_ints, ↓atK_last, ↓eqK_Ni, ↓List.length_map, ↓Int.toNat_natCast, ↓e_for, ↓e_iLst, ↓e_iTpl, ↓e_iRg1, ↓e_iRg2, ↓e_iEnm, ↓e_iZp, ↓lsK_l, ↓tsK_t, ↓rg1K_i, ↓rg2K_i, ↓en1K_l, ↓zpK_l, ↓e_neNN, ↓ite_T, ↓ite_F, ↓og_0, ↓og_1, ↓og_2, ↓og_3, ↓is_0, ↓is_1, ↓is_2, ↓is_3, ↓aug_0, ↓aug_1, ↓aug_2, ↓aug_3, ↓q_law_kind, ↓q_law_more_rows, ↓q_law_slack, ↓q_sp4, ↓q_sp4l, ↓q_law_take, ↓q_fewest_for, ↓q_most_for, ↓uns_0, ↓uns_s, ↓getD_0, List.cons_append, List.nil_append, List.length_cons, List.length_nil, true_and, and_true]))
section
variable {P : Program} {w : World} {K : PySem.W.Frag} {mg : Str → Option Value} {base : Heap}
theorem okd_law_bounds_right (T : Txt K mg) : Okd P w K mg base 4 "_law_bounds_right" 4 [0] p_law_bounds_right := by
  refine T.d_law_bounds_right.okL sc_law_bounds_right 7 rfl (by decide) rfl fun f cdv A outer s H E hr => ⟨_, _,
    (dss_cons (ds_asg (de_tup (da_cons (db_of (de_op op_mulU sr_mul (db_of (de_lst (da_cons (db_of (de_var 1)) da_nil))) (db_var 2))) (da_cons (db_of (de_op op_mulU sr_mul (db_var 2) (db_of (de_fn [] (okd_law_more_rows T) (hr.mono (by decide)) (da_cons (db_of (de_var 1)) (da_cons (db_of (de_var 3)) da_nil)))))) da_nil))) (dg_tup rfl (dgs_cons (dg_name 4 sc_law_bounds_right.nd) (dgs_cons (dg_name 5 sc_law_bounds_right.nd) dgs_nil))))
      (dss_cons (ds_for PassesOwn.never rfl (di_list (de_lst (da_cons (db_of de_int) (da_cons (db_of de_int) (da_cons (db_of (de_var 2)) (da_cons (db_of (de_op op_addU sr_add (db_var 2) (db_of de_int))) (da_cons (db_of (de_fn [(0, 0)] (okd_law_take T) (hr.mono (by decide)) (da_cons (db_var 0) (da_cons (db_of de_int) da_nil)))) (da_cons (db_of (de_fn [(0, 0)] (okd_law_take T) (hr.mono (by decide)) (da_cons (db_var 0) (da_cons (db_of (de_op op_pow sr_pow (db_of de_int) (db_of de_int))) da_nil)))) da_nil)))))))) (dg_name 6 sc_law_bounds_right.nd)
      (dss_cons (ds_set 7 sc_law_bounds_right.nd (de_fn [] (okd_law_fewest T) (hr.mono (by decide)) (da_cons (db_of (de_var 1)) (da_cons (db_of (de_var 2)) (da_cons (db_of (de_var 3)) (da_cons (db_of (de_var 6)) da_nil))))))
      (dss_cons (ds_set 8 sc_law_bounds_right.nd (de_op op_addU sr_add (db_of (de_op op_mulU sr_mul (db_var 2) (db_of (de_fn [] (okd_law_slack T) (hr.mono (by decide)) (da_cons (db_of (de_var 1)) (da_cons (db_of (de_var 3)) da_nil)))))) (db_of (de_op op_mulU sr_mul (db_var 6) (db_var 3)))))
      (dss_cons (ds_if (dt_not (dt_val (de_fn [] (okd_law_alike T) (hr.mono (by decide)) (da_cons (db_of (de_lst (da_cons (db_of (de_fn [] (okd_fewest_for T) (hr.mono (by decide)) (da_cons (db_of (de_var 4)) (da_cons (db_of (de_var 3)) (da_cons (db_of (de_op op_addU sr_add (db_var 5) (db_var 6))) da_nil))))) (da_cons (db_of (de_fn [] (okd_most_for T) (hr.mono (by decide)) (da_cons (db_of (de_var 4)) (da_cons (db_of (de_var 3)) (da_cons (db_of (de_op op_addU sr_add (db_var 5) (db_var 6))) da_nil))))) da_nil)))) (da_cons (db_of (de_lst (da_cons (db_of (de_var 7)) (da_cons (db_of (de_var 8)) da_nil)))) da_nil)))))
      (dss_one (ds_ret de_bl))
      dss_nil)
      (dss_one (ds_if (dw_pt (dw_or (dt_cmp (op_lt) sr_lt (db_of (de_fn [] (okd_law_greatest T) (hr.mono (by decide)) (da_cons (db_of (de_var 1)) (da_cons (db_of (de_var 2)) (da_cons (db_of (de_var 3)) (da_cons (db_of (de_var 7)) da_nil)))))) (db_var 6) (nomark _)) (dw_or1 (dw_pt (dw_and (dt_cmp (op_gt) sr_gt (db_var 7) (db_of de_int) (nomark _)) (dw_and1 (dt_cmp (op_ge) sr_ge (db_of (de_fn [] (okd_law_greatest T) (hr.mono (by decide)) (da_cons (db_of (de_var 1)) (da_cons (db_of (de_var 2)) (da_cons (db_of (de_var 3)) (da_cons (db_of (de_op op_sub sr_sub (db_var 7) (db_of de_int))) da_nil)))))) (db_var 6) (nomark _))))))))
      (dss_one (ds_ret de_bl))
      dss_nil))))))
      (dss_cons (ds_set 9 sc_law_bounds_right.nd (de_if (dt_cmp (op_gt) sr_gt (db_var 5) (db_of de_int) (nomark _)) (de_lst (da_cons (db_of (de_fn [(0, 0)] (okd_law_take T) (hr.mono (by decide)) (da_cons (db_var 0) (da_cons (db_of (de_var 5)) da_nil)))) da_nil)) (de_lst da_nil)))
      (dss_one (ds_ret (de_cmp (op_eqU hr.units) sr_eq (db_of (de_lc rfl sc_law_bounds_right.nd (di_list (de_var 9)) (blkOk_by (own := [("less", 10)]) (N := N_law_bounds_right) (sc := defScope s_law_bounds_right) (by decide +kernel))
        (fun _ _ _ _ _ => (dg_name 10 sc_law_bounds_right.nd)) (fun _ _ _ _ _ => dts_one (dw_pt (dw_or (dt_cmp (op_notU) sr_isnot (db_of (de_fn [] (okd_most_for T) (hr.mono (by decide)) (da_cons (db_of (de_var 4)) (da_cons (db_of (de_var 3)) (da_cons (db_of (de_var 10)) da_nil))))) (db_of de_non) (nomark _)) (dw_or1 (dt_cmp (op_neU hr.units) sr_ne (db_of (de_fn [] (okd_fewest_for T) (hr.mono (by decide)) (da_cons (db_of (de_var 4)) (da_cons (db_of (de_var 3)) (da_cons (db_of (de_var 10)) da_nil))))) (db_of de_int) (nomark _))))))
        (fun _ _ _ _ _ => de_int))) (db_of (de_lst da_nil)) (nomark _))))))), fun a as Qd h => ?_⟩
  obtain ⟨L, m, r, w, eq, hL, hw, hr', hm, hm2, q⟩ := h
  cases eq
  walk_at "dl"
  have hrn : 0 < r.toNat := by have := hr'.1; omega
  have hrr : ((r.toNat : Nat) : Int) = r := by have := hr'.1; omega
  have hr1 := hr'.1
  have hr2 := hr'.2
  have hw1 := hw.1
  refine ⟨by decide, hr'.rep, hw, hr'.mul, by decide, hL, ⟨by decide, by decide⟩, fun v1 L1 hL1 h10 h11 => ⟨⟨by decide, by decide, by decide⟩, hL1, ⟨by decide, by decide⟩, fun v2 L2 hL2 h20 h21 => ⟨by decide, ?_⟩⟩⟩
  refine FR.mem (fun ρ => ∃ s6 s7 s8, ρ = [.lst L2, .fz (.int m), .fz (.int r), .fz (.int w), .fz (.list ((List.replicate r.toNat m).map .int)), .fz (.int (r * moreF m w)), s6, s7, s8, .un, .un]) ⟨_, _, _, rfl⟩ ?_ ?_
  · rintro d hd _ ⟨s6, s7, s8, rfl⟩
    obtain ⟨k, rfl, hk⟩ : ∃ k : Int, d = .int k ∧ 0 ≤ k := by
      simp only [List.mem_cons, List.not_mem_nil, or_false] at hd
      rcases hd with rfl | rfl | rfl | rfl | rfl | rfl
      all_goals exact ⟨_, rfl, by omega⟩
    have f1 := few_ok hrn hm hw hk
    have f2 := most_ok (r := r.toNat) hm hw hk
    rw [hrr] at f1 f2
    have f3 := great_few (m := m) hw hr' hk
    have f4 := great_few1 (m := m) hw hr' hk
    walk_at "dl"
    repeat' with_reducible apply And.intro
    all_goals first | exact hr' | exact hw | exact hr'.ln | exact hr'.ne | exact hr'.mul | exact hw.mul' | decide | skip
    refine q_law_alike2 (by rw [f1, f2]) (.list (.cons (.int _) (.cons (.int _) .nil))) (by decide) ?_
    walk_at "dl"
    rw [if_neg (by omega)]
    refine ⟨hw, hr', ?_⟩
    split
    · rename_i hp
      rw [if_neg (by have := f4 hp; omega)]
      exact ⟨hw, hr', Wk.mk ⟨_, _, _, rfl⟩⟩
    · exact Wk.mk ⟨_, _, _, rfl⟩
  · rintro _ ⟨s6, s7, s8, rfl⟩
    walk_at "dl"
    split
    · rename_i hp
      refine ⟨hL2, ⟨hp, ?_⟩, fun v L' hL' h0 h1 => ⟨by decide, ?_⟩⟩
      · have hmm : moreF m w ≤ m := by
          unfold moreF
          split
          · have := Int.ediv_le_self (a := m - 1) (b := w) (by omega)
            omega
          · omega
        have h0 : 0 ≤ moreF m w := by
          unfold moreF
          split
          · exact Int.ediv_nonneg (by omega) (by omega)
          · omega
        have := Int.mul_le_mul (a := r) (b := moreF m w) (c := 120) (d := 10000000) hr2 (by omega) h0 (by omega)
        omega
      · have f5 := most_low (r := r.toNat) (k := v) hm hw (by rw [hrr]; exact h1)
        have f6 := few_low (r := r.toNat) (k := v) hm hw (by rw [hrr]; exact h1)
        refine LC.filt (ns := [v]) (fun _ => false) (fun _ => 1) (by rw [sizeLine_eq]; simp) (fun n hn Kt Kf ht hf => ?_) ?_
        · have hn' : n = v := by simpa using hn
          subst hn'
          walk_at "dl"
          rw [f5, f6]
          walk_at "dl"
          exact ⟨hw, hr'.ln, hw, hr'.ln, hf rfl _ rfl⟩
        · walk_at "dl"
          exact ⟨by decide, q L' hL'⟩
    · refine ⟨by decide, LC.filt (ns := []) (fun _ => false) (fun _ => 1) (by decide) (fun n hn => absurd hn (by simp)) ?_⟩
      walk_at "dl"
      exact ⟨by decide, q L2 hL2⟩

end
end K07

set_option Elab.async false
set_option linter.all false
set_option maxRecDepth 100000
namespace DL
open PySem PySem.Spec L2
open PyProof.Rows hiding St
def KList (K : PySem.W.Frag) (a : Addr) (xs : List V) : Prop := ∃ (o : Obj) (its : Array Value) (n : Nat), K.lookup a = some o ∧ o.cls = .type "list" ∧ o.dict = none ∧ o.data = .seq its n ∧ its.size ≤ sizeLine ∧ Vals xs its.toList
/-- the script: a list of whole numbers, tracked or of the module -/
def scr (K : PySem.W.Frag) (ns : List Int) : TP where
  holds := fun S I H v => ∃ a, v = .ref a ∧ ((S a ∧ Rd H a (.lst (ns.map V.int))) ∨ KList K a (ns.map V.int))
  frame := fun S S' I I' H H' v hS hI hH ⟨a, e, h⟩ => ⟨a, e, h.imp (fun ⟨s, r⟩ => ⟨hS a s, by
    have := hH a s
    unfold Rd at r ⊢
    rw [this]; exact r⟩) id⟩
theorem scr_sq {K : PySem.W.Frag} {ns : List Int} {S : Addr → Prop} {I H : Hp} {v : V} (h : (scr K ns).holds S I H v) : ∃ a, v = .ref a ∧ SqL K H a (ns.map V.int) := by
  obtain ⟨a, e, h⟩ := h
  exact ⟨a, e, h.imp (fun z => z.2) id⟩
def dScr (K : PySem.W.Frag) (i : Nat) (hi : Int) : DTE := fun ρ Q => ∃ ns, ρ.at i = .ob (scr K ns) ∧ Q (.lst (cutD (ns.map .int) none (some hi))) ρ
section
variable {X : Cx} {L : List Nat} {pos : Pos}
theorem de_scr (i : Nat) {x : Str} {px p2 pc : Pos} {j : Int} {kk : Nat} (hN : X.N[i]? = some x := by rfl) (hv : Vis X.env.scope x := by first | exact Or.inl rfl | exact Or.inr (Or.inl rfl) | exact Or.inr (Or.inr rfl)) (hd : (x == ("__debug__" : Str)) = false := by decide)
    (hcd : (x == ("__classdict__" : Str)) = false := by decide) :
    DE X L (.Subscript (.Name x px) (.Slice none (some (.Constant (.int j) kk pc)) none p2) pos) (tSl (rSlL X.K) (tVar i) tNoPart (tPart (tC (.int j)))) (dScr X.K i j) :=
  ⟨pe_slice sl_list (pe_var hN hv hd hcd) po_none (po_some pe_int), fun F ρ I own σ H Qd Q fo R h k => by
    obtain ⟨ns, e, h⟩ := h
    rcases R.slots i with z | ⟨v, ev, hv'⟩
    · rw [z] at e; cases e
    · rw [e] at hv'
      obtain ⟨a, rfl, hs⟩ := scr_sq hv'
      refine ⟨_, ev, _, rfl, a, _, rfl, hs, fun p hp => ?_⟩
      have rr : RepL I (ns.map V.int) (ns.map .int) := RepL.ofInts ns
      exact k _ ρ I own _ _ (R.laid hp) (Sub.refl _) (ResOk.new R hp (rr.cut none (some j))) h⟩
theorem e_scr {K : PySem.W.Frag} {ns : List Int} {ρ : DEnv} {hi : Int} {Q : Slot → DEnv → Prop} (h : Q (.lst (cutD (ns.map .int) none (some hi))) (.ob (scr K ns) :: ρ)) : dScr K 0 hi (.ob (scr K ns) :: ρ) Q := ⟨ns, rfl, h⟩
end
def absI (n : Int) : Int := if n < 0 then -n else n
def p_law_bag (K : PySem.W.Frag) : PSpec := fun as Q => ∃ ns : List Int, as = [.ob (scr K ns)] ∧ ns.length ≤ 63 ∧ ∀ L, BagL L → Q (.lst L) [.ob (scr K ns)]
def p_law (K : PySem.W.Frag) : PSpec := fun as Q => ∃ ns : List Int, as = [.ob (scr K ns)] ∧ ns.length ≤ 63 ∧ Q (.fz (.bool true)) [.ob (scr K ns)]
/-- the law, as the end asks for it -/
def spLaw (K : PySem.W.Frag) : Sp := fun vs H Q _ => ∃ (a : Addr) (ns : List Int), vs = [.ref a] ∧ SqL K H a (ns.map V.int) ∧ ns.length ≤ 63 ∧ ∀ H', Q (.bl true) H'
theorem law_sp {K : PySem.W.Frag} {vs : List V} {H : Hp} {Q : VK} {E : XK} (h : spLaw K vs H Q E) : spD 1 [0] (p_law K) vs H Q E := by
  obtain ⟨a, ns, rfl, hs, hn, q⟩ := h
  let own : Addr → Option Nat := fun b => if b = a ∧ H a ≠ none then some 0 else none
  let F : Fx := ⟨fun _ => none, H, own, fun i => if i = 0 then some (.ref a) else none⟩
  have hown : ∀ b, own b ≠ none → b = a ∧ H a ≠ none := fun b hb => by
    by_cases h : b = a ∧ H a ≠ none
    · exact h
    · exact absurd (if_neg h) hb
  refine ⟨rfl, [.ob (scr K ns)], F, own, fun s _ => s = .fz (.bool true), rfl, fun i => ?_, ⟨fun i z => ?_, fun b i z => ?_, fun b z => ?_⟩, fun i z => ?_, ?_, ⟨ns, rfl, hn, rfl⟩, fun s as' I' own' H' v _ _ R r e => ?_⟩
  · show (if i = 0 then _ else _) = _
    by_cases h0 : i = 0
    · subst h0; rfl
    · rw [if_neg h0, if_neg (by simpa using h0)]
  · by_cases h0 : i = 0
    · subst h0; exact List.mem_cons_self
    · exact absurd (if_neg h0) z
  · have := hown b (by show own b ≠ none; rw [show own b = some i from z]; exact fun y => nomatch y)
    have e : own b = some 0 := if_pos this
    rw [show own b = some i from z] at e
    cases e
    exact List.mem_cons_self
  · obtain ⟨rfl, h2⟩ := hown b z
    exact h2
  · cases i with
    | zero => exact absurd List.mem_cons_self z
    | succ i => rfl
  · refine ⟨fun b o e => (nomatch e), fun b o e _ => e, fun b z => z, fun b z => rfl, fun b i z => .inr z, fun b z => by obtain ⟨rfl, h2⟩ := hown b z; exact h2, fun b z => absurd rfl z, fun b o e => e, fun i v e => ?_, Nat.le_refl _, fun i => ?_⟩
    · by_cases h0 : i = 0
      · subst h0
        have e2 : F.fix 0 = some (.ref a) := rfl
        rw [e2] at e
        cases e
        rfl
      · have : F.fix i = none := if_neg h0
        rw [this] at e; cases e
    · cases i with
      | zero =>
        refine .inr ⟨.ref a, rfl, a, rfl, ?_⟩
        rcases hs with h | h
        · refine .inl ⟨?_, h⟩
          have hne : H a ≠ none := by rcases h with h | ⟨o, h⟩ <;> (rw [h]; exact fun y => nomatch y)
          exact if_pos ⟨rfl, hne⟩
        · exact .inr h
      | succ i => exact .inl rfl
  · subst e
    have := r.rep
    cases this
    exact q H'
end DL
namespace DL
open PySem PySem.Spec L2
open PyProof.Rows hiding St
section
variable {P : Program} {w : World} {K : PySem.W.Frag} {mg : Str → Option Value} {base : Heap}
/-- what a def promises, whatever object it is -/
def OkF (P : Program) (w : World) (K : PySem.W.Frag) (mg : Str → Option Value) (base : Heap) (k : Nat) (x : Str) (st : Stmt) (ps : List Str) (n : Nat) (lf : List Nat) (PS : PSpec) : Prop := ∀ f fd, Fun K x x st f fd → FnOk P w K mg base CX0 k f fd ps (spD n lf PS)
theorem OkF.okL {x : Str} {st : Stmt} {N ps : List Str} {k n : Nat} {PS' : PSpec} (S : FnScope N ps (defScope st)) (j : Nat) (hn : ps.length = n) (h0 : 0 < n) (hj : N.length - n = j)
    (hbody : ∀ (f : Addr) (cdv : Value) (A : Around) (outer : List Env) (s : Shared) (H : Hp) (E : XK), Room k (A.deeper (envOfC x (defScope st) s.heap.objs.size f cdv)) →
      ∃ u t, DSs (cxOf CX0 P w K mg base N x (defScope st) f cdv A outer s H E).nox [0] (defBody st) u t ∧
        ∀ (a : Slot) (as : List Slot) (Qd : Slot → List Slot → Prop), PS' (a :: as) Qd → t { nx := fun ρ => Qd (.fz .none) (DEnv.at ρ 0 :: as), rt := fun s ρ => Qd s (DEnv.at ρ 0 :: as) } (a :: (as ++ uns j))) : OkF P w K mg base (k + 1) x st ps n [0] PS' :=
  fun f fd F => Fun.okD F S hn (fun i z => by rw [List.mem_singleton] at z; omega) fun cdv A outer s H E hr => by
    obtain ⟨u, t, h1, h2⟩ := hbody f cdv A outer s H E hr
    refine ⟨u, t, h1, fun as Qd hl hp => ?_⟩
    cases as with
    | nil => simp at hl; omega
    | cons a as =>
      have en : ∀ (as : List Slot) (j : Nat) (ρ : DEnv), 0 < j → exitG [0] ρ j as = as := by
        intro as
        induction as with
        | nil => intro j ρ _; rfl
        | cons b bs ih =>
          intro j ρ hj
          simp only [exitG]
          rw [ih (j + 1) ρ (by omega), if_neg (by simp; omega)]
      have e : ∀ ρ, exitS n [0] (a :: as) ρ = DEnv.at ρ 0 :: as := fun ρ => by
        show (if ([0] : List Nat).contains 0 = true then DEnv.at ρ 0 else a) :: exitG [0] ρ 1 as = _
        rw [en as 1 ρ (by decide), if_pos (by decide)]
      simp only [e]
      rw [hj]
      exact h2 a as Qd hp
theorem DefAt.of {h : Heap} (X : K.In h) (G : h.Ns mainGlobals mg) {x : Str} {st : Stmt} {ps : List Str} {f : Addr} {oc : Value} {od an : Option Addr} {osl : Array (Option Value)} {kV doc pm cdv ct : Value} (a : PySem.W.nsIn K mainGlobals x = some (some (.ref f)))
    (l : K.lookup f = some ⟨oc, od, .func (PySem.W.fnOf x x (defArgs st) (defBody st) (defScope st) .none kV doc pm an cdv ct), osl⟩) (c : PySem.W.codeIn K cdv x = true) (k : PySem.W.keepIn K (.ref f) = true)
    (hb : ∀ (kV doc pm : Value) (an : Option Addr) (cdv ct : Value) (us : List Value), us.length = ps.length → bindArgs (PySem.W.fnOf x x (defArgs st) (defBody st) (defScope st) .none kV doc pm an cdv ct) ⟨us, []⟩ = pure (ps.zip us)) : DefAt K mg x st ps :=
  ⟨f, _, fun_mk l c k, (fun_mk l c k).binds hb, PySem.W.mg_of X G a⟩
/-- the end's demand -/
theorem law_end {l : PySem.W.OpenLaw} {h : Heap} (X : K.In h) (G : h.Ns mainGlobals mg) {st : Stmt} {fa f : Addr} {kk : Nat} (hfa : mg "law" = some (.ref fa)) {oc : Value} {od an : Option Addr} {osl : Array (Option Value)} {kV doc pm cdv ct : Value} (a : PySem.W.nsIn K mainGlobals "law" = some (some (.ref f)))
    (lk : K.lookup f = some ⟨oc, od, .func (PySem.W.fnOf "law" "law" (defArgs st) (defBody st) (defScope st) .none kV doc pm an cdv ct), osl⟩) (c : PySem.W.codeIn K cdv "law" = true) (k : PySem.W.keepIn K (.ref f) = true)
    (hb : ∀ (s : Shared) (v : Value), BindsTo s (PySem.W.fnOf "law" "law" (defArgs st) (defBody st) (defScope st) .none kV doc pm an cdv ct) ⟨[v], []⟩ [("script", v)]) (ok : ∀ base, OkF l.prog w K mg base kk "law" st ["script"] 1 [0] (p_law K)) :
    ∃ fd : FuncData, (∀ (s : Shared) (v : Value), BindsTo s fd ⟨[v], []⟩ [("script", v)]) ∧ ∀ base : Heap, K.In base → base.Ns mainGlobals mg → FnOk l.prog w K mg base CX0 kk fa fd ["script"] (spLaw K) := by
  have e := hfa.symm.trans (PySem.W.mg_of X G a)
  cases e
  exact ⟨_, hb, fun base _ _ => (ok base _ _ (fun_mk lk c k)).imp fun vs H Q E h => law_sp h⟩
end
end DL

set_option Elab.async false
set_option linter.all false
set_option maxRecDepth 100000
set_option maxHeartbeats 8000000
namespace K07
open PySem PySem.Spec L2 DL D07
open PyProof.Rows hiding St
local macro_rules | `(tactic| walk_at "dl") => `(tactic| ((try simp only [List.cons_append, List.nil_append, uns_0, uns_s]); simp -implicitDefEqProofs only [↓slotK_0, ↓slotK_s, ↓setK_0, ↓setK_s, ↓frzK_f, ↓frzK_l, ↓blK_b, ↓getK_d, ↓getK_v, ↓getsK_0, ↓getsK_s, ↓allK_0, ↓allK_s, ↓argK_0, ↓argK_s, ↓e_K, ↓e_name, ↓e_move, ↓e_nmB, ↓e_of, ↓e_bin, ↓e_bl, ↓e_chn, ↓e_and, ↓e_or, ↓e_not, ↓e_andV, ↓e_orV, ↓e_notV, ↓e_if, ↓e_nil, ↓e_cons, ↓e_tup, ↓e_lst, ↓e_cb, ↓e_isi, ↓negK_i, ↓e_neg, ↓e_fn0, ↓e_fn1, ↓callK_v, ↓e_noPart, ↓e_part, ↓e_sl, ↓e_rev, ↓slK_l, ↓slK_t, ↓revK_l, ↓e_add, ↓e_addL, ↓e_addT, ↓e_addS, ↓e_sub, ↓e_mul, ↓e_mulL, ↓e_div, ↓e_mod, ↓e_pow, ↓e_shl, ↓e_lt, ↓e_le, ↓e_gt, ↓e_ge, ↓e_eq, ↓e_ne, ↓e_eqS, ↓e_neS, ↓e_eqB, ↓e_neB, ↓e_eqL, ↓e_neL, ↓e_eqT, ↓e_neT, ↓e_eqN, ↓e_eqIN, ↓e_is, ↓e_isB, ↓e_isnot, ↓e_isnotB, ↓e_in, ↓e_inT, ↓e_notin, ↓e_ix, ↓e_ixT, ↓e_len, ↓e_lenT, ↓e_lenS, ↓intsK_m, ↓intsK_0, ↓intsK_s, ↓e_sum, ↓e_max, ↓e_min, ↓e_max2, ↓e_min2, ↓e_abs, ↓e_int, ↓e_intB, ↓e_list, ↓e_listT, ↓e_tuple, ↓boolsK_m, ↓e_all, ↓e_any, ↓e_sorted, ↓sortK_m, ↓sortK_p, ↓isN_i, ↓isN_n, ↓isN_l, ↓isN_t, ↓e_next, ↓e_seq, ↓e_break, ↓e_cont, ↓e_drop, ↓e_ret, ↓e_retN, ↓e_ifS, ↓e_set, ↓e_asg, ↓e_gnm, ↓e_gtp, ↓e_gs0, ↓e_gss, ↓lstK_l, ↓e_append, ↓extK_l, ↓e_extend, ↓e_popAt, ↓e_reverse, ↓e_setI2, ↓fzK_f, ↓e_aug, ↓e_augI2, ↓e_par, ↓e_par3, ↓e_index, ↓ite_dec, ↓ite_ndec, ↓ite_tr, ↓ite_fa, ↓ite_nt, ↓e_listZip, ↓lzK_l, ↓lzK_t, ↓at_0, ↓at_1, ↓at_2, ↓at_3, ↓tpK_2, ↓tpK_2', ↓tpK_3', ↓tpK_4', ↓tpK_3, ↓tpK_4, ↓e_lc, ↓wipeK_n, ↓wipeK_c, ↓e_yes, ↓rep_int, ↓eqK_nilI, ↓eqK_nilP, ↓eqK_ints, ↓atK_last, ↓eqK_Ni, ↓List.length_map, ↓Int.toNat_natCast, ↓e_for, ↓e_iLst, ↓e_iTpl, ↓e_iRg1, ↓e_iRg2, ↓e_iEnm, ↓e_iZp, ↓lsK_l, ↓tsK_t, ↓rg1K_i, ↓rg2K_i, ↓en1K_l, ↓zpK_l, ↓e_neNN, ↓ite_T, ↓ite_F, ↓og_0, ↓og_1, ↓og_2, ↓og_3, ↓is_0, ↓is_1, ↓is_2, ↓is_3, ↓aug_0, ↓aug_1, ↓aug_2, ↓aug_3, ↓q_law_take, ↓q_law_some, ↓uns_0, ↓uns_s, ↓getD_0, List.cons_append, List.nil_append, List.length_cons, List.length_nil, true_and, and_true]))
section
variable {P : Program} {w : World} {K : PySem.W.Frag} {mg : Str → Option Value} {base : Heap}
theorem okd_law_bag (T : Txt K mg) : Okd P w K mg base 1 "_law_bag" 1 [0] (p_law_bag K) := by
  refine T.d_law_bag.okL sc_law_bag 1 rfl (by decide) rfl fun f cdv A outer s H E hr => ⟨_, _,
    (dss_one (ds_ret (de_lst (da_cons (db_of de_int) (da_cons (db_of de_int) (da_cons (db_of de_int) (da_cons (db_of (de_lc rfl sc_law_bag.nd (di_list (de_scr 0)) (blkOk_by (own := [("cell", 1)]) (N := N_law_bag) (sc := defScope s_law_bag) (by decide +kernel))
        (fun _ _ _ _ _ => (dg_name 1 sc_law_bag.nd)) (fun _ _ _ _ _ => dts_nil)
        (fun _ _ _ _ _ => (de_callB call_abs sc_abs (by rfl) T.abs (by decide +kernel) (da_cons (db_var 1) da_nil))))) da_nil))))))), fun a as Qd h => ?_⟩
  obtain ⟨ns, eq, hn, q⟩ := h
  cases eq
  walk_at "dl"
  refine e_scr ?_
  walk_at "dl"
  rw [cutD_map]
  have hl := cutD_len ns none (some 63)
  refine LC.ints absI (by rw [sizeLine_eq]; omega) (fun n _ Kt Kf hk => ?_) ?_
  · walk_at "dl"
    exact hk _ rfl
  · walk_at "dl"
    refine ⟨by decide, q _ ⟨0, 1234567891, 0, _, rfl, by decide, by decide, by decide, by decide, by rw [List.length_map]; omega, fun c hc => ?_⟩⟩
    obtain ⟨n, _, rfl⟩ := List.mem_map.mp hc
    unfold absI
    split <;> omega
theorem okf_law (T : Txt K mg) : OkF P w K mg base 7 "law" s_law ["script"] 1 [0] (p_law K) := by
  refine OkF.okL sc_law 6 rfl (by decide) rfl fun f cdv A outer s H E hr => ⟨_, _,
    (dss_cons (ds_set 1 sc_law.nd (de_fn [(0, 0)] (okd_law_bag T) (hr.mono (by decide)) (da_cons (db_var 0) da_nil)))
      (dss_cons (ds_for PassesOwn.never rfl (di_range1 (by rfl) T.range (da_cons (db_of de_int) da_nil)) (dg_name 2 sc_law.nd)
      (dss_cons (ds_set 3 sc_law.nd (de_fn [(0, 1)] (okd_law_some T) (hr.mono (by decide)) (da_cons (db_var 1) (da_cons (db_of (de_lst (da_cons (db_of de_int) (da_cons (db_of de_int) (da_cons (db_of (de_fn [(0, 1)] (okd_law_take T) (hr.mono (by decide)) (da_cons (db_var 1) (da_cons (db_of de_int) da_nil)))) (da_cons (db_of (de_fn [(0, 1)] (okd_law_take T) (hr.mono (by decide)) (da_cons (db_var 1) (da_cons (db_of de_int) da_nil)))) (da_cons (db_of (de_fn [(0, 1)] (okd_law_take T) (hr.mono (by decide)) (da_cons (db_var 1) (da_cons (db_of (de_op op_pow sr_pow (db_of de_int) (db_of de_int))) da_nil)))) da_nil))))))) da_nil))))
      (dss_cons (ds_par 4 5 rfl sc_law.nd
      (de_op op_addU sr_add (db_of de_int) (db_of (de_fn [(0, 1)] (okd_law_some T) (hr.mono (by decide)) (da_cons (db_var 1) (da_cons (db_of (de_lst (da_cons (db_of (de_fn [(0, 1)] (okd_law_take T) (hr.mono (by decide)) (da_cons (db_var 1) (da_cons (db_of de_int) da_nil)))) (da_cons (db_of (de_fn [(0, 1)] (okd_law_take T) (hr.mono (by decide)) (da_cons (db_var 1) (da_cons (db_of de_int) da_nil)))) da_nil)))) da_nil)))))
      (de_op op_addU sr_add (db_of de_int) (db_of (de_fn [(0, 1)] (okd_law_take T) (hr.mono (by decide)) (da_cons (db_var 1) (da_cons (db_of de_int) da_nil))))))
      (dss_cons (ds_set 6 sc_law.nd (de_fn [(0, 1)] (okd_law_some T) (hr.mono (by decide)) (da_cons (db_var 1) (da_cons (db_of (de_lst (da_cons (db_of de_int) (da_cons (db_of de_int) (da_cons (db_of (de_fn [(0, 1)] (okd_law_take T) (hr.mono (by decide)) (da_cons (db_var 1) (da_cons (db_of de_int) da_nil)))) (da_cons (db_of (de_fn [(0, 1)] (okd_law_take T) (hr.mono (by decide)) (da_cons (db_var 1) (da_cons (db_of de_int) da_nil)))) (da_cons (db_of (de_fn [(0, 1)] (okd_law_take T) (hr.mono (by decide)) (da_cons (db_var 1) (da_cons (db_of (de_op op_addU sr_add (db_of (de_op op_pow sr_pow (db_of de_int) (db_of de_int))) (db_of de_int))) da_nil)))) da_nil))))))) da_nil))))
      (dss_one (ds_if (dw_pt (dw_or (dt_not (dt_val (de_fn [(0, 1)] (okd_law_spills_right T) (hr.mono (by decide)) (da_cons (db_var 1) (da_cons (db_of (de_var 3)) (da_cons (db_of (de_var 4)) (da_cons (db_of (de_var 5)) (da_cons (db_of (de_var 6)) da_nil)))))))) (dw_or1 (dt_not (dt_val (de_fn [(0, 1)] (okd_law_bounds_right T) (hr.mono (by decide)) (da_cons (db_var 1) (da_cons (db_of (de_var 3)) (da_cons (db_of (de_var 4)) (da_cons (db_of (de_var 5)) da_nil))))))))))
      (dss_one (ds_ret de_bl))
      dss_nil))))))
      (dss_one (ds_ret de_bl)))), fun a as Qd h => ?_⟩
  obtain ⟨ns, eq, hn, q⟩ := h
  cases eq
  walk_at "dl"
  refine ⟨ns, rfl, hn, fun L hL => ?_⟩
  walk_at "dl"
  refine ⟨⟨by decide, by decide⟩, ?_⟩
  refine FR.mem (fun ρ => ∃ L s2 s3 s4 s5 s6, BagL L ∧ ρ = [.ob (scr K ns), .lst L, s2, s3, s4, s5, s6]) ⟨L, _, _, _, _, _, hL, rfl⟩ ?_ ?_
  · rintro d hd _ ⟨L, s2, s3, s4, s5, s6, hL, rfl⟩
    walk_at "dl"
    refine ⟨hL, ⟨by decide, by decide⟩, fun v1 L1 hL1 a1 b1 => ⟨hL1, ⟨by decide, by decide⟩, fun v2 L2 hL2 a2 b2 => ⟨⟨by decide, by decide, by decide⟩, hL2, ⟨by decide, by decide⟩, fun v3 L3 hL3 a3 b3 => ⟨by decide, hL3, ⟨by decide, by decide⟩, fun x hx L4 hL4 =>
      ⟨hL4, ⟨by decide, by decide⟩, fun v5 L5 hL5 a5 b5 => ⟨hL5, ⟨by decide, by decide⟩, fun v6 L6 hL6 a6 b6 => ⟨by decide, hL6, ⟨by decide, by decide⟩, fun y hy L7 hL7 => ?_⟩⟩⟩⟩⟩⟩⟩
    obtain ⟨m, rfl, hm, hm2⟩ : ∃ m : Int, x = .int m ∧ 0 ≤ m ∧ m < 10000000 := by
      simp only [List.mem_cons, List.not_mem_nil, or_false] at hx
      have e : (10 : Int) ^ Int.toNat 6 = 1000000 := by decide
      rcases hx with rfl | rfl | rfl | rfl | rfl <;> exact ⟨_, rfl, by omega, by omega⟩
    obtain ⟨r0, rfl, hr0, hr1⟩ : ∃ r : Int, y = .int r ∧ 0 ≤ r ∧ r < 120 := by
      simp only [List.mem_cons, List.not_mem_nil, or_false] at hy
      rcases hy with rfl | rfl <;> exact ⟨_, rfl, by omega, by omega⟩
    walk_at "dl"
    refine ⟨hL7, ⟨by decide, by decide⟩, fun w0 L8 hL8 a8 b8 => ?_⟩
    refine ⟨hL8, ⟨by decide, by decide⟩, fun u1 L9 hL9 c1 d1 => ⟨hL9, ⟨by decide, by decide⟩, fun u2 L10 hL10 c2 d2 => ⟨⟨by decide, by decide, by decide⟩, hL10, ⟨by decide, by decide⟩, fun u3 L11 hL11 c3 d3 => ⟨by decide, hL11, ⟨by decide, by decide⟩, fun z hz L12 hL12 => ?_⟩⟩⟩⟩
    obtain ⟨e, rfl, he⟩ : ∃ e : Int, z = .int e ∧ 0 ≤ e := by
      simp only [List.mem_cons, List.not_mem_nil, or_false] at hz
      rcases hz with rfl | rfl | rfl | rfl | rfl <;> exact ⟨_, rfl, by omega⟩
    have hwd : Wd (1 + w0) := ⟨by omega, by omega⟩
    have hrm : Rm (1 + r0) := ⟨by omega, by omega⟩
    refine ⟨L12, m, 1 + r0, 1 + w0, e, rfl, hwd, hrm, hm, he, ?_⟩
    walk_at "dl"
    refine ⟨L12, m, 1 + r0, 1 + w0, rfl, hL12, hwd, hrm, hm, hm2, fun L13 hL13 => ?_⟩
    walk_at "dl"
    exact Wk.mk ⟨L13, _, _, _, _, _, hL13, rfl⟩
  · rintro _ ⟨L, s2, s3, s4, s5, s6, hL, rfl⟩
    walk_at "dl"
    exact q

end
end K07

set_option Elab.async false
set_option linter.all false
set_option maxRecDepth 100000
set_option maxHeartbeats 4000000
namespace K07
open PySem PySem.Spec L2 DL
open PyProof.Rows hiding St
theorem all_mk {l : PySem.W.OpenLaw} {w : World} {K : PySem.W.Frag} {h : Heap} {mg : Str → Option Value} {fa : Addr} (X : K.In h) (G : h.Ns mainGlobals mg) (hfa : mg "law" = some (.ref fa))
    {f0 : Addr} {od0 an0 : Option Addr} {sl0 : Array (Option Value)} {oc0 kV0 dc0 pm0 cd0 ct0 : Value}
    {f1 : Addr} {od1 an1 : Option Addr} {sl1 : Array (Option Value)} {oc1 kV1 dc1 pm1 cd1 ct1 : Value}
    {f2 : Addr} {od2 an2 : Option Addr} {sl2 : Array (Option Value)} {oc2 kV2 dc2 pm2 cd2 ct2 : Value}
    {f3 : Addr} {od3 an3 : Option Addr} {sl3 : Array (Option Value)} {oc3 kV3 dc3 pm3 cd3 ct3 : Value}
    {f4 : Addr} {od4 an4 : Option Addr} {sl4 : Array (Option Value)} {oc4 kV4 dc4 pm4 cd4 ct4 : Value}
    {f5 : Addr} {od5 an5 : Option Addr} {sl5 : Array (Option Value)} {oc5 kV5 dc5 pm5 cd5 ct5 : Value}
    {f6 : Addr} {od6 an6 : Option Addr} {sl6 : Array (Option Value)} {oc6 kV6 dc6 pm6 cd6 ct6 : Value}
    {f7 : Addr} {od7 an7 : Option Addr} {sl7 : Array (Option Value)} {oc7 kV7 dc7 pm7 cd7 ct7 : Value}
    {f8 : Addr} {od8 an8 : Option Addr} {sl8 : Array (Option Value)} {oc8 kV8 dc8 pm8 cd8 ct8 : Value}
    {f9 : Addr} {od9 an9 : Option Addr} {sl9 : Array (Option Value)} {oc9 kV9 dc9 pm9 cd9 ct9 : Value}
    {f10 : Addr} {od10 an10 : Option Addr} {sl10 : Array (Option Value)} {oc10 kV10 dc10 pm10 cd10 ct10 : Value}
    {f11 : Addr} {od11 an11 : Option Addr} {sl11 : Array (Option Value)} {oc11 kV11 dc11 pm11 cd11 ct11 : Value}
    {f12 : Addr} {od12 an12 : Option Addr} {sl12 : Array (Option Value)} {oc12 kV12 dc12 pm12 cd12 ct12 : Value}
    {f13 : Addr} {od13 an13 : Option Addr} {sl13 : Array (Option Value)} {oc13 kV13 dc13 pm13 cd13 ct13 : Value}
    {f14 : Addr} {od14 an14 : Option Addr} {sl14 : Array (Option Value)} {oc14 kV14 dc14 pm14 cd14 ct14 : Value}
    {f15 : Addr} {od15 an15 : Option Addr} {sl15 : Array (Option Value)} {oc15 kV15 dc15 pm15 cd15 ct15 : Value}
    {f16 : Addr} {od16 an16 : Option Addr} {sl16 : Array (Option Value)} {oc16 kV16 dc16 pm16 cd16 ct16 : Value}
    {f17 : Addr} {od17 an17 : Option Addr} {sl17 : Array (Option Value)} {oc17 kV17 dc17 pm17 cd17 ct17 : Value}
    {f18 : Addr} {od18 an18 : Option Addr} {sl18 : Array (Option Value)} {oc18 kV18 dc18 pm18 cd18 ct18 : Value}
    {f19 : Addr} {od19 an19 : Option Addr} {sl19 : Array (Option Value)} {oc19 kV19 dc19 pm19 cd19 ct19 : Value}
    {f20 : Addr} {od20 an20 : Option Addr} {sl20 : Array (Option Value)} {oc20 kV20 dc20 pm20 cd20 ct20 : Value}
    {f21 : Addr} {od21 an21 : Option Addr} {sl21 : Array (Option Value)} {oc21 kV21 dc21 pm21 cd21 ct21 : Value}
    {f22 : Addr} {od22 an22 : Option Addr} {sl22 : Array (Option Value)} {oc22 kV22 dc22 pm22 cd22 ct22 : Value}
    {f23 : Addr} {od23 an23 : Option Addr} {sl23 : Array (Option Value)} {oc23 kV23 dc23 pm23 cd23 ct23 : Value}
    {f24 : Addr} {od24 an24 : Option Addr} {sl24 : Array (Option Value)} {oc24 kV24 dc24 pm24 cd24 ct24 : Value}
    {f25 : Addr} {od25 an25 : Option Addr} {sl25 : Array (Option Value)} {oc25 kV25 dc25 pm25 cd25 ct25 : Value}
    {f26 : Addr} {od26 an26 : Option Addr} {sl26 : Array (Option Value)} {oc26 kV26 dc26 pm26 cd26 ct26 : Value}
    {f27 : Addr} {od27 an27 : Option Addr} {sl27 : Array (Option Value)} {oc27 kV27 dc27 pm27 cd27 ct27 : Value}
    {f28 : Addr} {od28 an28 : Option Addr} {sl28 : Array (Option Value)} {oc28 kV28 dc28 pm28 cd28 ct28 : Value}
    {f29 : Addr} {od29 an29 : Option Addr} {sl29 : Array (Option Value)} {oc29 kV29 dc29 pm29 cd29 ct29 : Value}
    {f30 : Addr} {od30 an30 : Option Addr} {sl30 : Array (Option Value)} {oc30 kV30 dc30 pm30 cd30 ct30 : Value}
    {f31 : Addr} {od31 an31 : Option Addr} {sl31 : Array (Option Value)} {oc31 kV31 dc31 pm31 cd31 ct31 : Value}
    (z_abs : PySem.W.nsIn K mainGlobals "abs" = some none)
    (z_all : PySem.W.nsIn K mainGlobals "all" = some none)
    (z_bool : PySem.W.nsIn K mainGlobals "bool" = some none)
    (z_dict : PySem.W.nsIn K mainGlobals "dict" = some none)
    (z_int : PySem.W.nsIn K mainGlobals "int" = some none)
    (z_isinstance : PySem.W.nsIn K mainGlobals "isinstance" = some none)
    (z_len : PySem.W.nsIn K mainGlobals "len" = some none)
    (z_list : PySem.W.nsIn K mainGlobals "list" = some none)
    (z_max : PySem.W.nsIn K mainGlobals "max" = some none)
    (z_min : PySem.W.nsIn K mainGlobals "min" = some none)
    (z_range : PySem.W.nsIn K mainGlobals "range" = some none)
    (z_sorted : PySem.W.nsIn K mainGlobals "sorted" = some none)
    (z_str : PySem.W.nsIn K mainGlobals "str" = some none)
    (z_sum : PySem.W.nsIn K mainGlobals "sum" = some none)
    (z_tuple : PySem.W.nsIn K mainGlobals "tuple" = some none)
    (z_zip : PySem.W.nsIn K mainGlobals "zip" = some none)
    (a0 : PySem.W.nsIn K mainGlobals "is_whole" = some (some (.ref f0))) (l0 : K.lookup f0 = some ⟨oc0, od0, .func (PySem.W.fnOf "is_whole" "is_whole" (defArgs s_is_whole) (defBody s_is_whole) (defScope s_is_whole) .none kV0 dc0 pm0 an0 cd0 ct0), sl0⟩) (c0 : PySem.W.codeIn K cd0 "is_whole" = true) (k0 : PySem.W.keepIn K (.ref f0) = true)
    (a1 : PySem.W.nsIn K mainGlobals "rows_for" = some (some (.ref f1))) (l1 : K.lookup f1 = some ⟨oc1, od1, .func (PySem.W.fnOf "rows_for" "rows_for" (defArgs s_rows_for) (defBody s_rows_for) (defScope s_rows_for) .none kV1 dc1 pm1 an1 cd1 ct1), sl1⟩) (c1 : PySem.W.codeIn K cd1 "rows_for" = true) (k1 : PySem.W.keepIn K (.ref f1) = true)
    (a2 : PySem.W.nsIn K mainGlobals "spill" = some (some (.ref f2))) (l2 : K.lookup f2 = some ⟨oc2, od2, .func (PySem.W.fnOf "spill" "spill" (defArgs s_spill) (defBody s_spill) (defScope s_spill) .none kV2 dc2 pm2 an2 cd2 ct2), sl2⟩) (c2 : PySem.W.codeIn K cd2 "spill" = true) (k2 : PySem.W.keepIn K (.ref f2) = true)
    (a3 : PySem.W.nsIn K mainGlobals "longest" = some (some (.ref f3))) (l3 : K.lookup f3 = some ⟨oc3, od3, .func (PySem.W.fnOf "longest" "longest" (defArgs s_longest) (defBody s_longest) (defScope s_longest) .none kV3 dc3 pm3 an3 cd3 ct3), sl3⟩) (c3 : PySem.W.codeIn K cd3 "longest" = true) (k3 : PySem.W.keepIn K (.ref f3) = true)
    (a4 : PySem.W.nsIn K mainGlobals "needs_of" = some (some (.ref f4))) (l4 : K.lookup f4 = some ⟨oc4, od4, .func (PySem.W.fnOf "needs_of" "needs_of" (defArgs s_needs_of) (defBody s_needs_of) (defScope s_needs_of) .none kV4 dc4 pm4 an4 cd4 ct4), sl4⟩) (c4 : PySem.W.codeIn K cd4 "needs_of" = true) (k4 : PySem.W.keepIn K (.ref f4) = true)
    (a5 : PySem.W.nsIn K mainGlobals "free_of" = some (some (.ref f5))) (l5 : K.lookup f5 = some ⟨oc5, od5, .func (PySem.W.fnOf "free_of" "free_of" (defArgs s_free_of) (defBody s_free_of) (defScope s_free_of) .none kV5 dc5 pm5 an5 cd5 ct5), sl5⟩) (c5 : PySem.W.codeIn K cd5 "free_of" = true) (k5 : PySem.W.keepIn K (.ref f5) = true)
    (a6 : PySem.W.nsIn K mainGlobals "spill_behind" = some (some (.ref f6))) (l6 : K.lookup f6 = some ⟨oc6, od6, .func (PySem.W.fnOf "spill_behind" "spill_behind" (defArgs s_spill_behind) (defBody s_spill_behind) (defScope s_spill_behind) .none kV6 dc6 pm6 an6 cd6 ct6), sl6⟩) (c6 : PySem.W.codeIn K cd6 "spill_behind" = true) (k6 : PySem.W.keepIn K (.ref f6) = true)
    (a7 : PySem.W.nsIn K mainGlobals "greatest_spill" = some (some (.ref f7))) (l7 : K.lookup f7 = some ⟨oc7, od7, .func (PySem.W.fnOf "greatest_spill" "greatest_spill" (defArgs s_greatest_spill) (defBody s_greatest_spill) (defScope s_greatest_spill) .none kV7 dc7 pm7 an7 cd7 ct7), sl7⟩) (c7 : PySem.W.codeIn K cd7 "greatest_spill" = true) (k7 : PySem.W.keepIn K (.ref f7) = true)
    (a8 : PySem.W.nsIn K mainGlobals "least_spill" = some (some (.ref f8))) (l8 : K.lookup f8 = some ⟨oc8, od8, .func (PySem.W.fnOf "least_spill" "least_spill" (defArgs s_least_spill) (defBody s_least_spill) (defScope s_least_spill) .none kV8 dc8 pm8 an8 cd8 ct8), sl8⟩) (c8 : PySem.W.codeIn K cd8 "least_spill" = true) (k8 : PySem.W.keepIn K (.ref f8) = true)
    (a9 : PySem.W.nsIn K mainGlobals "is_put" = some (some (.ref f9))) (l9 : K.lookup f9 = some ⟨oc9, od9, .func (PySem.W.fnOf "is_put" "is_put" (defArgs s_is_put) (defBody s_is_put) (defScope s_is_put) .none kV9 dc9 pm9 an9 cd9 ct9), sl9⟩) (c9 : PySem.W.codeIn K cd9 "is_put" = true) (k9 : PySem.W.keepIn K (.ref f9) = true)
    (a10 : PySem.W.nsIn K mainGlobals "is_greatest" = some (some (.ref f10))) (l10 : K.lookup f10 = some ⟨oc10, od10, .func (PySem.W.fnOf "is_greatest" "is_greatest" (defArgs s_is_greatest) (defBody s_is_greatest) (defScope s_is_greatest) .none kV10 dc10 pm10 an10 cd10 ct10), sl10⟩) (c10 : PySem.W.codeIn K cd10 "is_greatest" = true) (k10 : PySem.W.keepIn K (.ref f10) = true)
    (a11 : PySem.W.nsIn K mainGlobals "is_least" = some (some (.ref f11))) (l11 : K.lookup f11 = some ⟨oc11, od11, .func (PySem.W.fnOf "is_least" "is_least" (defArgs s_is_least) (defBody s_is_least) (defScope s_is_least) .none kV11 dc11 pm11 an11 cd11 ct11), sl11⟩) (c11 : PySem.W.codeIn K cd11 "is_least" = true) (k11 : PySem.W.keepIn K (.ref f11) = true)
    (a12 : PySem.W.nsIn K mainGlobals "fewest_for" = some (some (.ref f12))) (l12 : K.lookup f12 = some ⟨oc12, od12, .func (PySem.W.fnOf "fewest_for" "fewest_for" (defArgs s_fewest_for) (defBody s_fewest_for) (defScope s_fewest_for) .none kV12 dc12 pm12 an12 cd12 ct12), sl12⟩) (c12 : PySem.W.codeIn K cd12 "fewest_for" = true) (k12 : PySem.W.keepIn K (.ref f12) = true)
    (a13 : PySem.W.nsIn K mainGlobals "most_for" = some (some (.ref f13))) (l13 : K.lookup f13 = some ⟨oc13, od13, .func (PySem.W.fnOf "most_for" "most_for" (defArgs s_most_for) (defBody s_most_for) (defScope s_most_for) .none kV13 dc13 pm13 an13 cd13 ct13), sl13⟩) (c13 : PySem.W.codeIn K cd13 "most_for" = true) (k13 : PySem.W.keepIn K (.ref f13) = true)
    (a14 : PySem.W.nsIn K mainGlobals "_law_bag" = some (some (.ref f14))) (l14 : K.lookup f14 = some ⟨oc14, od14, .func (PySem.W.fnOf "_law_bag" "_law_bag" (defArgs s_law_bag) (defBody s_law_bag) (defScope s_law_bag) .none kV14 dc14 pm14 an14 cd14 ct14), sl14⟩) (c14 : PySem.W.codeIn K cd14 "_law_bag" = true) (k14 : PySem.W.keepIn K (.ref f14) = true)
    (a15 : PySem.W.nsIn K mainGlobals "_law_take" = some (some (.ref f15))) (l15 : K.lookup f15 = some ⟨oc15, od15, .func (PySem.W.fnOf "_law_take" "_law_take" (defArgs s_law_take) (defBody s_law_take) (defScope s_law_take) .none kV15 dc15 pm15 an15 cd15 ct15), sl15⟩) (c15 : PySem.W.codeIn K cd15 "_law_take" = true) (k15 : PySem.W.keepIn K (.ref f15) = true)
    (a16 : PySem.W.nsIn K mainGlobals "_law_some" = some (some (.ref f16))) (l16 : K.lookup f16 = some ⟨oc16, od16, .func (PySem.W.fnOf "_law_some" "_law_some" (defArgs s_law_some) (defBody s_law_some) (defScope s_law_some) .none kV16 dc16 pm16 an16 cd16 ct16), sl16⟩) (c16 : PySem.W.codeIn K cd16 "_law_some" = true) (k16 : PySem.W.keepIn K (.ref f16) = true)
    (a17 : PySem.W.nsIn K mainGlobals "_law_kind" = some (some (.ref f17))) (l17 : K.lookup f17 = some ⟨oc17, od17, .func (PySem.W.fnOf "_law_kind" "_law_kind" (defArgs s_law_kind) (defBody s_law_kind) (defScope s_law_kind) .none kV17 dc17 pm17 an17 cd17 ct17), sl17⟩) (c17 : PySem.W.codeIn K cd17 "_law_kind" = true) (k17 : PySem.W.keepIn K (.ref f17) = true)
    (a18 : PySem.W.nsIn K mainGlobals "_law_alike" = some (some (.ref f18))) (l18 : K.lookup f18 = some ⟨oc18, od18, .func (PySem.W.fnOf "_law_alike" "_law_alike" (defArgs s_law_alike) (defBody s_law_alike) (defScope s_law_alike) .none kV18 dc18 pm18 an18 cd18 ct18), sl18⟩) (c18 : PySem.W.codeIn K cd18 "_law_alike" = true) (k18 : PySem.W.keepIn K (.ref f18) = true)
    (a19 : PySem.W.nsIn K mainGlobals "_law_more_rows" = some (some (.ref f19))) (l19 : K.lookup f19 = some ⟨oc19, od19, .func (PySem.W.fnOf "_law_more_rows" "_law_more_rows" (defArgs s_law_more_rows) (defBody s_law_more_rows) (defScope s_law_more_rows) .none kV19 dc19 pm19 an19 cd19 ct19), sl19⟩) (c19 : PySem.W.codeIn K cd19 "_law_more_rows" = true) (k19 : PySem.W.keepIn K (.ref f19) = true)
    (a20 : PySem.W.nsIn K mainGlobals "_law_spill" = some (some (.ref f20))) (l20 : K.lookup f20 = some ⟨oc20, od20, .func (PySem.W.fnOf "_law_spill" "_law_spill" (defArgs s_law_spill) (defBody s_law_spill) (defScope s_law_spill) .none kV20 dc20 pm20 an20 cd20 ct20), sl20⟩) (c20 : PySem.W.codeIn K cd20 "_law_spill" = true) (k20 : PySem.W.keepIn K (.ref f20) = true)
    (a21 : PySem.W.nsIn K mainGlobals "_law_slack" = some (some (.ref f21))) (l21 : K.lookup f21 = some ⟨oc21, od21, .func (PySem.W.fnOf "_law_slack" "_law_slack" (defArgs s_law_slack) (defBody s_law_slack) (defScope s_law_slack) .none kV21 dc21 pm21 an21 cd21 ct21), sl21⟩) (c21 : PySem.W.codeIn K cd21 "_law_slack" = true) (k21 : PySem.W.keepIn K (.ref f21) = true)
    (a22 : PySem.W.nsIn K mainGlobals "_law_greatest" = some (some (.ref f22))) (l22 : K.lookup f22 = some ⟨oc22, od22, .func (PySem.W.fnOf "_law_greatest" "_law_greatest" (defArgs s_law_greatest) (defBody s_law_greatest) (defScope s_law_greatest) .none kV22 dc22 pm22 an22 cd22 ct22), sl22⟩) (c22 : PySem.W.codeIn K cd22 "_law_greatest" = true) (k22 : PySem.W.keepIn K (.ref f22) = true)
    (a23 : PySem.W.nsIn K mainGlobals "_law_least" = some (some (.ref f23))) (l23 : K.lookup f23 = some ⟨oc23, od23, .func (PySem.W.fnOf "_law_least" "_law_least" (defArgs s_law_least) (defBody s_law_least) (defScope s_law_least) .none kV23 dc23 pm23 an23 cd23 ct23), sl23⟩) (c23 : PySem.W.codeIn K cd23 "_law_least" = true) (k23 : PySem.W.keepIn K (.ref f23) = true)
    (a24 : PySem.W.nsIn K mainGlobals "_law_fewest" = some (some (.ref f24))) (l24 : K.lookup f24 = some ⟨oc24, od24, .func (PySem.W.fnOf "_law_fewest" "_law_fewest" (defArgs s_law_fewest) (defBody s_law_fewest) (defScope s_law_fewest) .none kV24 dc24 pm24 an24 cd24 ct24), sl24⟩) (c24 : PySem.W.codeIn K cd24 "_law_fewest" = true) (k24 : PySem.W.keepIn K (.ref f24) = true)
    (a25 : PySem.W.nsIn K mainGlobals "_law_worst" = some (some (.ref f25))) (l25 : K.lookup f25 = some ⟨oc25, od25, .func (PySem.W.fnOf "_law_worst" "_law_worst" (defArgs s_law_worst) (defBody s_law_worst) (defScope s_law_worst) .none kV25 dc25 pm25 an25 cd25 ct25), sl25⟩) (c25 : PySem.W.codeIn K cd25 "_law_worst" = true) (k25 : PySem.W.keepIn K (.ref f25) = true)
    (a26 : PySem.W.nsIn K mainGlobals "_law_best" = some (some (.ref f26))) (l26 : K.lookup f26 = some ⟨oc26, od26, .func (PySem.W.fnOf "_law_best" "_law_best" (defArgs s_law_best) (defBody s_law_best) (defScope s_law_best) .none kV26 dc26 pm26 an26 cd26 ct26), sl26⟩) (c26 : PySem.W.codeIn K cd26 "_law_best" = true) (k26 : PySem.W.keepIn K (.ref f26) = true)
    (a27 : PySem.W.nsIn K mainGlobals "_law_behind" = some (some (.ref f27))) (l27 : K.lookup f27 = some ⟨oc27, od27, .func (PySem.W.fnOf "_law_behind" "_law_behind" (defArgs s_law_behind) (defBody s_law_behind) (defScope s_law_behind) .none kV27 dc27 pm27 an27 cd27 ct27), sl27⟩) (c27 : PySem.W.codeIn K cd27 "_law_behind" = true) (k27 : PySem.W.keepIn K (.ref f27) = true)
    (a28 : PySem.W.nsIn K mainGlobals "_law_is_put" = some (some (.ref f28))) (l28 : K.lookup f28 = some ⟨oc28, od28, .func (PySem.W.fnOf "_law_is_put" "_law_is_put" (defArgs s_law_is_put) (defBody s_law_is_put) (defScope s_law_is_put) .none kV28 dc28 pm28 an28 cd28 ct28), sl28⟩) (c28 : PySem.W.codeIn K cd28 "_law_is_put" = true) (k28 : PySem.W.keepIn K (.ref f28) = true)
    (a29 : PySem.W.nsIn K mainGlobals "_law_spills_right" = some (some (.ref f29))) (l29 : K.lookup f29 = some ⟨oc29, od29, .func (PySem.W.fnOf "_law_spills_right" "_law_spills_right" (defArgs s_law_spills_right) (defBody s_law_spills_right) (defScope s_law_spills_right) .none kV29 dc29 pm29 an29 cd29 ct29), sl29⟩) (c29 : PySem.W.codeIn K cd29 "_law_spills_right" = true) (k29 : PySem.W.keepIn K (.ref f29) = true)
    (a30 : PySem.W.nsIn K mainGlobals "_law_bounds_right" = some (some (.ref f30))) (l30 : K.lookup f30 = some ⟨oc30, od30, .func (PySem.W.fnOf "_law_bounds_right" "_law_bounds_right" (defArgs s_law_bounds_right) (defBody s_law_bounds_right) (defScope s_law_bounds_right) .none kV30 dc30 pm30 an30 cd30 ct30), sl30⟩) (c30 : PySem.W.codeIn K cd30 "_law_bounds_right" = true) (k30 : PySem.W.keepIn K (.ref f30) = true)
    (a31 : PySem.W.nsIn K mainGlobals "law" = some (some (.ref f31))) (l31 : K.lookup f31 = some ⟨oc31, od31, .func (PySem.W.fnOf "law" "law" (defArgs s_law) (defBody s_law) (defScope s_law) .none kV31 dc31 pm31 an31 cd31 ct31), sl31⟩) (c31 : PySem.W.codeIn K cd31 "law" = true) (k31 : PySem.W.keepIn K (.ref f31) = true) :
    ∃ fd : FuncData, (∀ (s : Shared) (v : Value), BindsTo s fd ⟨[v], []⟩ [("script", v)]) ∧ ∀ base : Heap, K.In base → base.Ns mainGlobals mg → FnOk l.prog w K mg base CX0 7 fa fd ["script"] (spLaw K) := by
  have T : Txt K mg := ⟨PySem.W.mg_none_of X G z_abs,
    PySem.W.mg_none_of X G z_all,
    PySem.W.mg_none_of X G z_bool,
    PySem.W.mg_none_of X G z_dict,
    PySem.W.mg_none_of X G z_int,
    PySem.W.mg_none_of X G z_isinstance,
    PySem.W.mg_none_of X G z_len,
    PySem.W.mg_none_of X G z_list,
    PySem.W.mg_none_of X G z_max,
    PySem.W.mg_none_of X G z_min,
    PySem.W.mg_none_of X G z_range,
    PySem.W.mg_none_of X G z_sorted,
    PySem.W.mg_none_of X G z_str,
    PySem.W.mg_none_of X G z_sum,
    PySem.W.mg_none_of X G z_tuple,
    PySem.W.mg_none_of X G z_zip,
    DefAt.of X G a0 l0 c0 k0 (fun _ _ _ _ _ _ us hl => match us, hl with | [_], _ => rfl),
    DefAt.of X G a1 l1 c1 k1 (fun _ _ _ _ _ _ us hl => match us, hl with | [_, _], _ => rfl),
    DefAt.of X G a2 l2 c2 k2 (fun _ _ _ _ _ _ us hl => match us, hl with | [_, _], _ => rfl),
    DefAt.of X G a3 l3 c3 k3 (fun _ _ _ _ _ _ us hl => match us, hl with | [_, _], _ => rfl),
    DefAt.of X G a4 l4 c4 k4 (fun _ _ _ _ _ _ us hl => match us, hl with | [_, _], _ => rfl),
    DefAt.of X G a5 l5 c5 k5 (fun _ _ _ _ _ _ us hl => match us, hl with | [_, _], _ => rfl),
    DefAt.of X G a6 l6 c6 k6 (fun _ _ _ _ _ _ us hl => match us, hl with | [_, _, _], _ => rfl),
    DefAt.of X G a7 l7 c7 k7 (fun _ _ _ _ _ _ us hl => match us, hl with | [_, _, _], _ => rfl),
    DefAt.of X G a8 l8 c8 k8 (fun _ _ _ _ _ _ us hl => match us, hl with | [_, _, _], _ => rfl),
    DefAt.of X G a9 l9 c9 k9 (fun _ _ _ _ _ _ us hl => match us, hl with | [_, _, _], _ => rfl),
    DefAt.of X G a10 l10 c10 k10 (fun _ _ _ _ _ _ us hl => match us, hl with | [_, _, _, _], _ => rfl),
    DefAt.of X G a11 l11 c11 k11 (fun _ _ _ _ _ _ us hl => match us, hl with | [_, _, _, _], _ => rfl),
    DefAt.of X G a12 l12 c12 k12 (fun _ _ _ _ _ _ us hl => match us, hl with | [_, _, _], _ => rfl),
    DefAt.of X G a13 l13 c13 k13 (fun _ _ _ _ _ _ us hl => match us, hl with | [_, _, _], _ => rfl),
    DefAt.of X G a14 l14 c14 k14 (fun _ _ _ _ _ _ us hl => match us, hl with | [_], _ => rfl),
    DefAt.of X G a15 l15 c15 k15 (fun _ _ _ _ _ _ us hl => match us, hl with | [_, _], _ => rfl),
    DefAt.of X G a16 l16 c16 k16 (fun _ _ _ _ _ _ us hl => match us, hl with | [_, _], _ => rfl),
    DefAt.of X G a17 l17 c17 k17 (fun _ _ _ _ _ _ us hl => match us, hl with | [_], _ => rfl),
    DefAt.of X G a18 l18 c18 k18 (fun _ _ _ _ _ _ us hl => match us, hl with | [_, _], _ => rfl),
    DefAt.of X G a19 l19 c19 k19 (fun _ _ _ _ _ _ us hl => match us, hl with | [_, _], _ => rfl),
    DefAt.of X G a20 l20 c20 k20 (fun _ _ _ _ _ _ us hl => match us, hl with | [_, _], _ => rfl),
    DefAt.of X G a21 l21 c21 k21 (fun _ _ _ _ _ _ us hl => match us, hl with | [_, _], _ => rfl),
    DefAt.of X G a22 l22 c22 k22 (fun _ _ _ _ _ _ us hl => match us, hl with | [_, _, _, _], _ => rfl),
    DefAt.of X G a23 l23 c23 k23 (fun _ _ _ _ _ _ us hl => match us, hl with | [_, _, _, _], _ => rfl),
    DefAt.of X G a24 l24 c24 k24 (fun _ _ _ _ _ _ us hl => match us, hl with | [_, _, _, _], _ => rfl),
    DefAt.of X G a25 l25 c25 k25 (fun _ _ _ _ _ _ us hl => match us, hl with | [_, _, _, _], _ => rfl),
    DefAt.of X G a26 l26 c26 k26 (fun _ _ _ _ _ _ us hl => match us, hl with | [_, _, _, _], _ => rfl),
    DefAt.of X G a27 l27 c27 k27 (fun _ _ _ _ _ _ us hl => match us, hl with | [_, _], _ => rfl),
    DefAt.of X G a28 l28 c28 k28 (fun _ _ _ _ _ _ us hl => match us, hl with | [_, _, _], _ => rfl),
    DefAt.of X G a29 l29 c29 k29 (fun _ _ _ _ _ _ us hl => match us, hl with | [_, _, _, _, _], _ => rfl),
    DefAt.of X G a30 l30 c30 k30 (fun _ _ _ _ _ _ us hl => match us, hl with | [_, _, _, _], _ => rfl),
    DefAt.of X G a31 l31 c31 k31 (fun _ _ _ _ _ _ us hl => match us, hl with | [_], _ => rfl)⟩
  exact law_end X G hfa a31 l31 c31 k31 (fun s v => .of_eq rfl) fun base => okf_law T
end K07
open PySem PySem.W PyProof.Rows
set_option maxHeartbeats 0 in
theorem PySem.Challenge.cw_tailrooms_k07_whole_rooms_with_as_many_k_holds : PySem.Challenge.rw_tailrooms_k07_whole_rooms_with_as_many_k.Holds := by
  w_on; o_law; k_head; (case hw => w_witness2)
  k_fill
  refine L2.walk_of (l := PySem.Challenge.rw_tailrooms_k07_whole_rooms_with_as_many_k) (n := 63) (k := 7) (x := "script") (CX := fun _ => L2.CX0) (sp := fun w => DL.spLaw _) rfl (by decide) rfl ⟨rfl, by decide, by decide⟩ (fun w h Y => PySem.W.kIn_of Y) ?F (fun _ _ a ns hl _ hS => ⟨a, ns, rfl, hS, hl, fun _ => rfl⟩) (fun _ _ _ _ _ h => h)
  case F =>
    intro w mg fa h KX G hmg
    refine' K07.all_mk KX G hmg ?z_abs ?z_all ?z_bool ?z_dict ?z_int ?z_isinstance ?z_len ?z_list ?z_max ?z_min ?z_range ?z_sorted ?z_str ?z_sum ?z_tuple ?z_zip ?a0 ?l0 ?c0 ?k0 ?a1 ?l1 ?c1 ?k1 ?a2 ?l2 ?c2 ?k2 ?a3 ?l3 ?c3 ?k3 ?a4 ?l4 ?c4 ?k4 ?a5 ?l5 ?c5 ?k5 ?a6 ?l6 ?c6 ?k6 ?a7 ?l7 ?c7 ?k7 ?a8 ?l8 ?c8 ?k8 ?a9 ?l9 ?c9 ?k9 ?a10 ?l10 ?c10 ?k10 ?a11 ?l11 ?c11 ?k11 ?a12 ?l12 ?c12 ?k12 ?a13 ?l13 ?c13 ?k13 ?a14 ?l14 ?c14 ?k14 ?a15 ?l15 ?c15 ?k15 ?a16 ?l16 ?c16 ?k16 ?a17 ?l17 ?c17 ?k17 ?a18 ?l18 ?c18 ?k18 ?a19 ?l19 ?c19 ?k19 ?a20 ?l20 ?c20 ?k20 ?a21 ?l21 ?c21 ?k21 ?a22 ?l22 ?c22 ?k22 ?a23 ?l23 ?c23 ?k23 ?a24 ?l24 ?c24 ?k24 ?a25 ?l25 ?c25 ?k25 ?a26 ?l26 ?c26 ?k26 ?a27 ?l27 ?c27 ?k27 ?a28 ?l28 ?c28 ?k28 ?a29 ?l29 ?c29 ?k29 ?a30 ?l30 ?c30 ?k30 ?a31 ?l31 ?c31 ?k31
    (case z_abs => k_is)
    (case z_all => k_is)
    (case z_bool => k_is)
    (case z_dict => k_is)
    (case z_int => k_is)
    (case z_isinstance => k_is)
    (case z_len => k_is)
    (case z_list => k_is)
    (case z_max => k_is)
    (case z_min => k_is)
    (case z_range => k_is)
    (case z_sorted => k_is)
    (case z_str => k_is)
    (case z_sum => k_is)
    (case z_tuple => k_is)
    (case z_zip => k_is)
    (case a0 => k_is)
    (case l0 => k_is)
    (case c0 => k_is)
    (case k0 => k_is)
    (case a1 => k_is)
    (case l1 => k_is)
    (case c1 => k_is)
    (case k1 => k_is)
    (case a2 => k_is)
    (case l2 => k_is)
    (case c2 => k_is)
    (case k2 => k_is)
    (case a3 => k_is)
    (case l3 => k_is)
    (case c3 => k_is)
    (case k3 => k_is)
    (case a4 => k_is)
    (case l4 => k_is)
    (case c4 => k_is)
    (case k4 => k_is)
    (case a5 => k_is)
    (case l5 => k_is)
    (case c5 => k_is)
    (case k5 => k_is)
    (case a6 => k_is)
    (case l6 => k_is)
    (case c6 => k_is)
    (case k6 => k_is)
    (case a7 => k_is)
    (case l7 => k_is)
    (case c7 => k_is)
    (case k7 => k_is)
    (case a8 => k_is)
    (case l8 => k_is)
    (case c8 => k_is)
    (case k8 => k_is)
    (case a9 => k_is)
    (case l9 => k_is)
    (case c9 => k_is)
    (case k9 => k_is)
    (case a10 => k_is)
    (case l10 => k_is)
    (case c10 => k_is)
    (case k10 => k_is)
    (case a11 => k_is)
    (case l11 => k_is)
    (case c11 => k_is)
    (case k11 => k_is)
    (case a12 => k_is)
    (case l12 => k_is)
    (case c12 => k_is)
    (case k12 => k_is)
    (case a13 => k_is)
    (case l13 => k_is)
    (case c13 => k_is)
    (case k13 => k_is)
    (case a14 => k_is)
    (case l14 => k_is)
    (case c14 => k_is)
    (case k14 => k_is)
    (case a15 => k_is)
    (case l15 => k_is)
    (case c15 => k_is)
    (case k15 => k_is)
    (case a16 => k_is)
    (case l16 => k_is)
    (case c16 => k_is)
    (case k16 => k_is)
    (case a17 => k_is)
    (case l17 => k_is)
    (case c17 => k_is)
    (case k17 => k_is)
    (case a18 => k_is)
    (case l18 => k_is)
    (case c18 => k_is)
    (case k18 => k_is)
    (case a19 => k_is)
    (case l19 => k_is)
    (case c19 => k_is)
    (case k19 => k_is)
    (case a20 => k_is)
    (case l20 => k_is)
    (case c20 => k_is)
    (case k20 => k_is)
    (case a21 => k_is)
    (case l21 => k_is)
    (case c21 => k_is)
    (case k21 => k_is)
    (case a22 => k_is)
    (case l22 => k_is)
    (case c22 => k_is)
    (case k22 => k_is)
    (case a23 => k_is)
    (case l23 => k_is)
    (case c23 => k_is)
    (case k23 => k_is)
    (case a24 => k_is)
    (case l24 => k_is)
    (case c24 => k_is)
    (case k24 => k_is)
    (case a25 => k_is)
    (case l25 => k_is)
    (case c25 => k_is)
    (case k25 => k_is)
    (case a26 => k_is)
    (case l26 => k_is)
    (case c26 => k_is)
    (case k26 => k_is)
    (case a27 => k_is)
    (case l27 => k_is)
    (case c27 => k_is)
    (case k27 => k_is)
    (case a28 => k_is)
    (case l28 => k_is)
    (case c28 => k_is)
    (case k28 => k_is)
    (case a29 => k_is)
    (case l29 => k_is)
    (case c29 => k_is)
    (case k29 => k_is)
    (case a30 => k_is)
    (case l30 => k_is)
    (case c30 => k_is)
    (case k30 => k_is)
    (case a31 => k_is)
    (case l31 => k_is)
    (case c31 => k_is)
    (case k31 => k_is)
